import PyProof.Rows.All
import HandS.ForMost
import HandS.ForExc
import HandS.Wide
import HandS.TupAny
import HandS.TupMul
import HandS.Style
import HandS.IsInst
import HandS.Deep
import KE.KTupSum
import KE.GoesEnum
import KE.GoesMore
import HandS.Zip
import KE.KRevSl
import HandS.TryMany
import HandS.WideMore
import HandS.Gcd
import HandS.Conv
import HandS.TupSets
import PySem.Challenge.RW_whoknows_k24_plans_and_worths
set_option Elab.async false
set_option linter.all false
set_option maxRecDepth 100000
section
/-! Sh: plain functions that a def's body is tied to, construct by construct. -/
namespace Sh
open PySem PySem.Spec PyProof.Rows L2

/-! ### values of the plain side -/
inductive W where
  | d (x : PyData)
  | ref (n : Nat)
  | cst (v : V)
  | tup (ws : List W)
  | fl (xs : List PyData)
abbrev Row := List (Str × W)
inductive Ob where
  | lst (ws : List W)
  | dct (kvs : List (PyData × W))
  | ins (C : Addr) (fs : Row)
abbrev Sto := List Ob
structure Exn where
  cls : Str
  fld : Option (Str × W) := none
inductive Out (α : Type) where
  | ok (a : α) (S : Sto)
  | exc (e : Exn) (S : Sto)
  | bad
@[reducible] def Out.bind {α β : Type} (o : Out α) (f : α → Sto → Out β) : Out β := match o with
  | .ok a S => f a S
  | .exc e S => .exc e S
  | .bad => .bad
@[reducible] def Out.ofO {α : Type} (S : Sto) : Option α → Out α
  | some a => .ok a S
  | none => .bad
/-- a bound that the kernel never counts -/
def In62 (j : Int) : Prop := -(2 ^ 62) ≤ j ∧ j < 2 ^ 62
noncomputable instance {j : Int} : Decidable (In62 j) := Classical.propDecidable _
def In63 (j : Int) : Prop := -(2 ^ 63) ≤ j ∧ j < 2 ^ 63
noncomputable instance {j : Int} : Decidable (In63 j) := Classical.propDecidable _
abbrev Rho := List (Option W)
abbrev EM := Rho → Sto → Out W
abbrev AM := Rho → Sto → Out (List W)
abbrev BM := Rho → Sto → Out Bool
inductive Fl where
  | nx (ρ : Rho) | rt (w : W) | bk (ρ : Rho) | ct (ρ : Rho) | ex (e : Exn) (ρ : Rho)
abbrev SM := Rho → Sto → Out Fl

/-! ### how they stand in the heap -/
abbrev FS := Addr → Prop
def AgF (F : FS) (H H' : Hp) : Prop := ∀ b o, F b → H b = some o → H' b = some o
def StL (_ : PySem.W.Frag) (F : FS) (H : Hp) (a : Addr) (vs : List V) : Prop := vs.length ≤ sizeLine ∧ ∀ H', AgF F H H' → H' a = some (.lst vs)
/-- a list that is not tracked as such (the script) -/
def StF (K : PySem.W.Frag) (F : FS) (H : Hp) (a : Addr) (vs : List V) : Prop := vs.length ≤ sizeLine ∧ ∀ H', AgF F H H' → SqL K H' a vs
def StT (K : PySem.W.Frag) (F : FS) (H : Hp) (a : Addr) (vs : List V) : Prop := vs.length ≤ sizeLine ∧ ∀ H', AgF F H H' → SqT K H' a vs
theorem AgF.refl {F : FS} {H : Hp} : AgF F H H := fun _ _ _ h => h
theorem StL.tr {K F H a vs} (h : StL K F H a vs) : H a = some (.lst vs) := h.2 H .refl
theorem StL.now {K F H a vs} (h : StL K F H a vs) : SqL K H a vs := .of h.tr
theorem StF.now {K F H a vs} (h : StF K F H a vs) : SqL K H a vs := h.2 H .refl
theorem StT.now {K F H a vs} (h : StT K F H a vs) : SqT K H a vs := h.2 H .refl
theorem StL.mk' {K F H a vs} (hz : vs.length ≤ sizeLine) (hF : F a) (h : H a = some (.lst vs)) : StL K F H a vs := ⟨hz, fun _ g => g a _ hF h⟩
theorem StT.mk' {K F H a vs} (hz : vs.length ≤ sizeLine) (hF : F a) (h : H a = some (.tup vs)) : StT K F H a vs := ⟨hz, fun _ g => SqT.of (g a _ hF h)⟩

mutual
inductive RD (K : PySem.W.Frag) (F : FS) (H : Hp) : PyData → V → Prop
  | non : RD K F H .none .non
  | bl (b : Bool) : RD K F H (.bool b) (.bl b)
  | int (i : Int) : RD K F H (.int i) (.int i)
  | str (x : Str) : RD K F H (.str x) (.str x)
  | lst {a : Addr} {vs : List V} {ds : List PyData} : StL K F H a vs → RDs K F H ds vs → RD K F H (.list ds) (.ref a)
  | tup {a : Addr} {vs : List V} {ds : List PyData} : StT K F H a vs → RDs K F H ds vs → RD K F H (.tuple ds) (.ref a)
inductive RDs (K : PySem.W.Frag) (F : FS) (H : Hp) : List PyData → List V → Prop
  | nil : RDs K F H [] []
  | cons {d : PyData} {v : V} {ds : List PyData} {vs : List V} : RD K F H d v → RDs K F H ds vs → RDs K F H (d :: ds) (v :: vs)
end
mutual
inductive RW (K : PySem.W.Frag) (F : FS) (ι : List Addr) (H : Hp) : W → V → Prop
  | d {x : PyData} {v : V} : RD K F H x v → RW K F ι H (.d x) v
  | ref {n : Nat} {a : Addr} : ι[n]? = some a → RW K F ι H (.ref n) (.ref a)
  | cst (v : V) : RW K F ι H (.cst v) v
  | tup {a : Addr} {vs : List V} {ws : List W} : StT K F H a vs → RWs K F ι H ws vs → RW K F ι H (.tup ws) (.ref a)
  | fl {a : Addr} {vs : List V} {xs : List PyData} : StF K F H a vs → RDs K F H xs vs → RW K F ι H (.fl xs) (.ref a)
inductive RWs (K : PySem.W.Frag) (F : FS) (ι : List Addr) (H : Hp) : List W → List V → Prop
  | nil : RWs K F ι H [] []
  | cons {w : W} {v : V} {ws : List W} {vs : List V} : RW K F ι H w v → RWs K F ι H ws vs → RWs K F ι H (w :: ws) (v :: vs)
end

/-- what values lean on is kept -/
structure Wk (F : FS) (ι : List Addr) (H : Hp) (F' : FS) (ι' : List Addr) (H' : Hp) : Prop where
  fs : ∀ a, F a → F' a
  ag : AgF F H H'
  pre : ∃ r, ι' = ι ++ r
theorem Wk.refl {F ι H} : Wk F ι H F ι H := ⟨fun _ h => h, .refl, ⟨[], by simp⟩⟩
theorem Wk.trans {F ι H F1 ι1 H1 F2 ι2 H2} (x : Wk F ι H F1 ι1 H1) (y : Wk F1 ι1 H1 F2 ι2 H2) : Wk F ι H F2 ι2 H2 := by
  refine ⟨fun a h => y.fs a (x.fs a h), fun b o f h => y.ag b o (x.fs b f) (x.ag b o f h), ?_⟩
  obtain ⟨r, e⟩ := x.pre
  obtain ⟨r', e'⟩ := y.pre
  exact ⟨r ++ r', by rw [e', e, List.append_assoc]⟩
/-- from (F, ι, H) on to (F', ι', H') -/
structure Ext (F : FS) (ι : List Addr) (H : Hp) (F' : FS) (ι' : List Addr) (H' : Hp) : Prop extends Wk F ι H F' ι' H' where
  keep : ∀ a o, H a = some o → a ∉ ι → H' a = some o
  nf : ∀ a, F' a → F a ∨ H a = none
  ni : ∀ a, a ∈ ι' → a ∈ ι ∨ H a = none
  st : ∀ a, H' a = none → H a = none
theorem Ext.refl {F ι H} : Ext F ι H F ι H := ⟨⟨fun _ h => h, .refl, ⟨[], by simp⟩⟩, fun _ _ h _ => h, fun _ h => .inl h, fun _ h => .inl h, fun _ h => h⟩
theorem Ext.trans {F ι H F1 ι1 H1 F2 ι2 H2} (x : Ext F ι H F1 ι1 H1) (y : Ext F1 ι1 H1 F2 ι2 H2) : Ext F ι H F2 ι2 H2 := by
  refine ⟨⟨fun a h => y.fs a (x.fs a h), fun b o f h => y.ag b o (x.fs b f) (x.ag b o f h), ?_⟩, fun a o h n => ?_, fun a h => ?_, fun a h => ?_, fun a h => x.st a (y.st a h)⟩
  · obtain ⟨r, e⟩ := x.pre
    obtain ⟨r', e'⟩ := y.pre
    exact ⟨r ++ r', by rw [e', e, List.append_assoc]⟩
  · refine y.keep a o (x.keep a o h n) fun hm => ?_
    rcases x.ni a hm with z | z
    · exact n z
    · rw [z] at h; cases h
  · rcases y.nf a h with z | z
    · exact x.nf a z
    · exact .inr (x.st a z)
  · rcases y.ni a h with z | z
    · exact x.ni a z
    · exact .inr (x.st a z)
theorem AgF.wk {F ι H F' ι' H' H2} (x : Wk F ι H F' ι' H') (g : AgF F' H' H2) : AgF F H H2 := fun b o f h => g b o (x.fs b f) (x.ag b o f h)
theorem StL.wk {K F ι H F' ι' H' a vs} (h : StL K F H a vs) (x : Wk F ι H F' ι' H') : StL K F' H' a vs := ⟨h.1, fun H2 g => h.2 H2 (g.wk x)⟩
theorem StF.wk {K F ι H F' ι' H' a vs} (h : StF K F H a vs) (x : Wk F ι H F' ι' H') : StF K F' H' a vs := ⟨h.1, fun H2 g => h.2 H2 (g.wk x)⟩
theorem StT.wk {K F ι H F' ι' H' a vs} (h : StT K F H a vs) (x : Wk F ι H F' ι' H') : StT K F' H' a vs := ⟨h.1, fun H2 g => h.2 H2 (g.wk x)⟩
mutual
theorem RD.wk {K F ι H F' ι' H'} (x : Wk F ι H F' ι' H') : ∀ {d : PyData} {v : V}, RD K F H d v → RD K F' H' d v
  | _, _, .non => .non
  | _, _, .bl b => .bl b
  | _, _, .int i => .int i
  | _, _, .str z => .str z
  | _, _, .lst s r => .lst (s.wk x) (RDs.wk x r)
  | _, _, .tup s r => .tup (s.wk x) (RDs.wk x r)
theorem RDs.wk {K F ι H F' ι' H'} (x : Wk F ι H F' ι' H') : ∀ {d : List PyData} {v : List V}, RDs K F H d v → RDs K F' H' d v
  | _, _, .nil => .nil
  | _, _, .cons a b => .cons (RD.wk x a) (RDs.wk x b)
end
mutual
theorem RW.wk {K F ι H F' ι' H'} (x : Wk F ι H F' ι' H') : ∀ {d : W} {v : V}, RW K F ι H d v → RW K F' ι' H' d v
  | _, _, .d r => .d (r.wk x)
  | _, _, .cst v => .cst v
  | _, _, .ref h => .ref (by
      obtain ⟨r, e⟩ := x.pre
      rw [e, List.getElem?_append_left (List.getElem?_eq_some_iff.mp h).1]; exact h)
  | _, _, .tup s r => .tup (s.wk x) (RWs.wk x r)
  | _, _, .fl s r => .fl (s.wk x) (RDs.wk x r)
theorem RWs.wk {K F ι H F' ι' H'} (x : Wk F ι H F' ι' H') : ∀ {d : List W} {v : List V}, RWs K F ι H d v → RWs K F' ι' H' d v
  | _, _, .nil => .nil
  | _, _, .cons a b => .cons (RW.wk x a) (RWs.wk x b)
end

theorem RD.ext {K F ι H F' ι' H'} (x : Ext F ι H F' ι' H') {d : PyData} {v : V} (r : RD K F H d v) : RD K F' H' d v := r.wk x.toWk
theorem RDs.ext {K F ι H F' ι' H'} (x : Ext F ι H F' ι' H') {d : List PyData} {v : List V} (r : RDs K F H d v) : RDs K F' H' d v := r.wk x.toWk
theorem RW.ext {K F ι H F' ι' H'} {d : W} {v : V} (r : RW K F ι H d v) (x : Ext F ι H F' ι' H') : RW K F' ι' H' d v := r.wk x.toWk
theorem RWs.ext {K F ι H F' ι' H'} {d : List W} {v : List V} (r : RWs K F ι H d v) (x : Ext F ι H F' ι' H') : RWs K F' ι' H' d v := r.wk x.toWk
theorem StL.ext {K F ι H F' ι' H' a vs} (h : StL K F H a vs) (x : Ext F ι H F' ι' H') : StL K F' H' a vs := h.wk x.toWk
theorem StT.ext {K F ι H F' ι' H' a vs} (h : StT K F H a vs) (x : Ext F ι H F' ι' H') : StT K F' H' a vs := h.wk x.toWk
/-- pure data does not look at the cells -/
theorem RW.pure {K F ι H x v} (h : RW K F ι H (.d x) v) : RD K F H x v := by cases h; assumption
theorem RDs.length {K F H} : ∀ {ds : List PyData} {vs : List V}, RDs K F H ds vs → ds.length = vs.length
  | _, _, .nil => rfl
  | _, _, .cons _ t => by rw [List.length_cons, List.length_cons, RDs.length t]
theorem RWs.length {K F ι H} : ∀ {ds : List W} {vs : List V}, RWs K F ι H ds vs → ds.length = vs.length
  | _, _, .nil => rfl
  | _, _, .cons _ t => by rw [List.length_cons, List.length_cons, RWs.length t]
theorem RDs.get {K F H} : ∀ {ds : List PyData} {vs : List V} {i : Nat} {v : V}, RDs K F H ds vs → vs[i]? = some v → ∃ d, ds[i]? = some d ∧ RD K F H d v
  | _, _, _, _, .nil, e => by simp at e
  | _, _, 0, _, .cons r _, e => by simp at e; subst e; exact ⟨_, rfl, r⟩
  | _, _, i + 1, v, .cons _ t, e => by
    obtain ⟨d, h1, h2⟩ := RDs.get (i := i) (v := v) t (by simpa using e)
    exact ⟨d, by simpa using h1, h2⟩
theorem RDs.get' {K F H} : ∀ {ds : List PyData} {vs : List V} {i : Nat} {d : PyData}, RDs K F H ds vs → ds[i]? = some d → ∃ v, vs[i]? = some v ∧ RD K F H d v
  | _, _, _, _, .nil, e => by simp at e
  | _, _, 0, _, .cons r _, e => by simp at e; subst e; exact ⟨_, rfl, r⟩
  | _, _, i + 1, v, .cons _ t, e => by
    obtain ⟨d, h1, h2⟩ := RDs.get' (i := i) (d := v) t (by simpa using e)
    exact ⟨d, by simpa using h1, h2⟩
theorem RWs.get' {K F ι H} : ∀ {ds : List W} {vs : List V} {i : Nat} {d : W}, RWs K F ι H ds vs → ds[i]? = some d → ∃ v, vs[i]? = some v ∧ RW K F ι H d v
  | _, _, _, _, .nil, e => by simp at e
  | _, _, 0, _, .cons r _, e => by simp at e; subst e; exact ⟨_, rfl, r⟩
  | _, _, i + 1, v, .cons _ t, e => by
    obtain ⟨d, h1, h2⟩ := RWs.get' (i := i) (d := v) t (by simpa using e)
    exact ⟨d, by simpa using h1, h2⟩
theorem RDs.append {K F H} : ∀ {xs ys : List PyData} {us ws : List V}, RDs K F H xs us → RDs K F H ys ws → RDs K F H (xs ++ ys) (us ++ ws)
  | _, _, _, _, .nil, s => s
  | _, _, _, _, .cons r t, s => .cons r (RDs.append t s)
theorem RWs.append {K F ι H} : ∀ {xs ys : List W} {us ws : List V}, RWs K F ι H xs us → RWs K F ι H ys ws → RWs K F ι H (xs ++ ys) (us ++ ws)
  | _, _, _, _, .nil, s => s
  | _, _, _, _, .cons r t, s => .cons r (RWs.append t s)
theorem RDs.take {K F H} : ∀ {xs : List PyData} {us : List V} (n : Nat), RDs K F H xs us → RDs K F H (xs.take n) (us.take n)
  | _, _, 0, _ => .nil
  | _, _, _ + 1, .nil => .nil
  | _, _, n + 1, .cons r t => .cons r (RDs.take n t)
theorem RDs.drop {K F H} : ∀ {xs : List PyData} {us : List V} (n : Nat), RDs K F H xs us → RDs K F H (xs.drop n) (us.drop n)
  | _, _, 0, r => r
  | _, _, _ + 1, .nil => .nil
  | _, _, n + 1, .cons _ t => RDs.drop n t
theorem RWs.set {K F ι H} {x : W} {u : V} (r : RW K F ι H x u) : ∀ {xs : List W} {us : List V} (i : Nat), RWs K F ι H xs us → RWs K F ι H (xs.set i x) (us.set i u)
  | _, _, _, .nil => .nil
  | _, _, 0, .cons _ t => .cons r t
  | _, _, i + 1, .cons q t => .cons q (RWs.set r i t)
theorem RWs.dropLast {K F ι H} : ∀ {xs : List W} {us : List V}, RWs K F ι H xs us → RWs K F ι H xs.dropLast us.dropLast
  | _, _, .nil => .nil
  | _, _, .cons _ .nil => .nil
  | _, _, .cons r (.cons q t) => .cons r (RWs.dropLast (.cons q t))
theorem RWs.ofD {K F ι H} : ∀ {xs : List PyData} {us : List V}, RDs K F H xs us → RWs K F ι H (xs.map .d) us
  | _, _, .nil => .nil
  | _, _, .cons r t => .cons (.d r) (RWs.ofD t)
theorem RWs.toD {K F ι H} : ∀ {xs : List PyData} {us : List V}, RWs K F ι H (xs.map .d) us → RDs K F H xs us
  | [], _, h => by cases h; exact .nil
  | x :: xs, _, h => by cases h with | cons r t => exact .cons r.pure (RWs.toD t)
mutual
theorem RD.toDp {K F H} : ∀ {d : PyData} {v : V}, RD K F H d v → Dp K H v d
  | _, _, .non => .non
  | _, _, .bl b => .bl b
  | _, _, .int i => .int i
  | _, _, .str z => .str z
  | _, _, .lst s r => .lst s.now (RDs.toDp r)
  | _, _, .tup s r => .tup s.now (RDs.toDp r)
theorem RDs.toDp {K F H} : ∀ {d : List PyData} {v : List V}, RDs K F H d v → DpAll K H v d
  | _, _, .nil => .nil
  | _, _, .cons a b => .cons (RD.toDp a) (RDs.toDp b)
end

/-! ### the cells -/
inductive RR (K : PySem.W.Frag) (F : FS) (ι : List Addr) (H : Hp) : Row → List (Str × V) → Prop
  | nil : RR K F ι H [] []
  | cons {f : Str} {w : W} {v : V} {ws : Row} {vs : List (Str × V)} : RW K F ι H w v → RR K F ι H ws vs → RR K F ι H ((f, w) :: ws) ((f, v) :: vs)
theorem RR.wk {K F ι H F' ι' H'} (x : Wk F ι H F' ι' H') : ∀ {d : Row} {v : List (Str × V)}, RR K F ι H d v → RR K F' ι' H' d v
  | _, _, .nil => .nil
  | _, _, .cons a b => .cons (RW.wk x a) (RR.wk x b)
def RO (K : PySem.W.Frag) (F : FS) (ι : List Addr) (H : Hp) (a : Addr) : Ob → Prop
  | .lst ws => ∃ vs, H a = some (.lst vs) ∧ RWs K F ι H ws vs ∧ ws.length ≤ sizeLine
  | .dct _ => False
  | .ins C fs => ∃ dx vs, H a = some (.ins C dx vs) ∧ RR K F ι H fs vs
structure Rel (K : PySem.W.Frag) (F : FS) (ι : List Addr) (S : Sto) (H : Hp) : Prop where
  len : ι.length = S.length
  nd : ι.Nodup
  dj : ∀ a, a ∈ ι → ¬ F a
  ft : ∀ a, F a → H a ≠ none
  cell : ∀ (n : Nat) (a : Addr) (o : Ob), ι[n]? = some a → S[n]? = some o → RO K F ι H a o
theorem RO.some {K F ι H a o} (h : RO K F ι H a o) : H a ≠ none := by
  cases o with
  | lst ws => obtain ⟨vs, e, _⟩ := h; rw [e]; simp
  | dct _ => exact h.elim
  | ins C fs => obtain ⟨dx, vs, e, _⟩ := h; rw [e]; simp
theorem Rel.there {K F ι S H} (R : Rel K F ι S H) {a : Addr} (h : a ∈ ι) : H a ≠ none := by
  obtain ⟨n, hn, e⟩ := List.getElem_of_mem h
  have h1 : ι[n]? = some a := by rw [List.getElem?_eq_getElem hn, e]
  have h2 : n < S.length := by rw [← R.len]; exact hn
  exact (R.cell n a S[n] h1 (List.getElem?_eq_getElem h2)).some
theorem Rel.nil {K F H} (hf : ∀ a, F a → H a ≠ none) : Rel K F [] [] H := ⟨rfl, .nil, fun _ h => by simp at h, hf, fun n a o h => by simp at h⟩
theorem upd_some {H : Hp} {p a : Addr} {o : HO} (h : H a ≠ none) : upd H p o a ≠ none := by
  by_cases e : a = p
  · subst e; rw [upd_same]; simp
  · rw [upd_ne e]; exact h
/-- a cell's content kept over an extension that leaves its address -/
theorem RO.wk {K F ι H F' ι' H' a o} (h : RO K F ι H a o) (x : Wk F ι H F' ι' H') (e : H' a = H a) : RO K F' ι' H' a o := by
  cases o with
  | lst ws => obtain ⟨vs, e1, r, z⟩ := h; exact ⟨vs, by rw [e, e1], r.wk x, z⟩
  | dct _ => exact h.elim
  | ins C fs => obtain ⟨dx, vs, e1, r⟩ := h; exact ⟨dx, vs, by rw [e, e1], r.wk x⟩

/-! ### steps of the heap -/
section
variable {K : PySem.W.Frag} {F : FS} {ι : List Addr} {S : Sto} {H : Hp} {p : Addr} {o : HO}
abbrev addF (F : FS) (p : Addr) : FS := fun a => a = p ∨ F a
/-- a new object that is never changed -/
theorem Ext.frz (n : H p = none) : Ext F ι H (addF F p) ι (upd H p o) := by
  have k : ∀ a u, H a = some u → upd H p o a = some u := fun a u e => by rw [upd_ne (ne_of_none e n)]; exact e
  refine ⟨⟨fun a h => .inr h, fun b u _ e => k b u e, ⟨[], by simp⟩⟩, fun a u e _ => k a u e, fun a h => ?_, fun a h => .inl h, fun a e => ?_⟩
  · rcases h with rfl | h
    · exact .inr n
    · exact .inl h
  · cases q : H a with
    | none => rfl
    | some u => rw [k a u q] at e; cases e
theorem Rel.frz (R : Rel K F ι S H) (n : H p = none) : Rel K (addF F p) ι S (upd H p o) := by
  refine ⟨R.len, R.nd, fun a h f => ?_, fun a f => ?_, fun m a ob h1 h2 => ?_⟩
  · rcases f with rfl | f
    · exact R.there h n
    · exact R.dj a h f
  · rcases f with rfl | f
    · rw [upd_same]; simp
    · exact upd_some (R.ft a f)
  · refine (R.cell m a ob h1 h2).wk (Ext.frz n).toWk ?_
    have : H a ≠ none := (R.cell m a ob h1 h2).some
    exact upd_ne fun e => this (e ▸ n)
/-- a new object that is not ours yet; written; then taken as one never changed, or as a cell -/
theorem Ext.lay (n : H p = none) : Ext F ι H F ι (upd H p o) := by
  have k : ∀ a u, H a = some u → upd H p o a = some u := fun a u e => by rw [upd_ne (ne_of_none e n)]; exact e
  refine ⟨⟨fun a h => h, fun b u _ e => k b u e, ⟨[], by simp⟩⟩, fun a u e _ => k a u e, fun a h => .inl h, fun a h => .inl h, fun a e => ?_⟩
  cases q : H a with
  | none => rfl
  | some u => rw [k a u q] at e; cases e
theorem Ext.wr0 {F' ι' H'} (x : Ext F ι H F' ι' H') (n : H p = none) : Ext F ι H F' ι' (upd H' p o) := by
  refine ⟨⟨x.fs, fun b u f e => ?_, x.pre⟩, fun a u e h => ?_, x.nf, x.ni, fun a e => ?_⟩
  · rw [upd_ne (ne_of_none e n)]; exact x.ag b u f e
  · rw [upd_ne (ne_of_none e n)]; exact x.keep a u e h
  · by_cases q : a = p
    · subst q; exact n
    · rw [upd_ne q] at e; exact x.st a e
theorem Wk.wr0 (n : ¬ F p) : Wk F ι H F ι (upd H p o) :=
  ⟨fun _ h => h, fun b u f e => by rw [upd_ne (show b ≠ p from fun q => n (q ▸ f))]; exact e, ⟨[], by simp⟩⟩
theorem Rel.wr0 (R : Rel K F ι S H) (nF : ¬ F p) (nI : p ∉ ι) : Rel K F ι S (upd H p o) := by
  refine ⟨R.len, R.nd, R.dj, fun a f => upd_some (R.ft a f), fun m a ob h1 h2 => ?_⟩
  refine (R.cell m a ob h1 h2).wk (Wk.wr0 nF) ?_
  exact upd_ne fun e => nI (e ▸ List.mem_of_getElem? h1)
theorem Ext.adoptF {F' ι' H'} (x : Ext F ι H F' ι' H') (n : H p = none) : Ext F ι H (addF F' p) ι' H' :=
  ⟨⟨fun a h => .inr (x.fs a h), x.ag, x.pre⟩, x.keep, fun a h => by
    rcases h with rfl | h
    · exact .inr n
    · exact x.nf a h, x.ni, x.st⟩
theorem Wk.adoptF : Wk F ι H (addF F p) ι H := ⟨fun _ h => .inr h, .refl, ⟨[], by simp⟩⟩
theorem Rel.adoptF (R : Rel K F ι S H) (nI : p ∉ ι) (h : H p ≠ none) : Rel K (addF F p) ι S H := by
  refine ⟨R.len, R.nd, fun a hm f => ?_, fun a f => ?_, fun m a ob h1 h2 => (R.cell m a ob h1 h2).wk .adoptF rfl⟩
  · rcases f with rfl | f
    · exact nI hm
    · exact R.dj a hm f
  · rcases f with rfl | f
    · exact h
    · exact R.ft a f
theorem Ext.adoptC {F' ι' H'} (x : Ext F ι H F' ι' H') (n : H p = none) : Ext F ι H F' (ι' ++ [p]) H' := by
  refine ⟨⟨x.fs, x.ag, ?_⟩, x.keep, x.nf, fun a h => ?_, x.st⟩
  · obtain ⟨r, e⟩ := x.pre
    exact ⟨r ++ [p], by rw [e, List.append_assoc]⟩
  · rcases List.mem_append.mp h with h | h
    · exact x.ni a h
    · rw [List.mem_singleton] at h; subst h; exact .inr n
theorem Wk.adoptC : Wk F ι H F (ι ++ [p]) H := ⟨fun _ h => h, .refl, ⟨[p], rfl⟩⟩
/-- a new cell -/
theorem Ext.cell (n : H p = none) : Ext F ι H F (ι ++ [p]) (upd H p o) := by
  have k : ∀ a u, H a = some u → upd H p o a = some u := fun a u e => by rw [upd_ne (ne_of_none e n)]; exact e
  refine ⟨⟨fun a h => h, fun b u _ e => k b u e, ⟨[p], rfl⟩⟩, fun a u e _ => k a u e, fun a h => .inl h, fun a h => ?_, fun a e => ?_⟩
  · rcases List.mem_append.mp h with h | h
    · exact .inl h
    · rw [List.mem_singleton] at h; subst h; exact .inr n
  · cases q : H a with
    | none => rfl
    | some u => rw [k a u q] at e; cases e
theorem Rel.cellNew (R : Rel K F ι S H) (n : H p = none) {ob : Ob} (new : RO K F (ι ++ [p]) (upd H p o) p ob) : Rel K F (ι ++ [p]) (S ++ [ob]) (upd H p o) := by
  have hp : p ∉ ι := fun h => R.there h n
  have hF : ¬ F p := fun f => R.ft p f n
  refine ⟨by simp [R.len], ?_, fun a h f => ?_, fun a f => upd_some (R.ft a f), fun m a u h1 h2 => ?_⟩
  · rw [List.nodup_append]
    refine ⟨R.nd, by simp, fun a ha b hb => ?_⟩
    rw [List.mem_singleton] at hb; subst hb
    rintro rfl; exact hp ha
  · rcases List.mem_append.mp h with h | h
    · exact R.dj a h f
    · rw [List.mem_singleton] at h; subst h; exact hF f
  · by_cases hm : m < ι.length
    · rw [List.getElem?_append_left hm] at h1
      rw [List.getElem?_append_left (by rw [← R.len]; exact hm)] at h2
      refine (R.cell m a u h1 h2).wk (Ext.cell n).toWk ?_
      exact upd_ne fun e => (R.cell m a u h1 h2).some (e ▸ n)
    · have hl : m = ι.length := by
        have := (List.getElem?_eq_some_iff.mp h1).1
        simp at this; omega
      subst hl
      rw [R.len] at h2
      simp at h1 h2
      subst h1; subst h2
      exact new
theorem Rel.adoptC (R : Rel K F ι S H) (nF : ¬ F p) (nI : p ∉ ι) {ob : Ob} (new : RO K F (ι ++ [p]) H p ob) : Rel K F (ι ++ [p]) (S ++ [ob]) H := by
  refine ⟨by simp [R.len], ?_, fun a h f => ?_, R.ft, fun m a u h1 h2 => ?_⟩
  · rw [List.nodup_append]
    refine ⟨R.nd, by simp, fun a ha b hb => ?_⟩
    rw [List.mem_singleton] at hb; subst hb
    rintro rfl; exact nI ha
  · rcases List.mem_append.mp h with h | h
    · exact R.dj a h f
    · rw [List.mem_singleton] at h; subst h; exact nF f
  · by_cases hm : m < ι.length
    · rw [List.getElem?_append_left hm] at h1
      rw [List.getElem?_append_left (by rw [← R.len]; exact hm)] at h2
      exact (R.cell m a u h1 h2).wk .adoptC rfl
    · have hl : m = ι.length := by
        have := (List.getElem?_eq_some_iff.mp h1).1
        simp at this; omega
      subst hl
      rw [R.len] at h2
      simp at h1 h2
      subst h1; subst h2
      exact new
/-- a cell is written -/
theorem Ext.wr (R : Rel K F ι S H) (hp : p ∈ ι) : Ext F ι H F ι (upd H p o) := by
  refine ⟨⟨fun a h => h, fun b u f e => ?_, ⟨[], by simp⟩⟩, fun a u e n => ?_, fun a h => .inl h, fun a h => .inl h, fun a e => ?_⟩
  · rw [upd_ne (show b ≠ p from fun q => R.dj p hp (by rw [← q]; exact f))]; exact e
  · rw [upd_ne (show a ≠ p from fun q => n (by rw [q]; exact hp))]; exact e
  · by_cases q : a = p
    · subst q; rw [upd_same] at e; cases e
    · rw [upd_ne q] at e; exact e
theorem Rel.wr (R : Rel K F ι S H) {n : Nat} (hp : ι[n]? = some p) {ob : Ob} (new : RO K F ι (upd H p o) p ob) : Rel K F ι (S.set n ob) (upd H p o) := by
  have hm : p ∈ ι := List.mem_of_getElem? hp
  refine ⟨by simp [R.len], R.nd, R.dj, fun a f => upd_some (R.ft a f), fun m a u h1 h2 => ?_⟩
  by_cases q : m = n
  · subst q
    rw [hp] at h1; cases h1
    rw [List.getElem?_set] at h2
    simp only [if_true] at h2
    split at h2
    · cases h2; exact new
    · cases h2
  · rw [List.getElem?_set_ne (Ne.symm q)] at h2
    refine (R.cell m a u h1 h2).wk (Ext.wr R hm).toWk ?_
    refine upd_ne fun e => ?_
    subst e
    obtain ⟨i1, e1⟩ := List.getElem?_eq_some_iff.mp h1
    obtain ⟨i2, e2⟩ := List.getElem?_eq_some_iff.mp hp
    exact q ((List.getElem_inj R.nd).mp (e1.trans e2.symm))
end
end Sh
end

section
namespace Sh
open PySem PySem.Spec PyProof.Rows L2

/-! ### what is wanted behind a plain run -/
def ER (K : PySem.W.Frag) (F : FS) (ι : List Addr) (H : Hp) (e : Exn) (dx : Option Addr) : Prop := match e.fld with
  | none => dx = none
  | some (f, w) => ∃ x v, dx = some x ∧ H x = some (.xd [(f, v)]) ∧ RW K F ι H w v
/-- what is wanted of an exception, by its class's name -/
abbrev XN := Str → Option Addr → Hp → Prop
section
variable {K : PySem.W.Frag} {E : XN} {F F1 : FS} {ι ι1 : List Addr} {H H1 : Hp} {α β : Type}
def Post (K : PySem.W.Frag) (E : XN) (F : FS) (ι : List Addr) (H : Hp) (o : Out α) (P : FS → List Addr → Hp → α → Sto → Prop) : Prop := match o with
  | .ok a S' => ∀ F' ι' H', Ext F ι H F' ι' H' → Rel K F' ι' S' H' → P F' ι' H' a S'
  | .exc e S' => ∀ F' ι' H' dx, Ext F ι H F' ι' H' → Rel K F' ι' S' H' → ER K F' ι' H' e dx → E e.cls dx H'
  | .bad => False
theorem Post.ext {o : Out α} {P} (h : Post K E F ι H o P) (x : Ext F ι H F1 ι1 H1) : Post K E F1 ι1 H1 o P := by
  cases o with
  | ok a S => exact fun F' ι' H' y => h F' ι' H' (x.trans y)
  | exc e S => exact fun F' ι' H' dx y => h F' ι' H' dx (x.trans y)
  | bad => exact h
theorem Post.imp {o : Out α} {P P' : FS → List Addr → Hp → α → Sto → Prop} (h : Post K E F ι H o P) (k : ∀ F' ι' H' a S', Ext F ι H F' ι' H' → Rel K F' ι' S' H' → P F' ι' H' a S' → P' F' ι' H' a S') : Post K E F ι H o P' := by
  cases o with
  | ok a S => exact fun F' ι' H' x R => k _ _ _ _ _ x R (h F' ι' H' x R)
  | exc e S => exact h
  | bad => exact h
theorem Post.wish {E' : XN} {o : Out α} {P} (h : Post K E F ι H o P) (k : ∀ n d H, E n d H → E' n d H) : Post K E' F ι H o P := by
  cases o with
  | ok a S => exact h
  | exc e S => exact fun F' ι' H' dx x R er => k _ _ _ (h F' ι' H' dx x R er)
  | bad => exact h
theorem Post.bind {o : Out α} {f : α → Sto → Out β} {P} (h : Post K E F ι H (o.bind f) P) : Post K E F ι H o (fun F' ι' H' a S' => Post K E F' ι' H' (f a S') P) := by
  cases o with
  | ok a S => exact fun F' ι' H' x R => Post.ext (o := f a S) h x
  | exc e S => exact h
  | bad => exact h
theorem Post.ok {a : α} {S : Sto} {P} (h : Post K E F ι H (.ok a S) P) (R : Rel K F ι S H) : P F ι H a S := h F ι H .refl R
theorem Post.ofO {o : Option α} {S : Sto} {P} (h : Post K E F ι H (Out.ofO S o) P) : ∃ a, o = some a ∧ Post K E F ι H (.ok a S) P := by
  cases o with
  | none => exact h.elim
  | some a => exact ⟨a, rfl, h⟩
end

def RS (K : PySem.W.Frag) (F : FS) (ι : List Addr) (H : Hp) (ρ : Rho) (σ : L2.St) : Prop := ρ.length = σ.length ∧ ∀ (i : Nat) (w : W), ρ[i]? = some (some w) → ∃ v, σ[i]? = some (some v) ∧ RW K F ι H w v
section
variable {K : PySem.W.Frag} {F F' : FS} {ι ι' : List Addr} {H H' : Hp} {ρ : Rho} {σ : L2.St}
theorem RS.wk (h : RS K F ι H ρ σ) (x : Wk F ι H F' ι' H') : RS K F' ι' H' ρ σ := ⟨h.1, fun i w e => let ⟨v, a, b⟩ := h.2 i w e; ⟨v, a, b.wk x⟩⟩
theorem RS.ext (h : RS K F ι H ρ σ) (x : Ext F ι H F' ι' H') : RS K F' ι' H' ρ σ := h.wk x.toWk
theorem RS.set (h : RS K F ι H ρ σ) {w : W} {v : V} (r : RW K F ι H w v) (i : Nat) : RS K F ι H (ρ.set i (some w)) (σ.set i (some v)) := by
  refine ⟨by simp [h.1], fun j u e => ?_⟩
  by_cases q : i = j
  · subst q
    rw [List.getElem?_set] at e
    simp only [if_true] at e
    split at e
    · rename_i hl
      cases e
      exact ⟨v, by rw [List.getElem?_set_self (by rw [← h.1]; exact hl)], r⟩
    · cases e
  · rw [List.getElem?_set_ne q] at e
    rw [List.getElem?_set_ne q]
    exact h.2 j u e
theorem RS.unset (h : RS K F ι H ρ σ) (i : Nat) : RS K F ι H (ρ.set i none) (σ.set i none) := by
  refine ⟨by simp [h.1], fun j u e => ?_⟩
  by_cases q : i = j
  · subst q
    rw [List.getElem?_set] at e
    simp only [if_true] at e
    split at e <;> cases e
  · rw [List.getElem?_set_ne q] at e
    rw [List.getElem?_set_ne q]
    exact h.2 j u e
end

/-! ### readings that come of plain functions -/
abbrev EX := L2.St → XN
section
variable (K : PySem.W.Frag) (E : EX)
abbrev PV (F' : FS) (ι' : List Addr) (H' : Hp) (w : W) (Q : VK) : Prop := ∀ v, RW K F' ι' H' w v → Q v H'
def tE (m : EM) : TE := fun σ H Q => ∃ F ι S ρ, Rel K F ι S H ∧ RS K F ι H ρ σ ∧ Post K (E σ) F ι H (m ρ S) fun F' ι' H' w _ => ∀ v, RW K F' ι' H' w v → Q v H'
def tB (m : BM) : TT := fun σ H Q => ∃ F ι S ρ, Rel K F ι S H ∧ RS K F ι H ρ σ ∧ Post K (E σ) F ι H (m ρ S) fun F' ι' H' b _ => Q b H'
def tA (m : AM) : TA := fun σ H Q => ∃ F ι S ρ, Rel K F ι S H ∧ RS K F ι H ρ σ ∧ Post K (E σ) F ι H (m ρ S) fun F' ι' H' ws _ => ∀ vs, RWs K F' ι' H' ws vs → Q vs H'
def PFl (Dn : Ends) (F' : FS) (ι' : List Addr) (H' : Hp) : Fl → Prop
  | .nx ρ' => ∀ σ', RS K F' ι' H' ρ' σ' → Dn.nx σ' H'
  | .bk ρ' => ∀ σ', RS K F' ι' H' ρ' σ' → Dn.bk σ' H'
  | .ct ρ' => ∀ σ', RS K F' ι' H' ρ' σ' → Dn.ct σ' H'
  | .rt w => ∀ v, RW K F' ι' H' w v → Dn.rt v H'
  | .ex e ρ' => ∀ σ' dx, RS K F' ι' H' ρ' σ' → ER K F' ι' H' e dx → E σ' e.cls dx H'
def tS (m : SM) : TS := fun Dn σ H => ∃ F ι S ρ, Rel K F ι S H ∧ RS K F ι H ρ σ ∧ Post K (fun _ _ _ => False) F ι H (m ρ S) fun F' ι' H' fl _ => PFl K E Dn F' ι' H' fl
end
def SE (X : Cx) (E : EX) (e : Expr) (m : EM) : Prop := PE X e (tE X.K E m)
def SB (X : Cx) (E : EX) (e : Expr) (m : BM) : Prop := PT X e (tB X.K E m)
def SW (X : Cx) (E : EX) (e : Expr) (m : BM) : Prop := PW X e (tB X.K E m)
def SA (X : Cx) (E : EX) (es : List Expr) (m : AM) : Prop := PA X es (tA X.K E m)
def SS (X : Cx) (E : EX) (st : Stmt) (m : SM) : Prop := PS X st (tS X.K E m)
def SSs (X : Cx) (E : EX) (st : List Stmt) (m : SM) : Prop := PSs X st (tS X.K E m)
section
variable {X : Cx}
theorem PE.le {e : Expr} {t t' : TE} (h : PE X e t) (k : ∀ σ H Q, t' σ H Q → t σ H Q) : PE X e t' := ⟨fun pins s σ H Q I q => h.run pins s σ H Q I (k σ H Q q)⟩
theorem PT.le {e : Expr} {t t' : TT} (h : PT X e t) (k : ∀ σ H Q, t' σ H Q → t σ H Q) : PT X e t' := ⟨fun pins s σ H Q I q => h.run pins s σ H Q I (k σ H Q q)⟩
theorem PW.le {e : Expr} {t t' : TT} (h : PW X e t) (k : ∀ σ H Q, t' σ H Q → t σ H Q) : PW X e t' := ⟨fun wh pins s σ H Q I q => h.run wh pins s σ H Q I (k σ H Q q)⟩
theorem PA.le {e : List Expr} {t t' : TA} (h : PA X e t) (k : ∀ σ H Q, t' σ H Q → t σ H Q) : PA X e t' := ⟨fun pos pins s σ H Q I q => h.run pos pins s σ H Q I (k σ H Q q)⟩
theorem PS.le {e : Stmt} {t t' : TS} (h : PS X e t) (k : ∀ D σ H, t' D σ H → t D σ H) : PS X e t' := ⟨fun pins s σ H D I q => h.run pins s σ H D I (k D σ H q)⟩
theorem PSs.le {e : List Stmt} {t t' : TS} (h : PSs X e t) (k : ∀ D σ H, t' D σ H → t D σ H) : PSs X e t' := ⟨fun pins s σ H D I q => h.run pins s σ H D I (k D σ H q)⟩
end

/-! ### names, constants -/
def eVar (i : Nat) : EM := fun ρ S => match ρ[i]? with
  | some (some w) => .ok w S
  | _ => .bad
def eK (w : W) : EM := fun _ S => .ok w S
abbrev eInt (i : Int) : EM := eK (.d (.int i))
abbrev eStr (x : Str) : EM := eK (.d (.str x))
abbrev eBl (b : Bool) : EM := eK (.d (.bool b))
abbrev eNon : EM := eK (.d .none)
section
variable {X : Cx} {E : EX} {pos : Pos}
theorem s_var (i : Nat) {x : Str} (hN : X.N[i]? = some x := by rfl) (hv : Vis X.env.scope x := by first | exact Or.inl rfl | exact Or.inr (Or.inl rfl) | exact Or.inr (Or.inr rfl)) (hd : (x == ("__debug__" : Str)) = false := by decide)
    (hcd : (x == ("__classdict__" : Str)) = false := by decide) : SE X E (.Name x pos) (eVar i) := by
  refine PE.le (pe_var hN hv hd hcd) fun σ H Q h => ?_
  obtain ⟨F, ι, S, ρ, R, rs, h⟩ := h
  unfold eVar at h
  split at h
  · rename_i w e
    obtain ⟨v, e1, r⟩ := rs.2 i w e
    exact ⟨v, e1, h.ok R v r⟩
  · exact h.elim
theorem s_k {e : Expr} {v : V} {w : W} (h : PE X e (tC v)) (r : ∀ F ι H u, RW X.K F ι H w u → True) (rv : ∀ F ι H, RW X.K F ι H w v) : SE X E e (eK w) := by
  refine PE.le h fun σ H Q h => ?_
  obtain ⟨F, ι, S, ρ, R, rs, h⟩ := h
  exact h.ok R v (rv F ι H)
theorem s_int {i : Int} {j} : SE X E (.Constant (.int i) j pos) (eInt i) := s_k pe_int (fun _ _ _ _ _ => trivial) fun _ _ _ => .d (.int i)
theorem s_bl {i : Bool} {j} : SE X E (.Constant (.bool i) j pos) (eBl i) := s_k pe_bl (fun _ _ _ _ _ => trivial) fun _ _ _ => .d (.bl i)
theorem s_non {j} : SE X E (.Constant .none j pos) eNon := s_k pe_non (fun _ _ _ _ _ => trivial) fun _ _ _ => .d .non
theorem s_str {x : Str} {j} : SE X E (.Constant (.str x) j pos) (eStr x) := s_k pe_str (fun _ _ _ _ _ => trivial) fun _ _ _ => .d (.str x)
/-- a constant of the module -/
theorem s_glob {x : Str} {v : V} {u : Value} {w : W} (hg : Gl X x) (hm : X.mg x = some u) (r : RelV v u) (rv : ∀ F ι H, RW X.K F ι H w v) (hd : (x == ("__debug__" : Str)) = false := by decide) : SE X E (.Name x pos) (eK w) :=
  s_k (pe_glob hg hm r hd) (fun _ _ _ _ _ => trivial) rv
end

/-! ### arguments -/
def aNil : AM := fun _ S => .ok [] S
def aCons (m : EM) (ms : AM) : AM := fun ρ S => (m ρ S).bind fun w S1 => (ms ρ S1).bind fun ws S2 => .ok (w :: ws) S2
section
variable {X : Cx} {E : EX} {pos : Pos} {e : Expr} {es : List Expr} {m : EM} {ms : AM}
theorem sa_nil : SA X E [] aNil := PA.le pa_nil fun σ H Q h => by
  obtain ⟨F, ι, S, ρ, R, rs, h⟩ := h
  exact h.ok R [] .nil
theorem sa_cons (h1 : SE X E e m) (h2 : SA X E es ms) (hs : starEach (e :: es) X.env = (false, eval e X.env) :: starEach es X.env := by rfl) : SA X E (e :: es) (aCons m ms) := by
  refine PA.le (pa_cons h1 h2 hs) fun σ H Q h => ?_
  obtain ⟨F, ι, S, ρ, R, rs, h⟩ := h
  refine ⟨F, ι, S, ρ, R, rs, h.bind.imp fun F1 ι1 H1 w S1 x1 R1 h v r => ?_⟩
  refine ⟨F1, ι1, S1, ρ, R1, rs.ext x1, h.bind.imp fun F2 ι2 H2 ws S2 x2 R2 h vs rvs => ?_⟩
  exact h.ok R2 (v :: vs) (.cons (r.ext x2) rvs)
end

/-! ### operators by values -/
abbrev Op1 := W → Sto → Out W
abbrev Op2 := W → W → Sto → Out W
/-- a reading's rule serves a plain operation -/
def Ok2 (X : Cx) (r : R2) (f : Op2) : Prop := ∀ E F ι S H x y v u Q, Rel X.K F ι S H → RW X.K F ι H x v → RW X.K F ι H y u → Post X.K E F ι H (f x y S) (fun F' ι' H' w _ => ∀ z, RW X.K F' ι' H' w z → Q z H') → r v u H Q
def eOp2 (f : Op2) (ma mb : EM) : EM := fun ρ S => (ma ρ S).bind fun x S1 => (mb ρ S1).bind fun y S2 => f x y S2
def eOp1 (f : Op1) (ma : EM) : EM := fun ρ S => (ma ρ S).bind fun x S1 => f x S1
section
variable {X : Cx} {E : EX} {pos : Pos} {a b e : Expr} {ma mb m : EM} {f : Op2} {r : R2}
theorem op2_le (hr : Ok2 X r f) {σ : L2.St} {H : Hp} {Q : VK} (h : tE X.K E (eOp2 f ma mb) σ H Q) : tOp r (tE X.K E ma) (tE X.K E mb) σ H Q := by
  obtain ⟨F, ι, S, ρ, R, rs, h⟩ := h
  refine ⟨F, ι, S, ρ, R, rs, h.bind.imp fun F1 ι1 H1 x S1 x1 R1 h v rv => ?_⟩
  refine ⟨F1, ι1, S1, ρ, R1, rs.ext x1, h.bind.imp fun F2 ι2 H2 y S2 x2 R2 h u ru => ?_⟩
  exact hr (E σ) F2 ι2 S2 H2 x y v u Q R2 (rv.ext x2) ru h
theorem s_bin {op : Operator} (ho : OpR X (binaryOp op) r) (hr : Ok2 X r f) (ha : SE X E a ma) (hb : SE X E b mb) : SE X E (.BinOp a op b pos) (eOp2 f ma mb) :=
  PE.le (pe_op ho ha hb) fun σ H Q h => op2_le hr h
theorem s_cmp {op : CmpOp} (ho : OpR X (compareOp op) r) (hr : Ok2 X r f) (ha : SE X E a ma) (hb : SE X E b mb) (hm : behindInMarks op b = false := by first | exact nomark _ | rfl) : SE X E (.Compare a [op] [b] pos) (eOp2 f ma mb) :=
  PE.le (pe_cmpR ho ha hb hm) fun σ H Q h => op2_le hr h
/-- a < b <= c -/
def eChain (f g : Op2) (ma mb mc : EM) : EM := fun ρ S => (ma ρ S).bind fun x S1 => (mb ρ S1).bind fun y S2 => (f x y S2).bind fun z S3 => match z with
  | .d (.bool true) => (mc ρ S3).bind fun u S4 => g y u S4
  | .d (.bool false) => .ok (.d (.bool false)) S3
  | _ => .bad
end

/-! ### tests -/
def bOf (m : EM) : BM := fun ρ S => (m ρ S).bind fun w S1 => match w with
  | .d (.bool b) => .ok b S1
  | _ => .bad
def bNot (m : BM) : BM := fun ρ S => (m ρ S).bind fun b S1 => .ok (!b) S1
def bAnd (m n : BM) : BM := fun ρ S => (m ρ S).bind fun b S1 => if b = true then n ρ S1 else .ok false S1
def bOr (m n : BM) : BM := fun ρ S => (m ρ S).bind fun b S1 => if b = true then .ok true S1 else n ρ S1
def eAnd (m n : EM) : EM := fun ρ S => (m ρ S).bind fun w S1 => match w with
  | .d (.bool true) => n ρ S1
  | .d (.bool false) => .ok (.d (.bool false)) S1
  | _ => .bad
def eOr (m n : EM) : EM := fun ρ S => (m ρ S).bind fun w S1 => match w with
  | .d (.bool false) => n ρ S1
  | .d (.bool true) => .ok (.d (.bool true)) S1
  | _ => .bad
def eNot (m : EM) : EM := fun ρ S => (m ρ S).bind fun w S1 => match w with
  | .d (.bool b) => .ok (.d (.bool (!b))) S1
  | _ => .bad
def eIf (c : BM) (m n : EM) : EM := fun ρ S => (c ρ S).bind fun b S1 => if b = true then m ρ S1 else n ρ S1
section
variable {X : Cx} {E : EX} {pos : Pos} {a b c e : Expr} {rest : List Expr} {m n : EM} {p q : BM}
theorem RW.bl_of {K F ι H b v} (h : RW K F ι H (.d (.bool b)) v) : v = .bl b := by cases h with | d h => cases h; rfl
theorem sb_val (h : SE X E e m) (he : ∀ whole, isTrue e X.env whole = (do let v ← whole; standAt e.pos; holding [v] (truthy v)) := by intro _; rfl) : SB X E e (bOf m) := by
  refine PT.le (pt_val h he) fun σ H Q h => ?_
  obtain ⟨F, ι, S, ρ, R, rs, h⟩ := h
  refine ⟨F, ι, S, ρ, R, rs, h.bind.imp fun F1 ι1 H1 w S1 x1 R1 h v r => ?_⟩
  split at h
  · exact ⟨_, r.bl_of, h.ok R1⟩
  · exact h.elim
theorem sb_not (h : SB X E e p) : SB X E (.UnaryOp .Not e pos) (bNot p) := by
  refine PT.le (pt_not h) fun σ H Q h => ?_
  obtain ⟨F, ι, S, ρ, R, rs, h⟩ := h
  exact ⟨F, ι, S, ρ, R, rs, h.bind.imp fun F1 ι1 H1 w S1 x1 R1 h => h.ok R1⟩
theorem sw_and1 (h : SB X E e p) : SW X E (.BoolOp .And [e] pos) p := pw_and1 h
theorem sw_or1 (h : SB X E e p) : SW X E (.BoolOp .Or [e] pos) p := pw_or1 h
theorem sw_and (h : SB X E a p) (h2 : SW X E (.BoolOp .And (b :: rest) pos) q) : SW X E (.BoolOp .And (a :: b :: rest) pos) (bAnd p q) := by
  refine PW.le (pw_and h h2) fun σ H Q h => ?_
  obtain ⟨F, ι, S, ρ, R, rs, h⟩ := h
  refine ⟨F, ι, S, ρ, R, rs, h.bind.imp fun F1 ι1 H1 w S1 x1 R1 h => ?_⟩
  cases w with
  | true => exact ⟨F1, ι1, S1, ρ, R1, rs.ext x1, h⟩
  | false => exact h.ok R1
theorem sw_or (h : SB X E a p) (h2 : SW X E (.BoolOp .Or (b :: rest) pos) q) : SW X E (.BoolOp .Or (a :: b :: rest) pos) (bOr p q) := by
  refine PW.le (pw_or h h2) fun σ H Q h => ?_
  obtain ⟨F, ι, S, ρ, R, rs, h⟩ := h
  refine ⟨F, ι, S, ρ, R, rs, h.bind.imp fun F1 ι1 H1 w S1 x1 R1 h => ?_⟩
  cases w with
  | false => exact ⟨F1, ι1, S1, ρ, R1, rs.ext x1, h⟩
  | true => exact h.ok R1
theorem sb_w (h : SW X E e p) : SB X E e p := PW.pt h
theorem s_one {op} (h : SE X E e m) : SE X E (.BoolOp op [e] pos) m := pe_one h
theorem s_and (h : SE X E a m) (h2 : SE X E (.BoolOp .And (b :: rest) pos) n) : SE X E (.BoolOp .And (a :: b :: rest) pos) (eAnd m n) := by
  refine PE.le (pe_and h h2) fun σ H Q h => ?_
  obtain ⟨F, ι, S, ρ, R, rs, h⟩ := h
  refine ⟨F, ι, S, ρ, R, rs, h.bind.imp fun F1 ι1 H1 w S1 x1 R1 h v r => ?_⟩
  split at h
  · exact ⟨_, r.bl_of, ⟨F1, ι1, S1, ρ, R1, rs.ext x1, h⟩⟩
  · exact ⟨_, r.bl_of, h.ok R1 _ (.d (.bl false))⟩
  · exact h.elim
theorem s_or (h : SE X E a m) (h2 : SE X E (.BoolOp .Or (b :: rest) pos) n) : SE X E (.BoolOp .Or (a :: b :: rest) pos) (eOr m n) := by
  refine PE.le (pe_or h h2) fun σ H Q h => ?_
  obtain ⟨F, ι, S, ρ, R, rs, h⟩ := h
  refine ⟨F, ι, S, ρ, R, rs, h.bind.imp fun F1 ι1 H1 w S1 x1 R1 h v r => ?_⟩
  split at h
  · exact ⟨_, r.bl_of, ⟨F1, ι1, S1, ρ, R1, rs.ext x1, h⟩⟩
  · exact ⟨_, r.bl_of, h.ok R1 _ (.d (.bl true))⟩
  · exact h.elim
theorem s_not (h : SE X E e m) : SE X E (.UnaryOp .Not e pos) (eNot m) := by
  refine PE.le (pe_not h) fun σ H Q h => ?_
  obtain ⟨F, ι, S, ρ, R, rs, h⟩ := h
  refine ⟨F, ι, S, ρ, R, rs, h.bind.imp fun F1 ι1 H1 w S1 x1 R1 h v r => ?_⟩
  split at h
  · exact ⟨_, r.bl_of, h.ok R1 _ (.d (.bl _))⟩
  · exact h.elim
theorem s_if (h : SB X E c p) (h1 : SE X E a m) (h2 : SE X E b n) : SE X E (.IfExp c a b pos) (eIf p m n) := by
  refine PE.le (pe_ifExp h h1 h2) fun σ H Q h => ?_
  obtain ⟨F, ι, S, ρ, R, rs, h⟩ := h
  refine ⟨F, ι, S, ρ, R, rs, h.bind.imp fun F1 ι1 H1 w S1 x1 R1 h => ?_⟩
  cases w with
  | true => exact ⟨F1, ι1, S1, ρ, R1, rs.ext x1, h⟩
  | false => exact ⟨F1, ι1, S1, ρ, R1, rs.ext x1, h⟩
end

section
variable {X : Cx} {E : EX} {pos : Pos} {a b c : Expr} {ma mb mc : EM} {f g : Op2} {r r' : R2}
theorem s_chain {op op' : CmpOp} (ho : OpR X (compareOp op) r) (ho' : OpR X (compareOp op') r') (hr : Ok2 X r f) (hr' : Ok2 X r' g) (ha : SE X E a ma) (hb : SE X E b mb) (hc : SE X E c mc)
    (hm : lastMarks [op, op'] [b, c] = false := by with_unfolding_all rfl) : SE X E (.Compare a [op, op'] [b, c] pos) (eChain f g ma mb mc) := by
  refine PE.le (pe_chain ho ho' ha hb hc hm) fun σ H Q h => ?_
  obtain ⟨F, ι, S, ρ, R, rs, h⟩ := h
  refine ⟨F, ι, S, ρ, R, rs, h.bind.imp fun F1 ι1 H1 x S1 x1 R1 h v rv => ?_⟩
  refine ⟨F1, ι1, S1, ρ, R1, rs.ext x1, h.bind.imp fun F2 ι2 H2 y S2 x2 R2 h u ru => ?_⟩
  refine hr (E σ) F2 ι2 S2 H2 x y v u _ R2 (rv.ext x2) ru (h.bind.imp fun F3 ι3 H3 z S3 x3 R3 h k rk => ?_)
  split at h
  · exact ⟨true, rk.bl_of, iteT ⟨F3, ι3, S3, ρ, R3, (rs.ext x1 |>.ext x2).ext x3, h.bind.imp fun F4 ι4 H4 t S4 x4 R4 h q rq => hr' (E σ) F4 ι4 S4 H4 y t u q Q R4 ((ru.ext x3).ext x4) rq h⟩⟩
  · exact ⟨false, rk.bl_of, iteF (h.ok R3 _ (.d (.bl false)))⟩
  · exact h.elim
end

/-! ### displays -/
/-- all plain -/
def unD : List W → Option (List PyData)
  | [] => some []
  | .d x :: r => (unD r).map (x :: ·)
  | _ :: _ => none
theorem unD_eq : ∀ {ws : List W} {xs : List PyData}, unD ws = some xs → ws = xs.map .d
  | [], xs, h => by cases h; rfl
  | .d x :: r, xs, h => by
    unfold unD at h
    cases q : unD r with
    | none => rw [q] at h; cases h
    | some ys => rw [q] at h; cases h; rw [unD_eq q]; rfl
  | .ref _ :: _, _, h => by cases h
  | .cst _ :: _, _, h => by cases h
  | .tup _ :: _, _, h => by cases h
  | .fl _ :: _, _, h => by cases h
@[simp] theorem unD_map (xs : List PyData) : unD (xs.map .d) = some xs := by
  induction xs with
  | nil => rfl
  | cons x r ih => simp [unD, ih]
def mkTup (ws : List W) : W := match unD ws with
  | some xs => .d (.tuple xs)
  | none => .tup ws
def eTup (m : AM) : EM := fun ρ S => (m ρ S).bind fun ws S1 => if ws.length ≤ sizeLine then .ok (mkTup ws) S1 else .bad
/-- a list that is never changed -/
def eLst (m : AM) : EM := fun ρ S => (m ρ S).bind fun ws S1 => if ws.length ≤ sizeLine then .ofO S1 ((unD ws).map fun xs => .d (.list xs)) else .bad
/-- a new cell -/
def newCell (ws : List W) (S : Sto) : Out W := if ws.length ≤ sizeLine then .ok (.ref S.length) (S ++ [.lst ws]) else .bad
def eLstM (m : AM) : EM := fun ρ S => (m ρ S).bind fun ws S1 => newCell ws S1
section
variable {X : Cx} {E : EX} {pos : Pos} {es : List Expr} {ms : AM} {K : PySem.W.Frag} {F : FS} {ι : List Addr} {S : Sto} {H : Hp}
theorem RW.mkTup {a : Addr} {ws : List W} {vs : List V} (st : StT K F H a vs) (r : RWs K F ι H ws vs) : RW K F ι H (mkTup ws) (.ref a) := by
  unfold Sh.mkTup
  split
  · rename_i xs e
    rw [unD_eq e] at r
    exact .d (.tup st r.toD)
  · exact .tup st r
theorem s_tup {x1} (h : SA X E es ms) : SE X E (.Tuple es x1 pos) (eTup ms) := by
  refine PE.le (pe_tup h) fun σ H Q h => ?_
  obtain ⟨F, ι, S, ρ, R, rs, h⟩ := h
  refine ⟨F, ι, S, ρ, R, rs, h.bind.imp fun F1 ι1 H1 ws S1 x1 R1 h vs r => ?_⟩
  split at h
  · rename_i hz
    refine ⟨by rw [← r.length]; exact hz, fun p n => ?_⟩
    have x := Ext.frz (F := F1) (ι := ι1) (o := .tup vs) n
    exact h _ _ _ x (R1.frz n) _ (RW.mkTup (.mk' (by rw [← r.length]; exact hz) (.inl rfl) upd_same) (r.ext x))
  · exact h.elim
theorem s_lst (h : SA X E es ms) : SE X E (.List es pos) (eLst ms) := by
  refine PE.le (pe_lst h) fun σ H Q h => ?_
  obtain ⟨F, ι, S, ρ, R, rs, h⟩ := h
  refine ⟨F, ι, S, ρ, R, rs, h.bind.imp fun F1 ι1 H1 ws S1 x1 R1 h vs r => ?_⟩
  split at h
  · rename_i hz
    refine ⟨by rw [← r.length]; exact hz, fun p n => ?_⟩
    have x := Ext.frz (F := F1) (ι := ι1) (o := .lst vs) n
    obtain ⟨w, e, h⟩ := h.ofO
    cases q : unD ws with
    | none => rw [q] at e; cases e
    | some xs =>
      rw [q] at e; cases e
      have r' := r.ext x
      rw [unD_eq q] at r'
      exact h _ _ _ x (R1.frz n) _ (.d (.lst (.mk' (by rw [← r.length]; exact hz) (.inl rfl) upd_same) r'.toD))
  · exact h.elim
theorem cell_new (R : Rel K F ι S H) {p : Addr} {ws : List W} {vs : List V} (n : H p = none) (r : RWs K F ι H ws vs) (hz : ws.length ≤ sizeLine) :
    Ext F ι H F (ι ++ [p]) (upd H p (.lst vs)) ∧ Rel K F (ι ++ [p]) (S ++ [.lst ws]) (upd H p (.lst vs)) ∧ RW K F (ι ++ [p]) (upd H p (.lst vs)) (.ref S.length) (.ref p) := by
  have x := Ext.cell (F := F) (ι := ι) (o := .lst vs) n
  refine ⟨x, R.cellNew n ⟨vs, upd_same, r.ext x, hz⟩, .ref ?_⟩
  rw [← R.len]; simp
theorem s_lstM (h : SA X E es ms) : SE X E (.List es pos) (eLstM ms) := by
  refine PE.le (pe_lst h) fun σ H Q h => ?_
  obtain ⟨F, ι, S, ρ, R, rs, h⟩ := h
  refine ⟨F, ι, S, ρ, R, rs, h.bind.imp fun F1 ι1 H1 ws S1 x1 R1 h vs r => ?_⟩
  unfold newCell at h
  split at h
  · rename_i hz
    refine ⟨by rw [← r.length]; exact hz, fun p n => ?_⟩
    obtain ⟨x, R2, r2⟩ := cell_new R1 n r hz
    exact h _ _ _ x R2 _ r2
  · exact h.elim
end
end Sh
end

section
namespace Sh
open PySem PySem.Spec PyProof.Rows L2

abbrev E0x : EX := fun _ _ _ _ => False
/-- what the context takes -/
structure Tk (X : Cx) (E : EX) (W : WX) : Prop where
  tk : Takes X W
  lk : ∀ n C d σ H, X.mg n = some (.ref C) → E σ n d H → W (.ref C) d σ H
theorem tk0 {X : Cx} : Tk X E0x (fun _ _ _ _ => False) := ⟨takes0, fun _ _ _ _ _ _ h => h⟩

/-! ### statements -/
/-- an expression's end within a statement -/
@[reducible] def exq {α : Type} (ρ : Rho) (o : Out α) (k : α → Sto → Out Fl) : Out Fl := match o with
  | .ok a S => k a S
  | .exc e S => .ok (.ex e ρ) S
  | .bad => .bad
def cNop : SM := fun ρ S => .ok (.nx ρ) S
def cBreak : SM := fun ρ S => .ok (.bk ρ) S
def cCont : SM := fun ρ S => .ok (.ct ρ) S
def cSeq (a b : SM) : SM := fun ρ S => (a ρ S).bind fun fl S1 => match fl with
  | .nx ρ1 => b ρ1 S1
  | o => .ok o S1
def cExpr (m : EM) : SM := fun ρ S => exq ρ (m ρ S) fun _ S1 => .ok (.nx ρ) S1
def cSet (i : Nat) (m : EM) : SM := fun ρ S => exq ρ (m ρ S) fun w S1 => .ok (.nx (ρ.set i (some w))) S1
def cRet (m : EM) : SM := fun ρ S => exq ρ (m ρ S) fun w S1 => .ok (.rt w) S1
def cRetN : SM := fun ρ S => .ok (.rt (.d .none)) S
def cIf (c : BM) (a b : SM) : SM := fun ρ S => exq ρ (c ρ S) fun t S1 => if t = true then a ρ S1 else b ρ S1
section
variable {K : PySem.W.Frag} {E : EX} {F : FS} {ι : List Addr} {H : Hp} {α : Type} {ρ : Rho} {σ : L2.St} {Dn : Ends}
abbrev XF : XN := fun _ _ _ => False
theorem Post.exq {o : Out α} {k : α → Sto → Out Fl} (rs : RS K F ι H ρ σ) (h : Post K XF F ι H (Sh.exq ρ o k) (fun F' ι' H' fl _ => PFl K E Dn F' ι' H' fl)) :
    Post K (E σ) F ι H o (fun F' ι' H' a S' => Post K XF F' ι' H' (k a S') (fun F' ι' H' fl _ => PFl K E Dn F' ι' H' fl)) := by
  cases o with
  | ok a S => exact fun F' ι' H' x R => Post.ext (o := k a S) h x
  | exc e S => exact fun F' ι' H' dx x R er => h F' ι' H' x R σ dx (rs.ext x) er
  | bad => exact h
end
section
variable {X : Cx} {E : EX} {pos : Pos} {e : Expr} {m : EM} {st : Stmt} {rest : List Stmt} {a b : SM} {c : Expr} {p : BM}
theorem sm_nil : SSs X E [] cNop := PSs.le pss_nil fun D σ H h => by
  obtain ⟨F, ι, S, ρ, R, rs, h⟩ := h
  exact h.ok R σ rs
theorem sm_pass : SS X E (.Pass pos) cNop := PS.le ps_pass fun D σ H h => by
  obtain ⟨F, ι, S, ρ, R, rs, h⟩ := h
  exact h.ok R σ rs
theorem sm_break : SS X E (.Break pos) cBreak := PS.le ps_break fun D σ H h => by
  obtain ⟨F, ι, S, ρ, R, rs, h⟩ := h
  exact h.ok R σ rs
theorem sm_cont : SS X E (.Continue pos) cCont := PS.le ps_continue fun D σ H h => by
  obtain ⟨F, ι, S, ρ, R, rs, h⟩ := h
  exact h.ok R σ rs
theorem sm_cons (h1 : SS X E st a) (h2 : SSs X E rest b) : SSs X E (st :: rest) (cSeq a b) := by
  refine PSs.le (pss_cons h1 h2) fun D σ H h => ?_
  obtain ⟨F, ι, S, ρ, R, rs, h⟩ := h
  refine ⟨F, ι, S, ρ, R, rs, h.bind.imp fun F1 ι1 H1 fl S1 x1 R1 h => ?_⟩
  cases fl with
  | nx ρ1 => exact fun σ' rs' => ⟨F1, ι1, S1, ρ1, R1, rs', h⟩
  | rt w => exact h.ok R1
  | bk ρ1 => exact h.ok R1
  | ct ρ1 => exact h.ok R1
  | ex e ρ1 => exact h.ok R1
theorem sm_one (h1 : SS X E st a) : SSs X E [st] a := pss_one h1
theorem sm_expr (h : SE X E e m) (hs : swapsWith e none pos.line X.env = pure false := by rfl) : SS X E (.Expr e pos) (cExpr m) := by
  refine PS.le (ps_expr h hs) fun D σ H h => ?_
  obtain ⟨F, ι, S, ρ, R, rs, h⟩ := h
  exact ⟨F, ι, S, ρ, R, rs, (h.exq rs).imp fun F1 ι1 H1 w S1 x1 R1 h v _ => h.ok R1 σ (rs.ext x1)⟩
theorem sm_doc {x j pos pos'} : SS X E (.Expr (.Constant (.str x) j pos) pos') cNop := PS.le ps_doc fun D σ H h => by
  obtain ⟨F, ι, S, ρ, R, rs, h⟩ := h
  exact h.ok R σ rs
theorem sm_ret (h : SE X E e m) : SS X E (.Return (some e) pos) (cRet m) := by
  refine PS.le (ps_ret h) fun D σ H h => ?_
  obtain ⟨F, ι, S, ρ, R, rs, h⟩ := h
  exact ⟨F, ι, S, ρ, R, rs, (h.exq rs).imp fun F1 ι1 H1 w S1 x1 R1 h => h.ok R1⟩
theorem sm_retN : SS X E (.Return none pos) cRetN := PS.le ps_retN fun D σ H h => by
  obtain ⟨F, ι, S, ρ, R, rs, h⟩ := h
  exact h.ok R _ (.d .non)
theorem sm_set (i : Nat) {x : Str} {pos' : Pos} (hN : X.N.Nodup) (h : SE X E e m) (hi : X.N[i]? = some x := by rfl) (hx : Loc X.env.scope x := by first | exact Or.inl rfl | exact Or.inr rfl) (hs : swapsWith e (some (.Name x pos')) pos.line X.env = pure false := by rfl) (hf : X.fn x = true ∨ X.env.scope.names.lookup x = some .local := by first | exact .inl rfl | exact .inr rfl) :
    SS X E (.Assign [.Name x pos'] e pos) (cSet i m) := by
  refine PS.le (ps_set hN hi hx h hs hf) fun D σ H h => ?_
  obtain ⟨F, ι, S, ρ, R, rs, h⟩ := h
  exact ⟨F, ι, S, ρ, R, rs, (h.exq rs).imp fun F1 ι1 H1 w S1 x1 R1 h v r => h.ok R1 _ ((rs.ext x1).set r i)⟩
theorem sm_if {ta tb : List Stmt} (hc : SB X E c p) (h1 : SSs X E ta a) (h2 : SSs X E tb b) : SS X E (.If c ta tb pos) (cIf p a b) := by
  refine PS.le (ps_if hc h1 h2) fun D σ H h => ?_
  obtain ⟨F, ι, S, ρ, R, rs, h⟩ := h
  refine ⟨F, ι, S, ρ, R, rs, (h.exq rs).imp fun F1 ι1 H1 w S1 x1 R1 h => ?_⟩
  cases w with
  | true => exact ⟨F1, ι1, S1, ρ, R1, rs.ext x1, h⟩
  | false => exact ⟨F1, ι1, S1, ρ, R1, rs.ext x1, h⟩
end

/-! ### targets -/
abbrev GM := W → Rho → Sto → Out Rho
abbrev GMs := List W → Rho → Sto → Out Rho
def tG (K : PySem.W.Frag) (E : EX) (g : GM) : TG := fun v σ H Q => ∃ F ι S ρ w, Rel K F ι S H ∧ RS K F ι H ρ σ ∧ RW K F ι H w v ∧ Post K (E σ) F ι H (g w ρ S) fun F' ι' H' ρ' _ => ∀ σ', RS K F' ι' H' ρ' σ' → Q σ' H'
def tGs (K : PySem.W.Frag) (E : EX) (g : GMs) : TGs := fun vs σ H Q => ∃ F ι S ρ ws, Rel K F ι S H ∧ RS K F ι H ρ σ ∧ RWs K F ι H ws vs ∧ Post K XF F ι H (g ws ρ S) fun F' ι' H' ρ' _ => ∀ σ', RS K F' ι' H' ρ' σ' → Q σ' H'
def SG (X : Cx) (E : EX) (tg : Expr) (g : GM) : Prop := PG X tg (tG X.K E g)
def SGs (X : Cx) (E : EX) (tg : List Expr) (g : GMs) : Prop := PGs X tg (tGs X.K E g)
def gNm (i : Nat) : GM := fun w ρ S => .ok (ρ.set i (some w)) S
def gsNil : GMs := fun ws ρ S => match ws with
  | [] => .ok ρ S
  | _ => .bad
/-- only targets that raise nothing stand in a row -/
def gsCons (g : GM) (gs : GMs) : GMs := fun ws ρ S => match ws with
  | w :: r => match g w ρ S with
    | .ok ρ1 S1 => gs r ρ1 S1
    | _ => .bad
  | [] => .bad
/-- the items of a tuple -/
def tupOf : W → Option (List W)
  | .d (.tuple xs) => some (xs.map .d)
  | .tup ws => some ws
  | _ => none
def gTp (n : Nat) (gs : GMs) : GM := fun w ρ S => match tupOf w with
  | some ws => if ws.length = n then (match gs ws ρ S with | .ok ρ1 S1 => .ok ρ1 S1 | _ => .bad) else .bad
  | none => .bad
/-- the items of a list that is never changed -/
def gLs (n : Nat) (gs : GMs) : GM := fun w ρ S => match w with
  | .d (.list xs) => if xs.length = n then (match gs (xs.map .d) ρ S with | .ok ρ1 S1 => .ok ρ1 S1 | _ => .bad) else .bad
  | _ => .bad
section
variable {X : Cx} {E : EX} {pos : Pos} {tg e : Expr} {es : List Expr} {g : GM} {gs : GMs} {m : EM} {K : PySem.W.Frag} {F : FS} {ι : List Addr} {H : Hp}
theorem PG.le {t t' : TG} (h : PG X tg t) (k : ∀ v σ H Q, t' v σ H Q → t v σ H Q) : PG X tg t' := ⟨fun pins s σ H v u Q I r q => h.run pins s σ H v u Q I r (k v σ H Q q)⟩
theorem PGs.le {t t' : TGs} (h : PGs X es t) (k : ∀ v σ H Q, t' v σ H Q → t v σ H Q) : PGs X es t' := ⟨fun pins s σ H v u Q I r q => h.run pins s σ H v u Q I r (k v σ H Q q)⟩
theorem sg_name (i : Nat) {x : Str} (hN : X.N.Nodup) (hi : X.N[i]? = some x := by rfl) (hx : Loc X.env.scope x := by first | exact Or.inl rfl | exact Or.inr rfl) (hf : X.fn x = true ∨ X.env.scope.names.lookup x = some .local := by first | exact .inl rfl | exact .inr rfl) : SG X E (.Name x pos) (gNm i) := by
  refine PG.le (pg_name hN hi hx hf) fun v σ H Q h => ?_
  obtain ⟨F, ι, S, ρ, w, R, rs, r, h⟩ := h
  exact h.ok R _ (rs.set r i)
theorem sgs_nil : SGs X E [] gsNil := by
  refine PGs.le pgs_nil fun vs σ H Q h => ?_
  obtain ⟨F, ι, S, ρ, ws, R, rs, r, h⟩ := h
  cases ws with
  | nil => cases r; exact ⟨rfl, h.ok R _ rs⟩
  | cons => exact h.elim
theorem sgs_cons (h1 : SG X E e g) (h2 : SGs X E es gs) (hs : (assignEach (e :: es) X.env).map (·.2) = assign e X.env :: (assignEach es X.env).map (·.2) := by rfl) : SGs X E (e :: es) (gsCons g gs) := by
  refine PGs.le (pgs_cons h1 h2 hs) fun vs σ H Q h => ?_
  obtain ⟨F, ι, S, ρ, ws, R, rs, r, h⟩ := h
  cases r with
  | nil => exact h.elim
  | cons r1 r2 =>
    unfold gsCons at h
    simp only at h
    split at h
    · rename_i q
      refine ⟨_, _, rfl, F, ι, S, ρ, _, R, rs, r1, ?_⟩
      rw [q]
      intro F1 ι1 H1 x1 R1 σ' rs'
      exact ⟨F1, ι1, _, _, _, R1, rs', r2.ext x1, h.ext x1⟩
    · exact h.elim
theorem RW.tup_of {w : W} {v : V} {ws : List W} (r : RW K F ι H w v) (e : tupOf w = some ws) : ∃ a vs, v = .ref a ∧ StT K F H a vs ∧ RWs K F ι H ws vs := by
  cases r with
  | d r =>
    cases r with
    | tup st rr => cases e; exact ⟨_, _, rfl, st, .ofD rr⟩
    | _ => cases e
  | tup st rr => cases e; exact ⟨_, _, rfl, st, rr⟩
  | _ => cases e
theorem sg_tup {k : Nat} {n : Nat} (hc : X.calm = true) (h : SGs X E es gs) (hn : (assignEach es X.env).length = n := by rfl) (hst : (assignEach es X.env).findIdx? (·.1) = none := by rfl) : SG X E (.Tuple es k pos) (gTp n gs) := by
  refine PG.le (pg_tup hc h hn hst) fun v σ H Q h => ?_
  obtain ⟨F, ι, S, ρ, w, R, rs, r, h⟩ := h
  unfold gTp at h
  split at h
  · rename_i ws e
    split at h
    · rename_i hl
      obtain ⟨a, vs, rfl, st, rr⟩ := r.tup_of e
      refine ⟨a, vs, rfl, st.now, by rw [← rr.length]; exact hl, F, ι, S, ρ, ws, R, rs, rr, ?_⟩
      split at h
      · rename_i q; rw [q]; exact h
      · exact h.elim
    · exact h.elim
  · exact h.elim
theorem sg_lst {k : Nat} {n : Nat} (hc : X.calm = true) (h : SGs X E es gs) (hn : (assignEach es X.env).length = n := by rfl) (hst : (assignEach es X.env).findIdx? (·.1) = none := by rfl) : SG X E (.Tuple es k pos) (gLs n gs) := by
  refine PG.le (pg_lst hc h hn hst) fun v σ H Q h => ?_
  obtain ⟨F, ι, S, ρ, w, R, rs, r, h⟩ := h
  unfold gLs at h
  split at h
  · rename_i xs
    split at h
    · rename_i hl
      cases r with
      | d r =>
        cases r with
        | lst st rr =>
          refine ⟨_, _, rfl, st.now, by rw [← rr.length]; exact hl, F, ι, S, ρ, _, R, rs, .ofD rr, ?_⟩
          split at h
          · rename_i q; rw [q]; exact h
          · exact h.elim
    · exact h.elim
  · exact h.elim
/-- o[i] = v -/
abbrev Op3 := W → W → W → Sto → Out Unit
def OkSet (X : Cx) (t : TSet) (f : Op3) : Prop := ∀ E F ι S H o i w vo vi v Q, Rel X.K F ι S H → RW X.K F ι H o vo → RW X.K F ι H i vi → RW X.K F ι H w v → Post X.K E F ι H (f o i w S) (fun _ _ H' _ _ => Q H') → t vo vi v H Q
def gSb (f : Op3) (mo mi : EM) : GM := fun w ρ S => (mo ρ S).bind fun o S1 => (mi ρ S1).bind fun i S2 => (f o i w S2).bind fun _ S3 => .ok ρ S3
theorem sg_sub {o i : Expr} {mo mi : EM} {f : Op3} {t : TSet} (hp : PSet X t) (hf : OkSet X t f) (ho : SE X E o mo) (hi : SE X E i mi)
    (ha : ∀ v, assign (.Subscript o i pos) X.env v = (do
      let ov ← holding [v] (eval o X.env)
      let iv ← holding [v, ov] (eval i X.env)
      standAt pos
      holding [v, ov, iv] (setItem ov iv v)
      release [v, ov, iv] []) := by intro _; rfl) : SG X E (.Subscript o i pos) (gSb f mo mi) := by
  refine PG.le (pg_sub ho hi hp ha) fun v σ H Q h => ?_
  obtain ⟨F, ι, S, ρ, w, R, rs, r, h⟩ := h
  refine ⟨F, ι, S, ρ, R, rs, h.bind.imp fun F1 ι1 H1 ow S1 x1 R1 h vo ro => ?_⟩
  refine ⟨F1, ι1, S1, ρ, R1, rs.ext x1, h.bind.imp fun F2 ι2 H2 iw S2 x2 R2 h vi ri => ?_⟩
  refine hf (E σ) F2 ι2 S2 H2 ow iw w vo vi v _ R2 (ro.ext x2) ri ((r.ext x1).ext x2) (h.bind.imp fun F3 ι3 H3 u S3 x3 R3 h => ?_)
  exact h.ok R3 σ (((rs.ext x1).ext x2).ext x3)
def cAsg (m : EM) (g : GM) : SM := fun ρ S => exq ρ (m ρ S) fun w S1 => exq ρ (g w ρ S1) fun ρ1 S2 => .ok (.nx ρ1) S2
theorem sm_asg (h : SE X E e m) (hg : SG X E tg g) (hs : swapsWithSole [tg] e pos.line X.env = pure false := by rfl) (hw : swappedStores [tg] e X.env = pure none := by rfl)
    (h1 : (assignEach [tg] X.env).map (·.2) = [assign tg X.env] := by rfl) : SS X E (.Assign [tg] e pos) (cAsg m g) := by
  refine PS.le (ps_asg h hg hs hw h1) fun D σ H h => ?_
  obtain ⟨F, ι, S, ρ, R, rs, h⟩ := h
  refine ⟨F, ι, S, ρ, R, rs, (h.exq rs).imp fun F1 ι1 H1 w S1 x1 R1 h v r => ?_⟩
  exact ⟨F1, ι1, S1, ρ, w, R1, rs.ext x1, r, (h.exq (rs.ext x1)).imp fun F2 ι2 H2 ρ1 S2 x2 R2 h σ' rs' => h.ok R2 σ' rs'⟩
/-- a, b = x, y and a, b, c = x, y, z, both sides written -/
def cPar2 (i j : Nat) (m : AM) : SM := fun ρ S => exq ρ (m ρ S) fun ws S1 => match ws with
  | [u, v] => .ok (.nx ((ρ.set i (some u)).set j (some v))) S1
  | _ => .bad
def cPar3 (i j l : Nat) (m : AM) : SM := fun ρ S => exq ρ (m ρ S) fun ws S1 => match ws with
  | [u, v, w] => .ok (.nx (((ρ.set i (some u)).set j (some v)).set l (some w))) S1
  | _ => .bad
theorem sm_par2 {i j : Nat} {x y : Str} {a b : Expr} {ma : AM} {px py pt : Pos} {kt k2 pt2} (hc : X.calm = true) (hN : X.N.Nodup) (ha : SA X E [a, b] ma) (hij : i ≠ j := by decide) (hi : X.N[i]? = some x := by rfl) (hj : X.N[j]? = some y := by rfl)
    (hx : X.env.scope.names.lookup x = some .local := by rfl) (hy : X.env.scope.names.lookup y = some .local := by rfl)
    (hw : swappedStores [.Tuple [.Name x px, .Name y py] kt pt] (.Tuple [a, b] k2 pt2) X.env = pure (some [x, y]) := by rfl)
    (hs : swapsWithSole [.Tuple [.Name x px, .Name y py] kt pt] (.Tuple [a, b] k2 pt2) pos.line X.env = pure false := by rfl) :
    SS X E (.Assign [.Tuple [.Name x px, .Name y py] kt pt] (.Tuple [a, b] k2 pt2) pos) (cPar2 i j ma) := by
  refine PS.le (ps_par hc hN hi hj hij hx hy ha hw hs) fun D σ H h => ?_
  obtain ⟨F, ι, S, ρ, R, rs, h⟩ := h
  refine ⟨F, ι, S, ρ, R, rs, (h.exq rs).imp fun F1 ι1 H1 ws S1 x1 R1 h vs r => ?_⟩
  split at h
  · cases r with | cons r1 r => cases r with | cons r2 r => cases r; exact ⟨_, _, rfl, h.ok R1 _ (((rs.ext x1).set r1 i).set r2 j)⟩
  · exact h.elim
end
end Sh
end

section
namespace Sh
open PySem PySem.Spec PyProof.Rows L2
open Classical

/-! ### what is walked -/
structure Its where
  items : List W
  grd : Sto → Prop := fun _ => True
abbrev IM := Rho → Sto → Out Its
def IterOk (K : PySem.W.Frag) (J : It) (F : FS) (ι : List Addr) (H : Hp) (its : Its) : Prop :=
  ∀ i F' ι' S' H', Wk F ι H F' ι' H' → Rel K F' ι' S' H' → its.grd S' → (i = its.items.length → J.stop i H') ∧
    ∀ w, its.items[i]? = some w → J.go i H' ∧ ∀ x H'', J.yld i H' x H'' → ∃ F'', Ext F' ι' H' F'' ι' H'' ∧ Rel K F'' ι' S' H'' ∧ RW K F'' ι' H'' w x
theorem IterOk.ext {K J F ι H F1 ι1 H1 its} (h : IterOk K J F ι H its) (x : Wk F ι H F1 ι1 H1) : IterOk K J F1 ι1 H1 its := fun i F' ι' S' H' y => h i F' ι' S' H' (x.trans y)
def tI (K : PySem.W.Frag) (E : EX) (m : IM) : TI := fun σ H R => ∃ F ι S ρ, Rel K F ι S H ∧ RS K F ι H ρ σ ∧ Post K (E σ) F ι H (m ρ S) fun F' ι' H' its _ => ∀ J, IterOk K J F' ι' H' its → R J H'
def SI (X : Cx) (E : EX) (tg it : Expr) (m : IM) : Prop := PI X tg it (tI X.K E m)

noncomputable def forL (grd : Sto → Prop) (g : GM) (body : SM) : List W → SM
  | [] => fun ρ S => if grd S then .ok (.nx ρ) S else .bad
  | w :: ws => fun ρ S => if grd S then exq ρ (g w ρ S) fun ρ1 S1 => (body ρ1 S1).bind fun fl S2 => match fl with
      | .nx ρ2 => forL grd g body ws ρ2 S2
      | .ct ρ2 => forL grd g body ws ρ2 S2
      | .bk ρ2 => .ok (.nx ρ2) S2
      | .rt w => .ok (.rt w) S2
      | .ex e ρ2 => .ok (.ex e ρ2) S2
    else .bad
termination_by structural l => l
noncomputable def cFor (im : IM) (g : GM) (body : SM) : SM := fun ρ S => exq ρ (im ρ S) fun its S1 => forL its.grd g body its.items ρ S1
section
variable {X : Cx} {E : EX} {pos : Pos} {tg it c : Expr} {im : IM} {g : GM} {body : SM} {bs : List Stmt} {p : BM}
theorem sm_for (hp : PassesOwn (model X.prog X.w) X.A X.env X.xe) (hc : X.calm = true) (hi : SI X E tg it im) (hg : SG X E tg g) (hb : SSs X E bs body)
    (hs : ∀ x, foldedSetIterable it X.env x = pure x := by intro _; rfl) : SS X E (.For tg it bs [] pos) (cFor im g body) := by
  refine PS.le (ps_for hp hc hi hg hb hs) fun D σ H h => ?_
  obtain ⟨F, ι, S, ρ, R, rs, h⟩ := h
  refine ⟨F, ι, S, ρ, R, rs, (h.exq rs).imp fun F1 ι1 H1 its S1 x1 R1 h J ok => ?_⟩
  refine ⟨fun i m σ H => m = its.items.length - i ∧ i ≤ its.items.length ∧ ∃ F' ι' S' ρ', Ext F1 ι1 H1 F' ι' H ∧ Rel X.K F' ι' S' H ∧ RS X.K F' ι' H ρ' σ ∧
    Post X.K XF F' ι' H (forL its.grd g body (its.items.drop i) ρ' S') (fun F' ι' H' fl _ => PFl X.K E D F' ι' H' fl), ⟨its.items.length, by simp, Nat.zero_le _, F1, ι1, S1, ρ, .refl, R1, rs.ext x1, h⟩, ?_⟩
  rintro i m σ2 H2 ⟨rfl, hi, F', ι', S', ρ', x', R', rs', h'⟩
  by_cases hlt : i < its.items.length
  · rw [List.drop_eq_getElem_cons hlt] at h'
    unfold forL at h'
    split at h'
    · rename_i hg'
      have okk := (ok i F' ι' S' H2 x'.toWk R' hg').2 _ (List.getElem?_eq_getElem hlt)
      refine .inr ⟨okk.1, fun σ' H' => ∃ F3 ι3 S3 ρ3, Ext F1 ι1 H1 F3 ι3 H' ∧ Rel X.K F3 ι3 S3 H' ∧ RS X.K F3 ι3 H' ρ3 σ' ∧
        Post X.K XF F3 ι3 H' (forL its.grd g body (its.items.drop (i + 1)) ρ3 S3) (fun F' ι' H' fl _ => PFl X.K E D F' ι' H' fl), fun σ' H' n => ⟨its.items.length - (i + 1), by omega, rfl, hlt, n⟩, fun x H3 y => ?_⟩
      obtain ⟨F'', x2, R2, r2⟩ := okk.2 x H3 y
      refine ⟨F'', ι', S', ρ', _, R2, rs'.ext x2, r2, ((h'.ext x2).exq (rs'.ext x2)).imp fun F3 ι3 H3 ρ1 S3 x3 R3 h3 σ3 rs3 => ?_⟩
      refine ⟨F3, ι3, S3, ρ1, R3, rs3, h3.bind.imp fun F4 ι4 H4 fl S4 x4 R4 h4 => ?_⟩
      have xx := ((x'.trans x2).trans x3).trans x4
      cases fl with
      | nx ρ2 => exact fun σ4 rs4 => ⟨F4, ι4, S4, ρ2, xx, R4, rs4, h4⟩
      | ct ρ2 => exact fun σ4 rs4 => ⟨F4, ι4, S4, ρ2, xx, R4, rs4, h4⟩
      | bk ρ2 => exact h4.ok R4
      | rt w => exact h4.ok R4
      | ex e ρ2 => exact h4.ok R4
    · exact h'.elim
  · have e : i = its.items.length := by omega
    subst e
    rw [List.drop_length] at h'
    unfold forL at h'
    split at h'
    · rename_i hg'
      exact .inl ⟨(ok _ F' ι' S' H2 x'.toWk R' hg').1 rfl, h'.ok R' _ rs'⟩
    · exact h'.elim

/-! ### while -/
def whN (c : BM) (body : SM) : Nat → SM
  | 0 => fun _ _ => .bad
  | n + 1 => fun ρ S => exq ρ (c ρ S) fun t S1 => if t = true then (body ρ S1).bind fun fl S2 => match fl with
      | .nx ρ2 => whN c body n ρ2 S2
      | .ct ρ2 => whN c body n ρ2 S2
      | .bk ρ2 => .ok (.nx ρ2) S2
      | .rt w => .ok (.rt w) S2
      | .ex e ρ2 => .ok (.ex e ρ2) S2
    else .ok (.nx ρ) S1
noncomputable def cWhile (c : BM) (body : SM) : SM := fun ρ S => if h : ∃ n, whN c body n ρ S ≠ .bad then whN c body h.choose ρ S else .bad
theorem whN_succ {c : BM} {body : SM} : ∀ {n : Nat} {ρ : Rho} {S : Sto}, whN c body n ρ S ≠ .bad → whN c body (n + 1) ρ S = whN c body n ρ S
  | 0, _, _, h => absurd rfl h
  | n + 1, ρ, S, h => by
    unfold whN at h ⊢
    cases q : c ρ S with
    | bad => rfl
    | exc e S1 => rfl
    | ok t S1 =>
      simp only [q, exq] at h ⊢
      cases t with
      | false => rfl
      | true =>
        simp only [if_true] at h ⊢
        cases q2 : body ρ S1 with
        | bad => rfl
        | exc e S2 => rfl
        | ok fl S2 =>
          simp only [q2, Out.bind] at h ⊢
          cases fl with
          | nx ρ2 => exact whN_succ h
          | ct ρ2 => exact whN_succ h
          | _ => rfl
theorem whN_le {c : BM} {body : SM} {n : Nat} {ρ : Rho} {S : Sto} (h : whN c body n ρ S ≠ .bad) : ∀ k, whN c body (n + k) ρ S = whN c body n ρ S
  | 0 => rfl
  | k + 1 => by
    have ih := whN_le h k
    rw [← Nat.add_assoc, whN_succ (by rw [ih]; exact h), ih]
theorem cWhile_of {c : BM} {body : SM} {n : Nat} {ρ : Rho} {S : Sto} {o : Out Fl} (e : whN c body n ρ S = o) (h : o ≠ .bad) : cWhile c body ρ S = o := by
  have hx : ∃ n, whN c body n ρ S ≠ .bad := ⟨n, by rw [e]; exact h⟩
  unfold cWhile
  rw [dif_pos hx]
  have h1 := hx.choose_spec
  rcases Nat.le_total n hx.choose with q | q
  · obtain ⟨k, hk⟩ := Nat.le.dest q
    rw [← hk, whN_le (by rw [e]; exact h), e]
  · obtain ⟨k, hk⟩ := Nat.le.dest q
    rw [← e, ← hk, whN_le h1]
theorem sm_while (hp : PassesOwn (model X.prog X.w) X.A X.env X.xe) (hc : SB X E c p) (hb : SSs X E bs body) : SS X E (.While c bs [] pos) (cWhile p body) := by
  refine PS.le (ps_while hp hc hb) fun D σ H h => ?_
  obtain ⟨F, ι, S, ρ, R, rs, h⟩ := h
  unfold cWhile at h
  split at h
  · rename_i hx
    refine ⟨fun m σ H => ∃ F' ι' S' ρ', Rel X.K F' ι' S' H ∧ RS X.K F' ι' H ρ' σ ∧ Post X.K XF F' ι' H (whN p body m ρ' S') (fun F' ι' H' fl _ => PFl X.K E D F' ι' H' fl), ⟨_, F, ι, S, ρ, R, rs, h⟩, ?_⟩
    rintro m σ1 H1 ⟨F1, ι1, S1, ρ1, R1, rs1, h1⟩
    cases m with
    | zero => exact h1.elim
    | succ m =>
      unfold whN at h1
      refine ⟨F1, ι1, S1, ρ1, R1, rs1, (h1.exq rs1).imp fun F2 ι2 H2 t S2 x2 R2 h2 => ?_⟩
      cases t with
      | false => exact h2.ok R2 _ (rs1.ext x2)
      | true =>
        refine ⟨fun σ' H' => ∃ F' ι' S' ρ', Rel X.K F' ι' S' H' ∧ RS X.K F' ι' H' ρ' σ' ∧ Post X.K XF F' ι' H' (whN p body m ρ' S') (fun F' ι' H' fl _ => PFl X.K E D F' ι' H' fl), fun σ' H' n => ⟨m, Nat.lt_succ_self m, n⟩, ?_⟩
        refine ⟨F2, ι2, S2, ρ1, R2, rs1.ext x2, Post.imp (Post.bind (o := body ρ1 S2) h2) fun F4 ι4 H4 fl S4 x4 R4 h4 => ?_⟩
        cases fl with
        | nx ρ2 => exact fun σ4 rs4 => ⟨F4, ι4, S4, ρ2, R4, rs4, h4⟩
        | ct ρ2 => exact fun σ4 rs4 => ⟨F4, ι4, S4, ρ2, R4, rs4, h4⟩
        | bk ρ2 => exact h4.ok R4
        | rt w => exact h4.ok R4
        | ex e ρ2 => exact h4.ok R4
  · exact h.elim
end

/-! ### comprehensions -/
def wipeR (ρ : Rho) : List Nat → Rho
  | [] => ρ
  | v :: vs => (wipeR ρ vs).set v none
theorem RS.wipe {K F ι H ρ σ} (h : RS K F ι H ρ σ) : ∀ vs, RS K F ι H (wipeR ρ vs) (L2.wipe σ vs)
  | [] => h
  | v :: vs => (RS.wipe h vs).unset v
theorem wipe_get (σ : L2.St) : ∀ (vs : List Nat) (j : Nat), (L2.wipe σ vs)[j]? = if j ∈ vs then (if j < σ.length then some none else none) else σ[j]?
  | [], j => by simp [L2.wipe]
  | v :: vs, j => by
    unfold L2.wipe
    rw [List.getElem?_set, wipe_get σ vs j, wipe_length]
    by_cases q : v = j
    · subst q; simp
    · have : ¬ j = v := fun e => q e.symm
      simp [q, this]
theorem wipe_set {σ : L2.St} {vs : List Nat} {i : Nat} {o : Option V} (h : i ∈ vs) : L2.wipe (σ.set i o) vs = L2.wipe σ vs := by
  apply List.ext_getElem?
  intro j
  rw [wipe_get, wipe_get]
  by_cases q : j ∈ vs
  · simp [q]
  · have : i ≠ j := fun e => q (e ▸ h)
    simp [q, List.getElem?_set_ne this]
theorem wipe_wipe (σ : L2.St) (vs : List Nat) : L2.wipe (L2.wipe σ vs) vs = L2.wipe σ vs := by
  apply List.ext_getElem?
  intro j
  rw [wipe_get, wipe_get, wipe_length]
  by_cases q : j ∈ vs <;> simp [q]
/-- targets of a comprehension: names, tuples of names -/
def tGc (K : PySem.W.Frag) (vs : List Nat) (g : GM) : TG := fun v σ H Q => ∃ F ι S ρ w, Rel K F ι S H ∧ RS K F ι H ρ σ ∧ RW K F ι H w v ∧ Post K XF F ι H (g w ρ S) fun F' ι' H' ρ' _ => ∀ σ', RS K F' ι' H' ρ' σ' → L2.wipe σ' vs = L2.wipe σ vs → Q σ' H'
def tGcs (K : PySem.W.Frag) (vs : List Nat) (g : GMs) : TGs := fun us σ H Q => ∃ F ι S ρ ws, Rel K F ι S H ∧ RS K F ι H ρ σ ∧ RWs K F ι H ws us ∧ Post K XF F ι H (g ws ρ S) fun F' ι' H' ρ' _ => ∀ σ', RS K F' ι' H' ρ' σ' → L2.wipe σ' vs = L2.wipe σ vs → Q σ' H'
def SGc (X : Cx) (vs : List Nat) (tg : Expr) (g : GM) : Prop := PG X tg (tGc X.K vs g)
def SGcs (X : Cx) (vs : List Nat) (tg : List Expr) (g : GMs) : Prop := PGs X tg (tGcs X.K vs g)
section
variable {X : Cx} {pos : Pos} {e : Expr} {es : List Expr} {g : GM} {gs : GMs} {vs : List Nat}
theorem sgc_name (i : Nat) {x : Str} (hN : X.N.Nodup) (hm : i ∈ vs := by decide) (hi : X.N[i]? = some x := by rfl) (hx : Loc X.env.scope x := by first | exact Or.inl rfl | exact Or.inr rfl) (hf : X.fn x = true ∨ X.env.scope.names.lookup x = some .local := by first | exact .inl rfl | exact .inr rfl) : SGc X vs (.Name x pos) (gNm i) := by
  refine PG.le (pg_name hN hi hx hf) fun v σ H Q h => ?_
  obtain ⟨F, ι, S, ρ, w, R, rs, r, h⟩ := h
  exact h.ok R _ (rs.set r i) (wipe_set hm)
theorem sgcs_nil : SGcs X vs [] gsNil := by
  refine PGs.le pgs_nil fun us σ H Q h => ?_
  obtain ⟨F, ι, S, ρ, ws, R, rs, r, h⟩ := h
  cases ws with
  | nil => cases r; exact ⟨rfl, h.ok R _ rs rfl⟩
  | cons => exact h.elim
theorem sgcs_cons (h1 : SGc X vs e g) (h2 : SGcs X vs es gs) (hs : (assignEach (e :: es) X.env).map (·.2) = assign e X.env :: (assignEach es X.env).map (·.2) := by rfl) : SGcs X vs (e :: es) (gsCons g gs) := by
  refine PGs.le (pgs_cons h1 h2 hs) fun us σ H Q h => ?_
  obtain ⟨F, ι, S, ρ, ws, R, rs, r, h⟩ := h
  cases r with
  | nil => exact h.elim
  | cons r1 r2 =>
    unfold gsCons at h
    simp only at h
    split at h
    · rename_i q
      refine ⟨_, _, rfl, F, ι, S, ρ, _, R, rs, r1, ?_⟩
      rw [q]
      intro F1 ι1 H1 x1 R1 σ' rs' ew
      exact ⟨F1, ι1, _, _, _, R1, rs', r2.ext x1, (h.ext x1).imp fun _ _ _ _ _ _ _ k σ2 rs2 e2 => k σ2 rs2 (e2.trans ew)⟩
    · exact h.elim
theorem sgc_tup {k : Nat} {n : Nat} (hc : X.calm = true) (h : SGcs X vs es gs) (hn : (assignEach es X.env).length = n := by rfl) (hst : (assignEach es X.env).findIdx? (·.1) = none := by rfl) : SGc X vs (.Tuple es k pos) (gTp n gs) := by
  refine PG.le (pg_tup hc h hn hst) fun v σ H Q h => ?_
  obtain ⟨F, ι, S, ρ, w, R, rs, r, h⟩ := h
  unfold gTp at h
  split at h
  · rename_i ws e
    split at h
    · rename_i hl
      obtain ⟨a, vs, rfl, st, rr⟩ := r.tup_of e
      refine ⟨a, vs, rfl, st.now, by rw [← rr.length]; exact hl, F, ι, S, ρ, ws, R, rs, rr, ?_⟩
      split at h
      · rename_i q; rw [q]; exact h
      · exact h.elim
    · exact h.elim
  · exact h.elim
end
def bYes : BM := fun _ S => .ok true S
@[reducible] def Out.bindB {α β : Type} (o : Out α) (f : α → Sto → Out β) : Out β := match o with
  | .ok a S => f a S
  | _ => .bad
theorem Out.bindB_ok {α β : Type} {o : Out α} {f : α → Sto → Out β} {b : β} {S' : Sto} (h : o.bindB f = .ok b S') : ∃ a S, o = .ok a S ∧ f a S = .ok b S' := by
  cases o with
  | ok a S => exact ⟨a, S, rfl, h⟩
  | exc e S => cases h
  | bad => cases h
noncomputable def lcL (grd : Sto → Prop) (g : GM) (tt : BM) (elt : EM) (ρ : Rho) : List W → Sto → Out (List W)
  | [] => fun S => if grd S then .ok [] S else .bad
  | w :: ws => fun S => if grd S then (g w ρ S).bindB fun ρ1 S1 => (tt ρ1 S1).bindB fun b S2 =>
      if b = true then (elt ρ1 S2).bindB fun y S3 => (lcL grd g tt elt ρ ws S3).bindB fun r S4 => .ok (y :: r) S4 else lcL grd g tt elt ρ ws S2
    else .bad
termination_by structural l => l
noncomputable def lcAll (im : IM) (g : GM) (tt : BM) (elt : EM) (vs : List Nat) : Rho → Sto → Out (List W) := fun ρ S => (im ρ S).bind fun its S1 => if its.items.length ≤ sizeLine then (lcL its.grd g tt elt (wipeR ρ vs) its.items S1).bindB fun ws S2 => .ok ws S2 else .bad
/-- a list that is never changed; a cell -/
noncomputable def eLc (im : IM) (g : GM) (tt : BM) (elt : EM) (vs : List Nat) : EM := fun ρ S => (im ρ S).bind fun its S1 => if its.items.length ≤ sizeLine then
  (lcL its.grd g tt elt (wipeR ρ vs) its.items S1).bindB fun ws S2 => .ofO S2 ((unD ws).map fun xs => .d (.list xs)) else .bad
noncomputable def eLcM (im : IM) (g : GM) (tt : BM) (elt : EM) (vs : List Nat) : EM := fun ρ S => (im ρ S).bind fun its S1 => if its.items.length ≤ sizeLine then
  (lcL its.grd g tt elt (wipeR ρ vs) its.items S1).bindB fun ws S2 => newCell ws S2 else .bad
theorem Ext.notF {F ι H F' ι' H'} {D : Addr} (x : Ext F ι H F' ι' H') (h : ¬ F D) (n : H D ≠ none) : ¬ F' D := fun f => (x.nf D f).elim h n
theorem Ext.notI {F ι H F' ι' H'} {D : Addr} (x : Ext F ι H F' ι' H') (h : D ∉ ι) (n : H D ≠ none) : D ∉ ι' := fun f => (x.ni D f).elim h n
/-- the reading of a comprehension's walk -/
theorem lc_run {K : PySem.W.Frag} {F : FS} {ι : List Addr} {S S' : Sto} {H : Hp} {ρ : Rho} {σ : L2.St} {J : It} {its : Its} {g : GM} {tt : BM} {elt : EM} {vs : List Nat} {D : Addr} {Qd : Hp → Prop} {wsE : List W}
    (R : Rel K F ι S H) (rs : RS K F ι H ρ σ) (ok : IterOk K J F ι H its) (hz : its.items.length ≤ sizeLine) (nD : H D = none)
    (h : lcL its.grd g tt elt (wipeR ρ vs) its.items S = .ok wsE S')
    (hq : ∀ F' ι' H' us, Ext F ι H F' ι' H' → Rel K F' ι' S' H' → D ∉ ι' → ¬ F' D → H' D = some (.lst us) → RWs K F' ι' H' wsE us → wsE.length ≤ sizeLine → Qd H') :
    ∃ Wi : Nat → Nat → Hp → Prop, (∃ m, Wi 0 m (upd H D (.lst []))) ∧ ∀ i m H, Wi i m H →
      (J.stop i H ∧ Qd H) ∨ (J.go i H ∧ ∃ Nx : Hp → Prop, (∀ H', Nx H' → ∃ m', m' < m ∧ Wi (i + 1) m' H') ∧ ∀ x H', J.yld i H x H' → tGc K vs g x (L2.wipe σ vs) H' fun σ2 H2 => L2.wipe σ2 vs = L2.wipe σ vs ∧ tB K E0x tt σ2 H2 fun b H3 =>
        if b = true then tE K E0x elt σ2 H3 fun y H4 => ∃ acc, H4 D = some (.lst acc) ∧ acc.length < sizeLine ∧ Nx (upd H4 D (.lst (acc ++ [y]))) else Nx H3) := by
  have nF : ¬ F D := fun f => R.ft D f nD
  have nI : D ∉ ι := fun f => R.there f nD
  -- the state between two turns
  let P : Nat → Hp → Prop := fun i H' => ∃ F' ι' S1 ws us r, Ext F ι H F' ι' H' ∧ Rel K F' ι' S1 H' ∧ D ∉ ι' ∧ ¬ F' D ∧ RS K F' ι' H' (wipeR ρ vs) (L2.wipe σ vs) ∧ H' D = some (.lst us) ∧ RWs K F' ι' H' ws us ∧ ws.length ≤ i ∧
    lcL its.grd g tt elt (wipeR ρ vs) (its.items.drop i) S1 = .ok r S' ∧ ws ++ r = wsE
  refine ⟨fun i m H => m = its.items.length - i ∧ i ≤ its.items.length ∧ P i H, ⟨its.items.length, by simp, Nat.zero_le _, F, ι, S, [], [], wsE, Ext.lay nD, R.wr0 nF nI, nI, nF, (rs.wipe vs).wk (Wk.wr0 nF), upd_same, .nil, Nat.zero_le _, h, rfl⟩, ?_⟩
  rintro i m H2 ⟨rfl, hi, F', ι', S1, ws, us, r, x', R', nI', nF', rs', hD, rw', hl, e1, e2⟩
  by_cases hlt : i < its.items.length
  · rw [List.drop_eq_getElem_cons hlt] at e1
    unfold lcL at e1
    split at e1
    · rename_i hg'
      obtain ⟨ρ1, S2, q1, e1⟩ := Out.bindB_ok e1
      obtain ⟨b, S3, q2, e1⟩ := Out.bindB_ok e1
      -- behind a turn that adds nothing, that adds v
      have okk := (ok i F' ι' S1 H2 x'.toWk R' hg').2 _ (List.getElem?_eq_getElem hlt)
      refine .inr ⟨okk.1, P (i + 1), fun H' p => ⟨its.items.length - (i + 1), by omega, rfl, hlt, p⟩, fun x H3 y => ?_⟩
      obtain ⟨F3, x3, R3, r3⟩ := okk.2 x H3 y
      have D2 : H2 D ≠ none := by rw [hD]; simp
      refine ⟨F3, ι', S1, wipeR ρ vs, _, R3, rs'.ext x3, r3, ?_⟩
      rw [q1]
      intro F4 ι4 H4 x4 R4 σ4 rs4 ew
      have x24 := x3.trans x4
      refine ⟨ew.trans (by rw [wipe_wipe]), F4, ι4, S2, ρ1, R4, rs4, ?_⟩
      rw [q2]
      intro F5 ι5 H5 x5 R5
      have x25 := x24.trans x5
      cases b with
      | false =>
        simp only [Bool.false_eq_true, if_false] at e1 ⊢
        exact ⟨F5, ι5, S3, ws, us, r, x'.trans x25, R5, x25.notI nI' D2, x25.notF nF' D2, rs'.ext x25, x25.keep D _ hD nI', rw'.ext x25, by omega, e1, e2⟩
      | true =>
        simp only [if_true] at e1 ⊢
        obtain ⟨yy, S4, q3, e1⟩ := Out.bindB_ok e1
        obtain ⟨r', S5, q4, e1⟩ := Out.bindB_ok e1
        refine ⟨F5, ι5, S3, ρ1, R5, rs4.ext x5, ?_⟩
        rw [q3]
        intro F6 ι6 H6 x6 R6 v rv
        have x26 := x25.trans x6
        have nI6 := x26.notI nI' D2
        have nF6 := x26.notF nF' D2
        have hl6 := rw'.length
        refine ⟨us, x26.keep D _ hD nI', by omega, F6, ι6, S4, ws ++ [yy], us ++ [v], r', (x'.trans x26).wr0 nD, R6.wr0 nF6 nI6, nI6, nF6, (rs'.ext x26).wk (Wk.wr0 nF6), upd_same, ((rw'.ext x26).append (.cons rv .nil)).wk (Wk.wr0 nF6), by simp; omega, ?_, ?_⟩
        · cases e1; exact q4
        · cases e1; rw [← e2]; simp
    · cases e1
  · have e : i = its.items.length := by omega
    subst e
    rw [List.drop_length] at e1
    unfold lcL at e1
    split at e1
    · rename_i hg'
      cases e1
      rw [List.append_nil] at e2
      subst e2
      exact .inl ⟨(ok _ F' ι' _ H2 x'.toWk R' hg').1 rfl, hq F' ι' H2 us x' R' nI' nF' hD rw' (by omega)⟩
    · cases e1
end Sh
end

section
namespace Sh
open PySem PySem.Spec PyProof.Rows L2
open Classical

section
variable {X : Cx} {E : EX} {elt tg it : Expr} {ifs : List Expr} {scope : Scope} {own : List (Str × Nat)} {pos spos : Pos} {im : IM} {g : GM} {tt : BM} {m : EM}
/-- a clause's tests -/
def STs (X : Cx) (ifs : List Expr) (m : BM) : Prop := PTs X ifs (tB X.K E0x m)
theorem sts_nil : STs X [] bYes := ⟨fun pins s σ H Q I h => by
  obtain ⟨F, ι, S, ρ, R, rs, h⟩ := h
  exact pts_nil.run pins s σ H Q I (h.ok R)⟩
theorem sts_one {c : Expr} {p : BM} (h : SB X E0x c p) : STs X [c] p := pts_one h
theorem lc_read {K : PySem.W.Frag} {σ : L2.St} {H : Hp} {Q : VK} {vs : List Nat} (h : tE K E (eLc im g tt m vs) σ H Q) : tLc (tI K E im) (tGc K vs g) (tB K E0x tt) (tE K E0x m) vs σ H Q := by
  obtain ⟨F, ι, S, ρ, R, rs, h⟩ := h
  refine ⟨F, ι, S, ρ, R, rs, h.bind.imp fun F1 ι1 H1 its S1 x1 R1 h J ok D nD => ?_⟩
  split at h
  · rename_i hz
    cases q : lcL its.grd g tt m (wipeR ρ vs) its.items S1 with
    | ok ws S2 =>
      rw [q] at h
      refine lc_run R1 (rs.ext x1) ok hz nD q fun F' ι' H' us x R' nI nF hD rw' hl => ?_
      obtain ⟨w, e, h⟩ := Post.ofO h
      cases q2 : unD ws with
      | none => rw [q2] at e; cases e
      | some xs =>
        rw [q2] at e; cases e
        rw [unD_eq q2] at rw' hl
        have hn : H' D ≠ none := by rw [hD]; simp
        refine h _ _ _ (x.adoptF nD) (R'.adoptF nI hn) _ (.d (.lst (.mk' ?_ (.inl rfl) hD) (rw'.toD.wk (Wk.adoptF (ι := ι')))))
        rw [← rw'.toD.length]; simpa using hl
    | exc e S2 => rw [q] at h; exact h.elim
    | bad => rw [q] at h; exact h.elim
  · exact h.elim
theorem lcM_read {K : PySem.W.Frag} {σ : L2.St} {H : Hp} {Q : VK} {vs : List Nat} (h : tE K E (eLcM im g tt m vs) σ H Q) : tLc (tI K E im) (tGc K vs g) (tB K E0x tt) (tE K E0x m) vs σ H Q := by
  obtain ⟨F, ι, S, ρ, R, rs, h⟩ := h
  refine ⟨F, ι, S, ρ, R, rs, h.bind.imp fun F1 ι1 H1 its S1 x1 R1 h J ok D nD => ?_⟩
  split at h
  · rename_i hz
    cases q : lcL its.grd g tt m (wipeR ρ vs) its.items S1 with
    | ok ws S2 =>
      rw [q] at h
      refine lc_run R1 (rs.ext x1) ok hz nD q fun F' ι' H' us x R' nI nF hD rw' hl => ?_
      have h' : Post K (E σ) F1 ι1 H1 (newCell ws S2) _ := h
      unfold newCell at h'
      rw [if_pos hl] at h'
      refine h' _ _ _ (x.adoptC nD) (R'.adoptC nF nI ⟨us, hD, rw'.wk Wk.adoptC, hl⟩) _ (.ref ?_)
      rw [← R'.len]; simp
    | exc e S2 => rw [q] at h; exact h.elim
    | bad => rw [q] at h; exact h.elim
  · exact h.elim
theorem s_lc (hc : X.calm = true) (hN : X.N.Nodup) (ok : BlkOk X.N X.env.scope scope own) (hi : SI X E tg it im)
    (hg : ∀ (s : Shared) (H : Hp) (C : Addr) (cl : List (Str × Addr)) (fp : List Addr), SGc (X.blk s H scope (compEnvC scope cl C X.env) fp) (own.map (·.2)) tg g) (ht : ∀ (s : Shared) (H : Hp) (C : Addr) (cl : List (Str × Addr)) (fp : List Addr), STs (X.blk s H scope (compEnvC scope cl C X.env) fp) ifs tt)
    (he : ∀ (s : Shared) (H : Hp) (C : Addr) (cl : List (Str × Addr)) (fp : List Addr), SE (X.blk s H scope (compEnvC scope cl C X.env) fp) E0x elt m) (hs : ∀ x, foldedSetIterable it X.env x = pure x := by intro _; rfl) :
    SE X E (.ListComp elt [⟨tg, it, ifs, 0⟩] scope pos) (eLc im g tt m (own.map (·.2))) :=
  PE.le (pe_lc (g := tGc X.K (own.map fun p : Str × Nat => p.2) g) (tt := tB X.K E0x tt) (te := tE X.K E0x m) hc hN hi ok hg ht he hs) fun σ H Q h => lc_read h
theorem s_lcM (hc : X.calm = true) (hN : X.N.Nodup) (ok : BlkOk X.N X.env.scope scope own) (hi : SI X E tg it im)
    (hg : ∀ (s : Shared) (H : Hp) (C : Addr) (cl : List (Str × Addr)) (fp : List Addr), SGc (X.blk s H scope (compEnvC scope cl C X.env) fp) (own.map (·.2)) tg g) (ht : ∀ (s : Shared) (H : Hp) (C : Addr) (cl : List (Str × Addr)) (fp : List Addr), STs (X.blk s H scope (compEnvC scope cl C X.env) fp) ifs tt)
    (he : ∀ (s : Shared) (H : Hp) (C : Addr) (cl : List (Str × Addr)) (fp : List Addr), SE (X.blk s H scope (compEnvC scope cl C X.env) fp) E0x elt m) (hs : ∀ x, foldedSetIterable it X.env x = pure x := by intro _; rfl) :
    SE X E (.ListComp elt [⟨tg, it, ifs, 0⟩] scope pos) (eLcM im g tt m (own.map (·.2))) :=
  PE.le (pe_lc (g := tGc X.K (own.map fun p : Str × Nat => p.2) g) (tt := tB X.K E0x tt) (te := tE X.K E0x m) hc hN hi ok hg ht he hs) fun σ H Q h => lcM_read h
theorem sm_setLc (i : Nat) {y : Str} {py : Pos} (hc : X.calm = true) (hN : X.N.Nodup) (ok : BlkOk X.N X.env.scope scope own) (hi : SI X E tg it im)
    (hg : ∀ (s : Shared) (H : Hp) (C : Addr) (cl : List (Str × Addr)) (fp : List Addr), SGc (X.blk s H scope (compEnvC scope cl C X.env) fp) (own.map (·.2)) tg g) (ht : ∀ (s : Shared) (H : Hp) (C : Addr) (cl : List (Str × Addr)) (fp : List Addr), STs (X.blk s H scope (compEnvC scope cl C X.env) fp) ifs tt)
    (he : ∀ (s : Shared) (H : Hp) (C : Addr) (cl : List (Str × Addr)) (fp : List Addr), SE (X.blk s H scope (compEnvC scope cl C X.env) fp) E0x elt m)
    (hy : X.N[i]? = some y := by rfl) (hyl : X.env.scope.names.lookup y = some .local := by rfl) (hsw : swapsWith (.ListComp elt [⟨tg, it, ifs, 0⟩] scope pos) (some (.Name y py)) spos.line X.env = pure true := by exact sw_true rfl rfl rfl (by decide +kernel)) (hs : ∀ x, foldedSetIterable it X.env x = pure x := by intro _; rfl) :
    SS X E (.Assign [.Name y py] (.ListComp elt [⟨tg, it, ifs, 0⟩] scope pos) spos) (cSet i (eLc im g tt m (own.map (·.2)))) := by
  refine PS.le (ps_setLc (g := tGc X.K (own.map fun p : Str × Nat => p.2) g) (tt := tB X.K E0x tt) (te := tE X.K E0x m) hc hN hy hyl hsw hi ok hg ht he hs) fun D σ H h => ?_
  refine lc_read ?_
  obtain ⟨F, ι, S, ρ, R, rs, h⟩ := h
  exact ⟨F, ι, S, ρ, R, rs, (h.exq rs).imp fun F1 ι1 H1 w S1 x1 R1 h v r => h.ok R1 _ ((rs.ext x1).set r i)⟩
theorem sm_setLcM (i : Nat) {y : Str} {py : Pos} (hc : X.calm = true) (hN : X.N.Nodup) (ok : BlkOk X.N X.env.scope scope own) (hi : SI X E tg it im)
    (hg : ∀ (s : Shared) (H : Hp) (C : Addr) (cl : List (Str × Addr)) (fp : List Addr), SGc (X.blk s H scope (compEnvC scope cl C X.env) fp) (own.map (·.2)) tg g) (ht : ∀ (s : Shared) (H : Hp) (C : Addr) (cl : List (Str × Addr)) (fp : List Addr), STs (X.blk s H scope (compEnvC scope cl C X.env) fp) ifs tt)
    (he : ∀ (s : Shared) (H : Hp) (C : Addr) (cl : List (Str × Addr)) (fp : List Addr), SE (X.blk s H scope (compEnvC scope cl C X.env) fp) E0x elt m)
    (hy : X.N[i]? = some y := by rfl) (hyl : X.env.scope.names.lookup y = some .local := by rfl) (hsw : swapsWith (.ListComp elt [⟨tg, it, ifs, 0⟩] scope pos) (some (.Name y py)) spos.line X.env = pure true := by exact sw_true rfl rfl rfl (by decide +kernel)) (hs : ∀ x, foldedSetIterable it X.env x = pure x := by intro _; rfl) :
    SS X E (.Assign [.Name y py] (.ListComp elt [⟨tg, it, ifs, 0⟩] scope pos) spos) (cSet i (eLcM im g tt m (own.map (·.2)))) := by
  refine PS.le (ps_setLc (g := tGc X.K (own.map fun p : Str × Nat => p.2) g) (tt := tB X.K E0x tt) (te := tE X.K E0x m) hc hN hy hyl hsw hi ok hg ht he hs) fun D σ H h => ?_
  refine lcM_read ?_
  obtain ⟨F, ι, S, ρ, R, rs, h⟩ := h
  exact ⟨F, ι, S, ρ, R, rs, (h.exq rs).imp fun F1 ι1 H1 w S1 x1 R1 h v r => h.ok R1 _ ((rs.ext x1).set r i)⟩
end

/-! ### defs -/
abbrev FM := List W → Sto → Out W
/-- what a def hands back -/
def fin : Out Fl → Out W
  | .ok (.rt w) S => .ok w S
  | .ok (.nx _) S => .ok (.d .none) S
  | .ok (.ex e _) S => .exc e S
  | _ => .bad
def defM (nN nP : Nat) (body : SM) : FM := fun ws S => if ws.length = nP then fin (body (ws.map some ++ List.replicate (nN - nP) none) S) else .bad
/-- a wish by the class, told by the class's name -/
abbrev byN (mg : Str → Option Value) (E : XK) : XN := fun n d H => ∀ C, mg n = some (.ref C) → E (.ref C) d H
def spM (K : PySem.W.Frag) (mg : Str → Option Value) (nP : Nat) (m : FM) : Sp := fun vs H Q E => ∃ F ι S ws, Rel K F ι S H ∧ RWs K F ι H ws vs ∧ ws.length = nP ∧ Post K (byN mg E) F ι H (m ws S) fun F' ι' H' w _ => ∀ v, RW K F' ι' H' w v → Q v H'
theorem RWs.start {K F ι H} : ∀ {ws : List W} {vs : List V} (n : Nat), RWs K F ι H ws vs → RS K F ι H (ws.map some ++ List.replicate n none) (vs.map some ++ List.replicate n none) := fun {ws vs} n r => by
  refine ⟨by simp [r.length], fun i w e => ?_⟩
  have hl := r.length
  by_cases h : i < ws.length
  · rw [List.getElem?_append_left (by simpa using h)] at e
    rw [List.getElem?_append_left (by simpa [← hl] using h)]
    rw [List.getElem?_map] at e
    cases q : ws[i]? with
    | none => rw [q] at e; cases e
    | some u =>
      rw [q] at e; cases e
      obtain ⟨v, e2, r2⟩ := r.get' q
      exact ⟨v, by rw [List.getElem?_map, e2]; rfl, r2⟩
  · rw [List.getElem?_append_right (by simp; omega)] at e
    rw [List.getElem?_replicate] at e
    split at e <;> cases e
section
variable {P : Program} {w : World} {K : PySem.W.Frag} {mg : Str → Option Value} {base : Heap}
theorem def_ok {x qual : Str} {st : Stmt} {f : Addr} {fd : FuncData} {N ps : List Str} {k : Nat} {body : SM} (Fn : Fun K x qual st f fd) (S : FnScope N ps (defScope st))
    (hbody : ∀ (cdv : Value) (A : Around) (outer : List Env) (s : Shared) (H : Hp) (E : XK), Room k (A.deeper (envOfC qual (defScope st) s.heap.objs.size f cdv)) →
      SSs (cxOf (L2.CX P w) P w K mg base N qual (defScope st) f cdv A outer s H E) (fun _ => byN mg E) (defBody st) body) : FnOk P w K mg base (L2.CX P w) (k + 1) f fd ps (spM K mg ps.length (defM N.length ps.length body)) := by
  refine Fn.okX S (fun vs H Q E h => ?_) (fun cdv A outer s H vs Q E hr h => ?_)
  · obtain ⟨F, ι, St, ws, R, r, hl, h⟩ := h
    rw [← r.length, hl]
  · refine ⟨_, hbody cdv A outer s H E hr, ?_⟩
    obtain ⟨F, ι, St, ws, R, r, hl, h⟩ := h
    have hl2 := r.length
    refine ⟨F, ι, St, _, R, r.start (N.length - vs.length), ?_⟩
    unfold defM at h
    rw [if_pos hl] at h
    rw [show N.length - vs.length = N.length - ps.length by omega]
    cases q : body (List.map some ws ++ List.replicate (N.length - ps.length) none) St with
    | bad => rw [q] at h; exact h.elim
    | exc e S' => rw [q] at h; exact h.elim
    | ok fl S' =>
      rw [q] at h
      cases fl with
      | nx ρ' => exact fun F' ι' H' x' R' σ' rs' => h F' ι' H' x' R' _ (.d .non)
      | rt u => exact fun F' ι' H' x' R' v rv => h F' ι' H' x' R' v rv
      | ex e ρ' => exact fun F' ι' H' x' R' σ' dx rs' er => h F' ι' H' dx x' R' er
      | bk ρ' => exact h.elim
      | ct ρ' => exact h.elim
end

/-! ### calls -/
/-- a plain value handed back by a call on its own store -/
def frzW (S : Sto) : W → Option W
  | .d x => some (.d x)
  | .ref n => match S[n]? with
    | some (.lst ws) => (unD ws).map fun xs => .d (.list xs)
    | _ => none
  | .cst v => some (.cst v)
  | .tup _ => none
  | .fl _ => none
def frzF (S : Sto) : Option (Str × W) → Option (Option (Str × W))
  | none => some none
  | some (f, w) => (frzW S w).map fun u => some (f, u)
/-- nothing of the store in it -/
def isD : W → Bool
  | .d _ => true
  | .cst _ => true
  | .fl _ => true
  | _ => false
def callE (f : FM) : List W → Sto → Out W := f
/-- on a store of its own -/
def callP (f : FM) : List W → Sto → Out W := fun ws S => if ws.all isD = true then (match f ws [] with
  | .ok w S' => match frzW S' w with
    | some u => .ok u S
    | none => .bad
  | .exc e S' => match e.fld with
    | none => .exc e S
    | some (fl, .d x) => .exc e S
    | _ => .bad
  | .bad => .bad) else .bad
def eCall (f : List W → Sto → Out W) (ms : AM) : EM := fun ρ S => (ms ρ S).bind fun ws S1 => f ws S1
section
variable {K : PySem.W.Frag} {F F' : FS} {ι ι' : List Addr} {S S' : Sto} {H H' : Hp}
theorem RWs.noRef : ∀ {ws : List W} {vs : List V}, RWs K F ι H ws vs → ws.all isD = true → RWs K F [] H ws vs
  | _, _, .nil, _ => .nil
  | _, _, .cons r t, h => by
    simp only [List.all_cons, Bool.and_eq_true] at h
    refine .cons ?_ (RWs.noRef t h.2)
    cases r with
    | d r => exact .d r
    | cst => exact .cst _
    | ref _ => cases h.1
    | tup _ _ => cases h.1
    | fl s r => exact .fl s r
/-- what a call on its own store leaves, seen from the caller -/
theorem Ext.own (R : Rel K F ι S H) (x : Ext F [] H F' ι' H') : Ext F ι H (fun a => F' a ∨ a ∈ ι') ι H' := by
  refine ⟨⟨fun a h => .inl (x.fs a h), x.ag, ⟨[], by simp⟩⟩, fun a o h _ => x.keep a o h (by simp), fun a h => ?_, fun a h => .inl h, x.st⟩
  rcases h with h | h
  · exact x.nf a h
  · rcases x.ni a h with z | z
    · simp at z
    · exact .inr z
theorem Rel.own (R : Rel K F ι S H) (x : Ext F [] H F' ι' H') (R' : Rel K F' ι' S' H') : Rel K (fun a => F' a ∨ a ∈ ι') ι S H' := by
  refine ⟨R.len, R.nd, fun a h f => ?_, fun a f => ?_, fun m a ob h1 h2 => ?_⟩
  · rcases f with f | f
    · rcases x.nf a f with z | z
      · exact R.dj a h z
      · exact R.there h z
    · rcases x.ni a f with z | z
      · simp at z
      · exact R.there h z
  · rcases f with f | f
    · exact R'.ft a f
    · exact R'.there f
  · have hs := (R.cell m a ob h1 h2).some
    refine (R.cell m a ob h1 h2).wk (Ext.own R x).toWk ?_
    cases q : H a with
    | none => exact absurd q hs
    | some o => exact x.keep a o q (by simp)
theorem RW.frz (R' : Rel K F' ι' S' H') {w u : W} {v : V} (r : RW K F' ι' H' w v) (e : frzW S' w = some u) : RW K (fun a => F' a ∨ a ∈ ι') ι H' u v := by
  have wk : Wk F' ι' H' (fun a => F' a ∨ a ∈ ι') ι' H' := ⟨fun _ h => .inl h, .refl, ⟨[], by simp⟩⟩
  cases r with
  | d r => cases e; exact .d (r.wk wk)
  | cst => cases e; exact .cst _
  | tup _ _ => cases e
  | fl _ _ => cases e
  | ref hn =>
    rename_i n a
    simp only [frzW] at e
    split at e
    · rename_i ws hs
      obtain ⟨vs, h1, h2, h3⟩ := R'.cell n a _ hn hs
      cases q : unD ws with
      | none => rw [q] at e; cases e
      | some xs =>
        rw [q] at e; cases e
        rw [unD_eq q] at h2 h3
        refine .d (.lst (.mk' ?_ (.inr (List.mem_of_getElem? hn)) h1) (h2.toD.wk wk))
        rw [← h2.toD.length]; simpa using h3
    · cases e
end
section
variable {X : Cx} {E : EX} {pos p : Pos} {e : Expr} {es : List Expr} {ms : AM} {x : Str} {f : Addr} {fd : FuncData} {k : Nat} {ps : List Str} {m : FM}
theorem pureC {K : PySem.W.Frag} {mg : Str → Option Value} {Ex : XK} {F : FS} {ι : List Addr} {S : Sto} {H : Hp} {ws : List W} {vs : List V} {Q : VK} {n : Nat} (R : Rel K F ι S H) (r : RWs K F ι H ws vs) (hl : ws.length = n)
    (h : Post K (byN mg Ex) F ι H (callP m ws S) fun F' ι' H' w _ => ∀ v, RW K F' ι' H' w v → Q v H') : spM K mg n m vs H Q Ex := by
  unfold callP at h
  split at h
  · rename_i hD
    refine ⟨F, [], [], ws, .nil R.ft, r.noRef hD, hl, ?_⟩
    cases q : m ws [] with
    | bad => rw [q] at h; exact h.elim
    | ok w S' =>
      rw [q] at h
      simp only at h
      split at h
      · rename_i u e
        exact fun F' ι' H' x' R' v rv => h _ _ _ (Ext.own R x') (R.own x' R') v (rv.frz R' e)
      · exact h.elim
    | exc e S' =>
      rw [q] at h
      simp only at h
      intro F' ι' H' dx x' R' er
      split at h
      · rename_i e0
        refine h _ _ _ dx (Ext.own R x') (R.own x' R') ?_
        unfold ER at er ⊢
        rw [e0] at er ⊢
        exact er
      · rename_i fl z e0
        refine h _ _ _ dx (Ext.own R x') (R.own x' R') ?_
        unfold ER at er ⊢
        rw [e0] at er ⊢
        obtain ⟨a, v, h1, h2, h3⟩ := er
        refine ⟨a, v, h1, h2, ?_⟩
        cases h3 with
        | d r => exact .d (r.wk (⟨fun _ h => .inl h, .refl, ⟨[], by simp⟩⟩ : Wk F' ι' H' _ ι' H'))
      · exact h.elim
  · exact h.elim
/-- f(..): of a def of the module -/
theorem s_callE {Wt : WX} (tk : Tk X E Wt) (G : FnOk X.prog X.w X.K X.mg X.base (L2.CX X.prog X.w) k f fd ps (spM X.K X.mg ps.length m)) (hr : Room k X.A) (hm : X.mg x = some (.ref f)) (hk : PySem.W.keepIn X.K (.ref f) = true) (hb : Binds X.K fd ps [])
    (ha : SA X E (e :: es) ms) (hn : (e :: es).length = ps.length := by rfl) (hg : Gl X x := by rfl) (hdb : (x == ("__debug__" : Str)) = false := by decide) (he : starEach (e :: es) X.env = (false, eval e X.env) :: starEach es X.env := by rfl) (hpl : (backTo pos (starEach es X.env)).any (·.1) = false := by rfl)
    (hlen : ∀ ρ S ws S', ms ρ S = .ok ws S' → ws.length = ps.length) : SE X E (.Call (.Name x p) (e :: es) [] pos) (eCall (callE m) ms) := by
  refine PE.le (pe_callS (E := WE Wt) G hr hg hm hk hb (fun σ => passAt tk.tk σ) ha hdb he hpl) fun σ H Q h => ?_
  obtain ⟨F, ι, S, ρ, R, rs, h⟩ := h
  refine ⟨F, ι, S, ρ, R, rs, ?_⟩
  cases q : ms ρ S with
  | bad => unfold eCall at h; rw [q] at h; exact h.elim
  | exc e S1 => unfold eCall at h; rw [q] at h; exact h
  | ok ws S1 =>
    unfold eCall at h; rw [q] at h
    intro F1 ι1 H1 x1 R1 vs r
    exact ⟨F1, ι1, S1, ws, R1, r, hlen _ _ _ _ q, (Post.ext (o := callE m ws S1) h x1).wish fun n d H h C hm => tk.lk n C d σ H hm h⟩
theorem s_callP {Wt : WX} (tk : Tk X E Wt) (G : FnOk X.prog X.w X.K X.mg X.base (L2.CX X.prog X.w) k f fd ps (spM X.K X.mg ps.length m)) (hr : Room k X.A) (hm : X.mg x = some (.ref f)) (hk : PySem.W.keepIn X.K (.ref f) = true) (hb : Binds X.K fd ps [])
    (ha : SA X E (e :: es) ms) (hn : (e :: es).length = ps.length := by rfl) (hg : Gl X x := by rfl) (hdb : (x == ("__debug__" : Str)) = false := by decide) (he : starEach (e :: es) X.env = (false, eval e X.env) :: starEach es X.env := by rfl) (hpl : (backTo pos (starEach es X.env)).any (·.1) = false := by rfl)
    (hlen : ∀ ρ S ws S', ms ρ S = .ok ws S' → ws.length = ps.length) : SE X E (.Call (.Name x p) (e :: es) [] pos) (eCall (callP m) ms) := by
  refine PE.le (pe_callS (E := WE Wt) G hr hg hm hk hb (fun σ => passAt tk.tk σ) ha hdb he hpl) fun σ H Q h => ?_
  obtain ⟨F, ι, S, ρ, R, rs, h⟩ := h
  refine ⟨F, ι, S, ρ, R, rs, ?_⟩
  cases q : ms ρ S with
  | bad => unfold eCall at h; rw [q] at h; exact h.elim
  | exc e S1 => unfold eCall at h; rw [q] at h; exact h
  | ok ws S1 =>
    unfold eCall at h; rw [q] at h
    intro F1 ι1 H1 x1 R1 vs r
    exact pureC R1 r (hlen _ _ _ _ q) ((Post.ext (o := callP m ws S1) h x1).wish fun n d H h C hm => tk.lk n C d σ H hm h)
end
/-- how many arguments come -/
theorem alen_nil : ∀ ρ S ws S', aNil ρ S = .ok ws S' → ws.length = 0 := fun ρ S ws S' h => by cases h; rfl
theorem alen_cons {m : EM} {ms : AM} {n : Nat} (h : ∀ ρ S ws S', ms ρ S = .ok ws S' → ws.length = n) : ∀ ρ S ws S', aCons m ms ρ S = .ok ws S' → ws.length = n + 1 := fun ρ S ws S' e => by
  unfold aCons at e
  cases q : m ρ S with
  | ok w S1 =>
    rw [q] at e
    simp only [Out.bind] at e
    cases q2 : ms ρ S1 with
    | ok us S2 => rw [q2] at e; cases e; simp [h _ _ _ _ q2]
    | exc _ _ => rw [q2] at e; cases e
    | bad => rw [q2] at e; cases e
  | exc _ _ => rw [q] at e; cases e
  | bad => rw [q] at e; cases e
end Sh
end

section
namespace Sh
open PySem PySem.Spec PyProof.Rows L2
open Classical

/-! ### shapes of values -/
section
variable {K : PySem.W.Frag} {F : FS} {ι : List Addr} {S : Sto} {H : Hp} {v : V}
theorem RW.int_of {i} (h : RW K F ι H (.d (.int i)) v) : v = .int i := by cases h with | d h => cases h; rfl
theorem RW.str_of {i} (h : RW K F ι H (.d (.str i)) v) : v = .str i := by cases h with | d h => cases h; rfl
theorem RW.non_of (h : RW K F ι H (.d .none) v) : v = .non := by cases h with | d h => cases h; rfl
theorem RW.lst_of {xs} (h : RW K F ι H (.d (.list xs)) v) : ∃ a vs, v = .ref a ∧ StL K F H a vs ∧ RDs K F H xs vs := by cases h with | d h => cases h with | lst s r => exact ⟨_, _, rfl, s, r⟩
theorem RW.fl_of {xs} (h : RW K F ι H (.fl xs) v) : ∃ a vs, v = .ref a ∧ StF K F H a vs ∧ RDs K F H xs vs := by cases h with | fl s r => exact ⟨_, _, rfl, s, r⟩
theorem RW.ref_of {n} (R : Rel K F ι S H) (h : RW K F ι H (.ref n) v) {o} (e : S[n]? = some o) : ∃ a, v = .ref a ∧ ι[n]? = some a ∧ RO K F ι H a o := by
  cases h with | ref h => exact ⟨_, rfl, h, R.cell _ _ _ h e⟩
/-- a new list that is never changed -/
theorem new_lst (R : Rel K F ι S H) {p : Addr} {xs : List PyData} {vs : List V} (n : H p = none) (r : RDs K F H xs vs) (hz : xs.length ≤ sizeLine) :
    Ext F ι H (addF F p) ι (upd H p (.lst vs)) ∧ Rel K (addF F p) ι S (upd H p (.lst vs)) ∧ RW K (addF F p) ι (upd H p (.lst vs)) (.d (.list xs)) (.ref p) := by
  have x := Ext.frz (F := F) (ι := ι) (o := .lst vs) n
  exact ⟨x, R.frz n, .d (.lst (.mk' (by rw [← r.length]; exact hz) (.inl rfl) upd_same) (r.ext x))⟩
theorem new_tup (R : Rel K F ι S H) {p : Addr} {ws : List W} {vs : List V} (n : H p = none) (r : RWs K F ι H ws vs) (hz : ws.length ≤ sizeLine) :
    Ext F ι H (addF F p) ι (upd H p (.tup vs)) ∧ Rel K (addF F p) ι S (upd H p (.tup vs)) ∧ RW K (addF F p) ι (upd H p (.tup vs)) (mkTup ws) (.ref p) := by
  have x := Ext.frz (F := F) (ι := ι) (o := .tup vs) n
  exact ⟨x, R.frz n, RW.mkTup (.mk' (by rw [← r.length]; exact hz) (.inl rfl) upd_same) (r.ext x)⟩
end
@[simp] theorem mkTup_d (xs : List PyData) : mkTup (xs.map .d) = .d (.tuple xs) := by simp [mkTup]

/-- ** of a base of any size, the result of at most some millions of bits -/
def CPowW (i j : Int) : Prop := 0 ≤ j ∧ ((i.natAbs.log2 : Int) + 1) * j ≤ 2 ^ 27
theorem op_powW {X : Cx} : OpR X (binaryOp .Pow) (rI CPowW fun i j => .int (i ^ j.toNat)) := opI fun i j _ _ _ _ _ hc q => by
  refine PyProof.Rows.pow_int hc.1 ?_ q
  have b : (Builtin.Int.intBits i : Int) ≤ (i.natAbs.log2 : Int) + 1 := by
    unfold Builtin.Int.intBits
    split <;> omega
  exact Int.le_trans (Int.mul_le_mul_of_nonneg_right b hc.1) hc.2
/-! ### + - * // % ** -/
def opAdd : Op2 := fun x y S => match x, y with
  | .d (.int a), .d (.int b) => .ok (.d (.int (a + b))) S
  | .d (.str a), .d (.str b) => if a.length + b.length ≤ sizeLine then .ok (.d (.str (a ++ b))) S else .bad
  | .d (.list a), .d (.list b) => if a.length + b.length ≤ sizeLine then .ok (.d (.list (a ++ b))) S else .bad
  | x, y => match tupOf x, tupOf y with
    | some a, some b => if a.length + b.length ≤ sizeLine then .ok (mkTup (a ++ b)) S else .bad
    | _, _ => .bad
def opSub : Op2 := fun x y S => match x, y with
  | .d (.int a), .d (.int b) => .ok (.d (.int (a - b))) S
  | _, _ => .bad
noncomputable def opMul : Op2 := fun x y S => match x, y with
  | .d (.int a), .d (.int b) => if CMul a b ∨ CMulW a b then .ok (.d (.int (a * b))) S else .bad
  | .d (.list a), .d (.int k) => if In63 k ∧ a.length * k.toNat ≤ sizeLine then .ok (.d (.list (List.replicate k.toNat a).flatten)) S else .bad
  | .d (.tuple a), .d (.int k) => if a ≠ [] ∧ 2 ≤ k ∧ k ≤ 1000 ∧ a.length ≤ 1000 then .ok (.d (.tuple (List.replicate k.toNat a).flatten)) S else if k = 1 then .ok (.d (.tuple a)) S else .bad
  | _, _ => .bad
noncomputable def opDiv : Op2 := fun x y S => match x, y with
  | .d (.int a), .d (.int b) => if CDivW a b then .ok (.d (.int (a / b))) S else .bad
  | _, _ => .bad
def opMod : Op2 := fun x y S => match x, y with
  | .d (.int a), .d (.int b) => if 0 < b then .ok (.d (.int (a % b))) S else .bad
  | _, _ => .bad
noncomputable def opPow : Op2 := fun x y S => match x, y with
  | .d (.int a), .d (.int b) => if CPow a b ∨ CPowW a b then .ok (.d (.int (a ^ b.toNat))) S else .bad
  | _, _ => .bad
section
variable {X : Cx}
theorem OpR.le {f : Value → Value → Sem Value} {r r' : R2} (h : OpR X f r) (k : ∀ x y H Q, r' x y H Q → r x y H Q) : OpR X f r' := fun pins s σ H x y v u Q I a b q => h pins s σ H x y v u Q I a b (k x y H Q q)
abbrev rAddS (K : PySem.W.Frag) : R2 := fun x y H Q => (((∃ i j, x = .int i ∧ y = .int j ∧ Q (.int (i + j)) H) ∨ (∃ i j, x = .str i ∧ y = .str j ∧ i.length + j.length ≤ sizeLine ∧ Q (.str (i ++ j)) H)) ∨ rCat x y H Q) ∨ rCatA K x y H Q
theorem op_addS : OpR X (binaryOp .Add) (rAddS X.K) := ((op_add.or op_add_str).or op_cat).or op_catA
theorem tup_of_ne {w : W} (h : tupOf w = none) : (∀ xs, w ≠ .d (.tuple xs)) ∧ ∀ ws, w ≠ .tup ws := by
  constructor
  · rintro xs rfl; cases h
  · rintro xs rfl; cases h
theorem mkTup_same {K F ι H} {w : W} {ws : List W} {v : V} (e : tupOf w = some ws) (r : RW K F ι H w v) : RW K F ι H (mkTup ws) v := by
  obtain ⟨a, vs, rfl, st, rr⟩ := r.tup_of e
  exact RW.mkTup st rr
theorem ok_add : Ok2 X (rAddS X.K) opAdd := by
  intro E F ι S H x y v u Q R rx ry h
  unfold opAdd at h
  split at h
  · obtain rfl := rx.int_of; obtain rfl := ry.int_of
    exact .inl (.inl (.inl ⟨_, _, rfl, rfl, h.ok R _ (.d (.int _))⟩))
  · obtain rfl := rx.str_of; obtain rfl := ry.str_of
    split at h
    · rename_i hz; exact .inl (.inl (.inr ⟨_, _, rfl, rfl, hz, h.ok R _ (.d (.str _))⟩))
    · exact h.elim
  · obtain ⟨a, vs, rfl, sa, ra⟩ := rx.lst_of; obtain ⟨b, us, rfl, sb, rb⟩ := ry.lst_of
    split at h
    · rename_i hz
      refine .inl (.inr ⟨a, b, vs, us, rfl, rfl, sa.tr, sb.tr, by rw [← ra.length, ← rb.length]; exact hz, fun p n => ?_⟩)
      obtain ⟨x1, R1, r1⟩ := new_lst R n (ra.append rb) (by rw [List.length_append]; exact hz)
      exact h _ _ _ x1 R1 _ r1
    · exact h.elim
  · split at h
    · rename_i a b ea eb
      split at h
      · rename_i hz
        obtain ⟨p, vs, rfl, sa, ra⟩ := rx.tup_of ea; obtain ⟨q, us, rfl, sb, rb⟩ := ry.tup_of eb
        have la := ra.length; have lb := rb.length
        refine .inr ⟨p, q, vs, us, rfl, rfl, sa.now, sb.now, by rw [← la, ← lb]; exact hz, fun e => ?_, fun e1 e2 => ?_, fun e1 e2 c n => ?_⟩
        · have : a = [] := by rw [e] at la; exact List.length_eq_zero_iff.mp la
          rw [this, List.nil_append] at h
          exact h.ok R _ (mkTup_same eb ry)
        · have : b = [] := by rw [e2] at lb; exact List.length_eq_zero_iff.mp lb
          rw [this, List.append_nil] at h
          exact h.ok R _ (mkTup_same ea rx)
        · obtain ⟨x1, R1, r1⟩ := new_tup R n (ra.append rb) (by rw [List.length_append]; exact hz)
          exact h _ _ _ x1 R1 _ r1
      · exact h.elim
    · exact h.elim
theorem ok_sub : Ok2 X (rI0 fun i j => .int (i - j)) opSub := by
  intro E F ι S H x y v u Q R rx ry h
  unfold opSub at h
  split at h
  · obtain rfl := rx.int_of; obtain rfl := ry.int_of
    exact ⟨_, _, rfl, rfl, h.ok R _ (.d (.int _))⟩
  · exact h.elim
theorem tuple_mul1 (l : Addr) (items : Array Value) (n : Nat) (dd : Option Addr) (sl : Array (Option Value)) (u : Tok) :
    Meets (Builtin.«tuple.__mul__» ⟨[.ref l, .int 1 u], []⟩) (fun _ R s => s.heap.get? l = some { cls := .type "tuple", dict := dd, data := .seq items n, slots := sl } ∧ R (.ok (.ret (Value.ref l))) s) :=
  .of_wp fun prog w A R s h => by
    obtain ⟨hp, g, d, tk, os⟩ := s
    obtain ⟨hl, h⟩ := h
    have f1 := AutoSeq1.idx_int
    have c1 : (items.isEmpty || (1 : Int) == 1) = true := by simp
    wp_walk using PySem.AutoSeq1.wpAny_loadPart' hl
    exact ⟨_, rfl, h⟩
def rRep1T (K : PySem.W.Frag) : R2 := fun x y H Q => ∃ l xs, x = .ref l ∧ y = .int 1 ∧ SqT K H l xs ∧ Q (.ref l) H
theorem op_rep1T : OpR X (binaryOp .Mult) (rRep1T X.K) := by
  intro pins s σ H x y v u Q I rx ry h
  obtain ⟨l, xs, rfl, rfl, hT, q⟩ := h
  cases rx
  obtain ⟨t, rfl⟩ := ry
  obtain ⟨its, r, ⟨⟨cls, dd, data, sl⟩, ho, hc, n, hd⟩, hs⟩ := I.tuple hT
  simp only at hc hd
  subst hc hd
  exact wpAny_binaryOp_repeat_ref (T := "tuple") (U := "int") (by decide) ⟨_, ho, rfl⟩ (fun s' => typeIs_int s' 1 t) noFill_tuple_mul PySem.F.fills_int_mul PySem.F.slot_int_rmul repeat_tuple PySem.F.slot_int_index.lookup
    (call_meets PySem.F.slot_int_rmul (typeIs_int s 1 t) PySem.F.entry_int_rmul (PySem.F.args_int_rmul_2 _ _) (int_rmul_tuple 1 t l its.toArray n dd sl)
      ⟨ho, rfl, ⟨_, ho, rfl⟩, call_meets PySem.F.slot_tuple_mul ⟨_, ho, rfl⟩ PySem.F.entry_tuple_mul (PySem.F.args_tuple_mul_2 _ _) (tuple_mul1 l its.toArray n dd sl t) ⟨ho, .ref l, H, I, rfl, q⟩⟩)
abbrev rMulS (K : PySem.W.Frag) : R2 := fun x y H Q => (((rI CMul (fun i j => .int (i * j)) x y H Q ∨ rI CMulW (fun i j => .int (i * j)) x y H Q) ∨ rRep x y H Q) ∨ rRepT K x y H Q) ∨ rRep1T K x y H Q
theorem op_mulS : OpR X (binaryOp .Mult) (rMulS X.K) := (((op_mul.or op_mulW).or op_rep).or op_repT).or op_rep1T
theorem RDs.rep {K F H} {xs : List PyData} {vs : List V} (r : RDs K F H xs vs) : ∀ k : Nat, RDs K F H (List.replicate k xs).flatten (List.replicate k vs).flatten
  | 0 => .nil
  | k + 1 => by rw [List.replicate_succ, List.replicate_succ, List.flatten_cons, List.flatten_cons]; exact r.append (RDs.rep r k)
theorem rep_len {α : Type} (xs : List α) (k : Nat) : (List.replicate k xs).flatten.length = xs.length * k := by
  simp [List.length_flatten, List.map_replicate, List.sum_replicate_nat, Nat.mul_comm]
theorem ok_mul : Ok2 X (rMulS X.K) opMul := by
  intro E F ι S H x y v u Q R rx ry h
  unfold opMul at h
  split at h
  · obtain rfl := rx.int_of; obtain rfl := ry.int_of
    split at h
    · rename_i hc
      rcases hc with hc | hc
      · exact .inl (.inl (.inl (.inl ⟨_, _, rfl, rfl, hc, h.ok R _ (.d (.int _))⟩)))
      · exact .inl (.inl (.inl (.inr ⟨_, _, rfl, rfl, hc, h.ok R _ (.d (.int _))⟩)))
    · exact h.elim
  · obtain ⟨a, vs, rfl, sa, ra⟩ := rx.lst_of; obtain rfl := ry.int_of
    split at h
    · rename_i hz
      refine .inl (.inl (.inr ⟨a, _, vs, rfl, rfl, sa.tr, hz.1.1, hz.1.2, by rw [← ra.length]; exact hz.2, fun p n => ?_⟩))
      obtain ⟨x1, R1, r1⟩ := new_lst R n (ra.rep _) (by rw [rep_len]; exact hz.2)
      exact h _ _ _ x1 R1 _ r1
    · exact h.elim
  · rename_i xs k
    obtain ⟨a, vs, rfl, sa, ra⟩ := rx.tup_of (ws := _) rfl; obtain rfl := ry.int_of
    split at h
    · rename_i hz
      have la := ra.length
      simp only [List.length_map] at la
      refine .inl (.inr ⟨a, _, vs, rfl, rfl, sa.now, fun e => hz.1 ?_, hz.2.1, hz.2.2.1, by rw [← la]; exact hz.2.2.2, fun p n => ?_⟩)
      · rw [e] at la; exact List.length_eq_zero_iff.mp la
      · have hl : (List.replicate k.toNat xs).flatten.length ≤ sizeLine := by
          rw [rep_len]
          refine Nat.le_trans (Nat.mul_le_mul hz.2.2.2 (by omega : _ ≤ 1000)) (by decide)
        obtain ⟨x1, R1, r1⟩ := new_tup R n (RWs.ofD (ra.toD.rep k.toNat)) (by rw [List.length_map]; exact hl)
        rw [mkTup_d] at r1
        exact h _ _ _ x1 R1 _ r1
    · split at h
      · rename_i hk
        subst hk
        exact .inr ⟨a, vs, rfl, rfl, sa.now, h.ok R _ rx⟩
      · exact h.elim
  · exact h.elim
theorem ok_div : Ok2 X (rI CDivW fun i j => .int (i / j)) opDiv := by
  intro E F ι S H x y v u Q R rx ry h
  unfold opDiv at h
  split at h
  · obtain rfl := rx.int_of; obtain rfl := ry.int_of
    split at h
    · rename_i hc; exact ⟨_, _, rfl, rfl, hc, h.ok R _ (.d (.int _))⟩
    · exact h.elim
  · exact h.elim
theorem ok_mod : Ok2 X (rI (fun _ j => 0 < j) fun i j => .int (i % j)) opMod := by
  intro E F ι S H x y v u Q R rx ry h
  unfold opMod at h
  split at h
  · obtain rfl := rx.int_of; obtain rfl := ry.int_of
    split at h
    · rename_i hc; exact ⟨_, _, rfl, rfl, hc, h.ok R _ (.d (.int _))⟩
    · exact h.elim
  · exact h.elim
abbrev rPowS : R2 := fun x y H Q => rI CPow (fun i j => .int (i ^ j.toNat)) x y H Q ∨ rI CPowW (fun i j => .int (i ^ j.toNat)) x y H Q
theorem op_powS : OpR X (binaryOp .Pow) rPowS := op_pow.or op_powW
theorem ok_pow : Ok2 X rPowS opPow := by
  intro E F ι S H x y v u Q R rx ry h
  unfold opPow at h
  split at h
  · obtain rfl := rx.int_of; obtain rfl := ry.int_of
    split at h
    · rename_i hc
      rcases hc with hc | hc
      · exact .inl ⟨_, _, rfl, rfl, hc, h.ok R _ (.d (.int _))⟩
      · exact .inr ⟨_, _, rfl, rfl, hc, h.ok R _ (.d (.int _))⟩
    · exact h.elim
  · exact h.elim
end
def opNeg : Op1 := fun x S => match x with
  | .d (.int a) => .ok (.d (.int (-a))) S
  | _ => .bad
section
variable {X : Cx} {E : EX} {pos : Pos} {a b : Expr} {ma mb m : EM}
theorem s_add (ha : SE X E a ma) (hb : SE X E b mb) : SE X E (.BinOp a .Add b pos) (eOp2 opAdd ma mb) := s_bin op_addS ok_add ha hb
theorem s_sub (ha : SE X E a ma) (hb : SE X E b mb) : SE X E (.BinOp a .Sub b pos) (eOp2 opSub ma mb) := s_bin op_sub ok_sub ha hb
theorem s_mul (ha : SE X E a ma) (hb : SE X E b mb) : SE X E (.BinOp a .Mult b pos) (eOp2 opMul ma mb) := s_bin op_mulS ok_mul ha hb
theorem s_div (ha : SE X E a ma) (hb : SE X E b mb) : SE X E (.BinOp a .FloorDiv b pos) (eOp2 opDiv ma mb) := s_bin op_fdivW ok_div ha hb
theorem s_mod (ha : SE X E a ma) (hb : SE X E b mb) : SE X E (.BinOp a .Mod b pos) (eOp2 opMod ma mb) := s_bin op_mod ok_mod ha hb
theorem s_pow (ha : SE X E a ma) (hb : SE X E b mb) : SE X E (.BinOp a .Pow b pos) (eOp2 opPow ma mb) := s_bin op_powS ok_pow ha hb
theorem s_neg (ha : SE X E a ma) : SE X E (.UnaryOp .USub a pos) (eOp1 opNeg ma) := by
  refine PE.le (pe_un un_neg ha) fun σ H Q h => ?_
  obtain ⟨F, ι, S, ρ, R, rs, h⟩ := h
  refine ⟨F, ι, S, ρ, R, rs, h.bind.imp fun F1 ι1 H1 w S1 x1 R1 h v r => ?_⟩
  unfold opNeg at h
  split at h
  · obtain rfl := r.int_of; exact ⟨_, rfl, h.ok R1 _ (.d (.int _))⟩
  · exact h.elim
end

/-! ### comparisons -/
def shp (x y : PyData) : Prop := SeqAt.shaped x = true ∧ SeqAt.shaped y = true
noncomputable def opEq : Op2 := fun x y S => match x, y with
  | .d a, .d b => if shp a b then .ok (.d (.bool (PyData.eqv a b))) S else .bad
  | _, _ => .bad
noncomputable def opNe : Op2 := fun x y S => match x, y with
  | .d a, .d b => if shp a b then .ok (.d (.bool (!PyData.eqv a b))) S else .bad
  | _, _ => .bad
def intsD : List PyData → Option (List Int)
  | [] => some []
  | .int b :: r => (intsD r).map (b :: ·)
  | _ => none
theorem intsD_eq : ∀ {xs : List PyData} {bs : List Int}, intsD xs = some bs → xs = bs.map .int
  | [], bs, h => by cases h; rfl
  | x :: r, bs, h => by
    cases x <;> simp only [intsD] at h <;> try cases h
    cases q : intsD r with
    | none => rw [q] at h; cases h
    | some ys => rw [q] at h; cases h; rw [intsD_eq q]; rfl
@[simp] theorem intsD_map (bs : List Int) : intsD (bs.map .int) = some bs := by
  induction bs with
  | nil => rfl
  | cons b r ih => simp [intsD, ih]
theorem RDs.ints {K F H} : ∀ {bs : List Int} {vs : List V}, RDs K F H (bs.map .int) vs → vs = bs.map V.int
  | [], _, h => by cases h; rfl
  | b :: r, _, h => by
    cases h with | cons h1 h2 => cases h1; rw [RDs.ints h2]; rfl
def opLt : Op2 := fun x y S => match x, y with
  | .d (.int a), .d (.int b) => .ok (.d (.bool (decide (a < b)))) S
  | .d (.str a), .d (.str b) => .ok (.d (.bool (decide (a.cps.toList < b.cps.toList)))) S
  | .d (.tuple a), .d (.tuple b) => match intsD a, intsD b with
    | some ns, some ms => .ok (.d (.bool (HT.lexLt ns ms))) S
    | _, _ => .bad
  | _, _ => .bad
def opInt (p : Int → Int → Bool) : Op2 := fun x y S => match x, y with
  | .d (.int a), .d (.int b) => .ok (.d (.bool (p a b))) S
  | _, _ => .bad
abbrev opLe := opInt fun i j => decide (i ≤ j)
abbrev opGt := opInt fun i j => decide (j < i)
abbrev opGe := opInt fun i j => decide (j ≤ i)
section
variable {X : Cx}
theorem ok_eq : Ok2 X (rEqD X.K) opEq := by
  intro E F ι S H x y v u Q R rx ry h
  unfold opEq at h
  split at h
  · split at h
    · rename_i hs; exact ⟨_, _, rx.pure.toDp, ry.pure.toDp, hs.1, hs.2, h.ok R _ (.d (.bl _))⟩
    · exact h.elim
  · exact h.elim
theorem ok_ne : Ok2 X (rNeD X.K) opNe := by
  intro E F ι S H x y v u Q R rx ry h
  unfold opNe at h
  split at h
  · split at h
    · rename_i hs; exact ⟨_, _, rx.pure.toDp, ry.pure.toDp, hs.1, hs.2, h.ok R _ (.d (.bl _))⟩
    · exact h.elim
  · exact h.elim
theorem ok_int {p : Int → Int → Bool} : Ok2 X (rI0 fun i j => .bl (p i j)) (opInt p) := by
  intro E F ι S H x y v u Q R rx ry h
  unfold opInt at h
  split at h
  · obtain rfl := rx.int_of; obtain rfl := ry.int_of
    exact ⟨_, _, rfl, rfl, h.ok R _ (.d (.bl _))⟩
  · exact h.elim
abbrev rLtS (K : PySem.W.Frag) : R2 := fun x y H Q => (rI0 (fun i j => .bl (decide (i < j))) x y H Q ∨ (∃ i j, x = .str i ∧ y = .str j ∧ Q (.bl (decide (i.cps.toList < j.cps.toList))) H)) ∨ rLtT K x y H Q
theorem op_ltS (hu : X.A.units < cLine) : OpR X (compareOp .Lt) (rLtS X.K) := (op_lt.or op_lt_str).or (op_ltT hu)
theorem ok_lt : Ok2 X (rLtS X.K) opLt := by
  intro E F ι S H x y v u Q R rx ry h
  unfold opLt at h
  split at h
  · obtain rfl := rx.int_of; obtain rfl := ry.int_of
    exact .inl (.inl ⟨_, _, rfl, rfl, h.ok R _ (.d (.bl _))⟩)
  · obtain rfl := rx.str_of; obtain rfl := ry.str_of
    exact .inl (.inr ⟨_, _, rfl, rfl, h.ok R _ (.d (.bl _))⟩)
  · split at h
    · rename_i ns ms q1 q2
      obtain ⟨a, us, rfl, s1, r1⟩ := rx.tup_of rfl
      obtain ⟨b, vs, rfl, s2, r2⟩ := ry.tup_of rfl
      rw [intsD_eq q1] at r1
      rw [intsD_eq q2] at r2
      have e1 := r1.toD.ints; subst e1
      have e2 := r2.toD.ints; subst e2
      exact .inr ⟨_, _, _, _, rfl, rfl, s1.now, s2.now, h.ok R _ (.d (.bl _))⟩
    · exact h.elim
  · exact h.elim
def isNone : PyData → Bool
  | .none => true
  | _ => false
def opIsN : Op2 := fun x y S => match x, y with
  | .d a, .d .none => .ok (.d (.bool (isNone a))) S
  | .ref _, .d .none => .ok (.d (.bool false)) S
  | _, _ => .bad
def opNotN : Op2 := fun x y S => match x, y with
  | .d a, .d .none => .ok (.d (.bool (!isNone a))) S
  | .ref _, .d .none => .ok (.d (.bool true)) S
  | _, _ => .bad
theorem RD.isN {K F H a v} (r : RD K F H a v) : decide (v = V.non) = isNone a := by cases r <;> simp [isNone]
theorem RD.notN {K F H a v} (r : RD K F H a v) : (!decide (v = V.non)) = !isNone a := by cases r <;> simp [isNone]
theorem ok_isN : Ok2 X (fun x y H Q => y = .non ∧ Q (.bl (decide (x = .non))) H) opIsN := by
  intro E F ι S H x y v u Q R rx ry h
  unfold opIsN at h
  split at h
  · obtain rfl := ry.non_of
    exact ⟨rfl, h.ok R _ (.d (by rw [rx.pure.isN]; exact .bl _))⟩
  · obtain rfl := ry.non_of
    cases rx
    exact ⟨rfl, h.ok R _ (.d (by simp only [reduceCtorEq, decide_false]; exact .bl _))⟩
  · exact h.elim
theorem ok_notN : Ok2 X (fun x y H Q => y = .non ∧ Q (.bl (!decide (x = .non))) H) opNotN := by
  intro E F ι S H x y v u Q R rx ry h
  unfold opNotN at h
  split at h
  · obtain rfl := ry.non_of
    exact ⟨rfl, h.ok R _ (.d (by rw [rx.pure.notN]; exact .bl _))⟩
  · obtain rfl := ry.non_of
    cases rx
    exact ⟨rfl, h.ok R _ (.d (by simp only [reduceCtorEq, decide_false, Bool.not_false]; exact .bl _))⟩
  · exact h.elim
def opIsB : Op2 := fun x y S => match x, y with
  | .d (.bool a), .d (.bool b) => .ok (.d (.bool (a == b))) S
  | _, _ => .bad
theorem ok_isB : Ok2 X rIsB opIsB := by
  intro E F ι S H x y v u Q R rx ry h
  unfold opIsB at h
  split at h
  · obtain rfl := rx.bl_of; obtain rfl := ry.bl_of
    exact ⟨_, _, rfl, rfl, h.ok R _ (.d (by rw [← Bool.beq_eq_decide_eq]; exact .bl _))⟩
  · exact h.elim
def opNotB : Op2 := fun x y S => match x, y with
  | .d (.bool a), .d (.bool b) => .ok (.d (.bool (!(a == b)))) S
  | _, _ => .bad
theorem ok_notB : Ok2 X rNotB opNotB := by
  intro E F ι S H x y v u Q R rx ry h
  unfold opNotB at h
  split at h
  · obtain rfl := rx.bl_of; obtain rfl := ry.bl_of
    exact ⟨_, _, rfl, rfl, h.ok R _ (.d (by rw [← Bool.beq_eq_decide_eq]; exact .bl _))⟩
  · exact h.elim
/-- x in y -/
noncomputable def opIn (neg : Bool) : Op2 := fun x y S => match x, y with
  | .d (.str c), .d (.str z) => .ok (.d (.bool (neg ^^ !(Builtin.Str.occurrences z c 0 z.length 1).isEmpty))) S
  | .d a, .d (.list xs) => if shp a (.list xs) then .ok (.d (.bool (neg ^^ xs.any fun z => PyData.eqv z a))) S else .bad
  | .d a, .d (.tuple xs) => if shp a (.tuple xs) then .ok (.d (.bool (neg ^^ xs.any fun z => PyData.eqv z a))) S else .bad
  | _, _ => .bad
def rInT (K : PySem.W.Frag) : R2 := fun x y H Q => ∃ d ds, Dp K H x d ∧ Dp K H y (.tuple ds) ∧ SeqAt.shaped d = true ∧ SeqAt.shaped (.tuple ds) = true ∧ Q (.bl (ds.any fun z => PyData.eqv z d)) H
def rNotInT (K : PySem.W.Frag) : R2 := fun x y H Q => ∃ d ds, Dp K H x d ∧ Dp K H y (.tuple ds) ∧ SeqAt.shaped d = true ∧ SeqAt.shaped (.tuple ds) = true ∧ Q (.bl (!ds.any fun z => PyData.eqv z d)) H
theorem op_inT (hu : X.A.units + 65 < cLine) : OpR X (compareOp .In) (rInT X.K) := by
  intro pins s σ H x y v u Q I rx ry h
  obtain ⟨d, ds, hd, he, sd, se, q⟩ := h
  obtain ⟨as, r1⟩ := Dp.reads I d x v hd rx
  obtain ⟨bs, r2⟩ := Dp.reads I (.tuple ds) y u he ry
  exact SeqAt.in_tuple_reads r2 r1 (SeqAt.canLay_of_shaped se) (SeqAt.canLay_of_shaped sd) (room_in_shaped sd hu) ⟨.bl _, H, I, rfl, q⟩
theorem op_notInT (hu : X.A.units + 65 < cLine) : OpR X (compareOp .NotIn) (rNotInT X.K) := by
  intro pins s σ H x y v u Q I rx ry h
  obtain ⟨d, ds, hd, he, sd, se, q⟩ := h
  obtain ⟨as, r1⟩ := Dp.reads I d x v hd rx
  obtain ⟨bs, r2⟩ := Dp.reads I (.tuple ds) y u he ry
  exact SeqAt.notIn_tuple_reads r2 r1 (SeqAt.canLay_of_shaped se) (SeqAt.canLay_of_shaped sd) (room_in_shaped sd hu) ⟨.bl _, H, I, rfl, q⟩
abbrev rInS (K : PySem.W.Frag) : R2 := fun x y H Q => (∃ i j, x = .str i ∧ y = .str j ∧ Q (.bl (!(Builtin.Str.occurrences j i 0 j.length 1).isEmpty)) H) ∨ rInD K x y H Q ∨ rInT K x y H Q
abbrev rNotInS (K : PySem.W.Frag) : R2 := fun x y H Q => (∃ i j, x = .str i ∧ y = .str j ∧ Q (.bl (!(!(Builtin.Str.occurrences j i 0 j.length 1).isEmpty))) H) ∨ rNotInD K x y H Q ∨ rNotInT K x y H Q
theorem op_inS (hu : X.A.units + 65 < cLine) : OpR X (compareOp .In) (rInS X.K) := op_in_str.or ((op_inD hu).or (op_inT hu))
theorem op_notInS (hu : X.A.units + 65 < cLine) : OpR X (compareOp .NotIn) (rNotInS X.K) := op_notIn_str.or ((op_notInD hu).or (op_notInT hu))
theorem ok_in : Ok2 X (rInS X.K) (opIn false) := by
  intro E F ι S H x y v u Q R rx ry h
  unfold opIn at h
  split at h
  · obtain rfl := rx.str_of; obtain rfl := ry.str_of
    refine .inl ⟨_, _, rfl, rfl, h.ok R _ (.d ?_)⟩
    rw [Bool.false_xor]; exact .bl _
  · split at h
    · rename_i hs
      refine .inr (.inl ⟨_, _, rx.pure.toDp, ry.pure.toDp, hs.1, hs.2, h.ok R _ (.d ?_)⟩)
      rw [Bool.false_xor]; exact .bl _
    · exact h.elim
  · split at h
    · rename_i hs
      refine .inr (.inr ⟨_, _, rx.pure.toDp, ry.pure.toDp, hs.1, hs.2, h.ok R _ (.d ?_)⟩)
      rw [Bool.false_xor]; exact .bl _
    · exact h.elim
  · exact h.elim
theorem ok_notIn : Ok2 X (rNotInS X.K) (opIn true) := by
  intro E F ι S H x y v u Q R rx ry h
  unfold opIn at h
  split at h
  · obtain rfl := rx.str_of; obtain rfl := ry.str_of
    refine .inl ⟨_, _, rfl, rfl, h.ok R _ (.d ?_)⟩
    rw [Bool.true_xor]; exact .bl _
  · split at h
    · rename_i hs
      refine .inr (.inl ⟨_, _, rx.pure.toDp, ry.pure.toDp, hs.1, hs.2, h.ok R _ (.d ?_)⟩)
      rw [Bool.true_xor]; exact .bl _
    · exact h.elim
  · split at h
    · rename_i hs
      refine .inr (.inr ⟨_, _, rx.pure.toDp, ry.pure.toDp, hs.1, hs.2, h.ok R _ (.d ?_)⟩)
      rw [Bool.true_xor]; exact .bl _
    · exact h.elim
  · exact h.elim
end
end Sh
end

section
namespace Sh
open PySem PySem.Spec PyProof.Rows L2
open Classical

/-! ### calls of built-ins by values -/
abbrev CF := List W → Sto → Out W
def OkC (X : Cx) (r : List V → Hp → VK → Prop) (f : CF) : Prop := ∀ E F ι S H ws vs Q, Rel X.K F ι S H → RWs X.K F ι H ws vs → Post X.K E F ι H (f ws S) (fun F' ι' H' w _ => ∀ z, RW X.K F' ι' H' w z → Q z H') → r vs H Q
section
variable {X : Cx} {E : EX} {pos p : Pos} {e : Expr} {es : List Expr} {ms : AM} {x : Str} {f : CF} {r : List V → Hp → VK → Prop} {id T : String}
theorem call_le (hf : OkC X r f) {σ : L2.St} {H : Hp} {Q : VK} (h : tE X.K E (eCall f ms) σ H Q) : tCB r (tA X.K E ms) σ H Q := by
  obtain ⟨F, ι, S, ρ, R, rs, h⟩ := h
  exact ⟨F, ι, S, ρ, R, rs, h.bind.imp fun F1 ι1 H1 ws S1 x1 R1 h vs r => hf _ F1 ι1 S1 H1 ws vs Q R1 r h⟩
theorem s_callB (hc : CallR X (.builtin id) r) (hf : OkC X r f) (hm : X.mg x = none) (ha : SA X E (e :: es) ms) (hv : bootBuiltins x = some (.builtin id) := by decide +kernel) (hg : Gl X x := by rfl) (hn : x ≠ "__name__" := by decide) (hdb : (x == ("__debug__" : Str)) = false := by decide)
    (he : starEach (e :: es) X.env = (false, eval e X.env) :: starEach es X.env := by rfl) (hpl : (backTo pos (starEach es X.env)).any (·.1) = false := by rfl) : SE X E (.Call (.Name x p) (e :: es) [] pos) (eCall f ms) :=
  PE.le (pe_callB hc hg hm hv ha hn hdb he hpl) fun σ H Q h => call_le hf h
theorem s_callTy (hc : CallR X (.type T) r) (hf : OkC X r f) (hm : X.mg x = none) (ha : SA X E (e :: es) ms) (hv : bootBuiltins x = some (.type T) := by decide +kernel) (hg : Gl X x := by rfl) (hn : x ≠ "__name__" := by decide) (hdb : (x == ("__debug__" : Str)) = false := by decide)
    (he : starEach (e :: es) X.env = (false, eval e X.env) :: starEach es X.env := by rfl) (hpl : (backTo pos (starEach es X.env)).any (·.1) = false := by rfl) : SE X E (.Call (.Name x p) (e :: es) [] pos) (eCall f ms) :=
  PE.le (pe_callTy hc hg hm hv ha hn hdb he hpl) fun σ H Q h => call_le hf h
end

def bLen : CF := fun ws S => match ws with
  | [.d (.list xs)] => .ok (.d (.int xs.length)) S
  | [.d (.tuple xs)] => .ok (.d (.int xs.length)) S
  | [.d (.str z)] => if z.length ≤ sizeLine then .ok (.d (.int z.length)) S else .bad
  | [.tup xs] => .ok (.d (.int xs.length)) S
  | [.fl xs] => .ok (.d (.int xs.length)) S
  | [.ref n] => match S[n]? with
    | some (.lst xs) => .ok (.d (.int xs.length)) S
    | _ => .bad
  | _ => .bad
def bools : List PyData → Option (List Bool)
  | [] => some []
  | .bool b :: r => (bools r).map (b :: ·)
  | _ => none
theorem bools_eq : ∀ {xs : List PyData} {bs : List Bool}, bools xs = some bs → xs = bs.map .bool
  | [], bs, h => by cases h; rfl
  | x :: r, bs, h => by
    cases x <;> simp only [bools] at h <;> try cases h
    cases q : bools r with
    | none => rw [q] at h; cases h
    | some ys => rw [q] at h; cases h; rw [bools_eq q]; rfl
@[simp] theorem bools_map (bs : List Bool) : bools (bs.map .bool) = some bs := by
  induction bs with
  | nil => rfl
  | cons b r ih => simp [bools, ih]
theorem RDs.bl {K F H} : ∀ {bs : List Bool} {vs : List V}, RDs K F H (bs.map .bool) vs → vs = bs.map V.bl
  | [], _, h => by cases h; rfl
  | b :: r, _, h => by
    cases h with | cons h1 h2 => cases h1; rw [RDs.bl h2]; rfl
def bAll : CF := fun ws S => match ws with
  | [.d (.list xs)] => match bools xs with
    | some bs => .ok (.d (.bool (bs.all id))) S
    | none => .bad
  | _ => .bad
def bAny : CF := fun ws S => match ws with
  | [.d (.list xs)] => match bools xs with
    | some bs => .ok (.d (.bool (bs.any id))) S
    | none => .bad
  | _ => .bad
def bSum : CF := fun ws S => match ws with
  | [.d (.list xs)] => match intsD xs with
    | some bs => .ok (.d (.int bs.sum)) S
    | none => .bad
  | [.d (.tuple xs)] => match intsD xs with
    | some bs => .ok (.d (.int bs.sum)) S
    | none => .bad
  | _ => .bad
def bTuple : CF := fun ws S => match ws with
  | [.d (.list xs)] => .ok (.d (.tuple xs)) S
  | [.d (.tuple xs)] => .ok (.d (.tuple xs)) S
  | [.fl xs] => .ok (.d (.tuple xs)) S
  | [.ref n] => match S[n]? with
    | some (.lst ws) => .ok (mkTup ws) S
    | _ => .bad
  | _ => .bad
/-- list(x), never changed; a cell -/
def bList : CF := fun ws S => match ws with
  | [.d (.list xs)] => .ok (.d (.list xs)) S
  | [.d (.tuple xs)] => .ok (.d (.list xs)) S
  | [.fl xs] => .ok (.d (.list xs)) S
  | [.ref n] => match S[n]? with
    | some (.lst ws) => match unD ws with
      | some xs => .ok (.d (.list xs)) S
      | none => .bad
    | _ => .bad
  | _ => .bad
def bListM : CF := fun ws S => match ws with
  | [.d (.list xs)] => newCell (xs.map .d) S
  | [.d (.tuple xs)] => newCell (xs.map .d) S
  | [.fl xs] => newCell (xs.map .d) S
  | [.ref n] => match S[n]? with
    | some (.lst ws) => newCell ws S
    | _ => .bad
  | _ => .bad
def bInt : CF := fun ws S => match ws with
  | [.d (.int i)] => .ok (.d (.int i)) S
  | [.d (.bool b)] => .ok (.d (.int (if b then 1 else 0))) S
  | _ => .bad
def bAbs : CF := fun ws S => match ws with
  | [.d (.int i)] => .ok (.d (.int (if i < 0 then -i else i))) S
  | _ => .bad
def bMin2 : CF := fun ws S => match ws with
  | [.d (.int i), .d (.int j)] => .ok (.d (.int (if j < i then j else i))) S
  | _ => .bad
def bMax2 : CF := fun ws S => match ws with
  | [.d (.int i), .d (.int j)] => .ok (.d (.int (if j > i then j else i))) S
  | _ => .bad
section
variable {X : Cx}
theorem RWs.one {K F ι H} {w : W} {vs : List V} (r : RWs K F ι H [w] vs) : ∃ v, vs = [v] ∧ RW K F ι H w v := by cases r with | cons r t => cases t; exact ⟨_, rfl, r⟩
theorem RWs.two {K F ι H} {w u : W} {vs : List V} (r : RWs K F ι H [w, u] vs) : ∃ v z, vs = [v, z] ∧ RW K F ι H w v ∧ RW K F ι H u z := by cases r with | cons r t => cases t with | cons r2 t => cases t; exact ⟨_, _, rfl, r, r2⟩
theorem ok_len : OkC X (fun xs H Q => ∃ x n, xs = [x] ∧ LenV X.K x H n ∧ Q (.int n) H) bLen := by
  intro E F ι S H ws vs Q R r h
  unfold bLen at h
  split at h
  · obtain ⟨v, rfl, r'⟩ := r.one; obtain ⟨a, us, rfl, st, rr⟩ := r'.lst_of
    exact ⟨_, _, rfl, .inl ⟨us, st.now, rr.length⟩, h.ok R _ (.d (.int _))⟩
  · obtain ⟨v, rfl, r'⟩ := r.one; obtain ⟨a, us, rfl, st, rr⟩ := r'.tup_of (ws := _) rfl
    have hl := rr.length; rw [List.length_map] at hl
    exact ⟨_, _, rfl, .inr ⟨us, st.now, hl⟩, h.ok R _ (.d (.int _))⟩
  · split at h
    · rename_i hz; obtain ⟨v, rfl, r'⟩ := r.one; obtain rfl := r'.str_of
      exact ⟨_, _, rfl, ⟨hz, rfl⟩, h.ok R _ (.d (.int _))⟩
    · exact h.elim
  · obtain ⟨v, rfl, r'⟩ := r.one; obtain ⟨a, us, rfl, st, rr⟩ := r'.tup_of (ws := _) rfl
    exact ⟨_, _, rfl, .inr ⟨us, st.now, rr.length⟩, h.ok R _ (.d (.int _))⟩
  · obtain ⟨v, rfl, r'⟩ := r.one; obtain ⟨a, us, rfl, st, rr⟩ := r'.fl_of
    exact ⟨_, _, rfl, .inl ⟨us, st.now, rr.length⟩, h.ok R _ (.d (.int _))⟩
  · split at h
    · rename_i q; obtain ⟨v, rfl, r'⟩ := r.one; obtain ⟨a, rfl, _, us, e1, rr, _⟩ := r'.ref_of R q
      exact ⟨_, _, rfl, .inl ⟨us, .of e1, rr.length⟩, h.ok R _ (.d (.int _))⟩
    · exact h.elim
  · exact h.elim
theorem ok_all : OkC X (rAll X.K) bAll := by
  intro E F ι S H ws vs Q R r h
  unfold bAll at h
  split at h
  · split at h
    · rename_i bs q
      obtain ⟨v, rfl, r'⟩ := r.one; obtain ⟨a, us, rfl, st, rr⟩ := r'.lst_of
      rw [bools_eq q] at rr
      have := rr.bl; subst this
      exact ⟨_, _, rfl, st.now, h.ok R _ (.d (.bl _))⟩
    · exact h.elim
  · exact h.elim
theorem ok_any : OkC X (rAny X.K) bAny := by
  intro E F ι S H ws vs Q R r h
  unfold bAny at h
  split at h
  · split at h
    · rename_i bs q
      obtain ⟨v, rfl, r'⟩ := r.one; obtain ⟨a, us, rfl, st, rr⟩ := r'.lst_of
      rw [bools_eq q] at rr
      have := rr.bl; subst this
      exact ⟨_, _, rfl, st.now, h.ok R _ (.d (.bl _))⟩
    · exact h.elim
  · exact h.elim
/-- sum(xs) of a list or a tuple of ints -/
def rSumS (K : PySem.W.Frag) : List V → Hp → VK → Prop := fun vs H Q => ∃ (a : Addr) (ns : List Int), vs = [V.ref a] ∧ (SqL K H a (ns.map V.int) ∨ SqT K H a (ns.map V.int)) ∧ Q (.int ns.sum) H
theorem cr_sumS (hc : X.calm = true) : CallR X (.builtin "sum") (rSumS X.K) := by
  intro pins s σ H vs us Q I r h
  obtain ⟨a, ns, rfl, hs | hs, q⟩ := h
  · exact cr_sum hc pins s σ H _ us Q I r ⟨a, ns, rfl, hs, q⟩
  · obtain ⟨its, rv, hl, _⟩ := I.tuple hs
    rw [Vals.ref1 r]
    have hi := rv.ints
    obtain ⟨xs, e⟩ := hi.allInts.items
    have hn : numsOf (intItems xs).toList = ns := by rw [← e]; exact hi.numsOf
    rw [nums_intItems] at hn
    rw [e] at hl
    refine PySem.W.ktm_sumG (I.ok.hd hc) hl fun h' tk t' hk => ⟨.int ns.sum, H, I.kept hk, ⟨t', ?_⟩, q⟩
    rw [preSum_eq, List.take_of_length_le (by simp), hn]
theorem ok_sum : OkC X (rSumS X.K) bSum := by
  intro E F ι S H ws vs Q R r h
  unfold bSum at h
  split at h
  · split at h
    · rename_i bs q
      obtain ⟨v, rfl, r'⟩ := r.one; obtain ⟨a, us, rfl, st, rr⟩ := r'.lst_of
      rw [intsD_eq q] at rr
      have := rr.ints; subst this
      exact ⟨_, _, rfl, .inl st.now, h.ok R _ (.d (.int _))⟩
    · exact h.elim
  · split at h
    · rename_i bs q
      obtain ⟨v, rfl, r'⟩ := r.one; obtain ⟨a, us, rfl, st, rr⟩ := r'.tup_of (ws := _) rfl
      rw [intsD_eq q] at rr
      have := rr.toD.ints; subst this
      exact ⟨_, _, rfl, .inr st.now, h.ok R _ (.d (.int _))⟩
    · exact h.elim
  · exact h.elim
theorem ok_tuple : OkC X (fun xs H Q => ∃ p ys, xs = [.ref p] ∧ ((SqL X.K H p ys ∧ ∀ l, H l = none → Q (.ref l) (upd H l (.tup ys))) ∨ (SqT X.K H p ys ∧ Q (.ref p) H))) bTuple := by
  intro E F ι S H ws vs Q R r h
  unfold bTuple at h
  split at h
  · obtain ⟨v, rfl, r'⟩ := r.one; obtain ⟨a, us, rfl, st, rr⟩ := r'.lst_of
    refine ⟨_, _, rfl, .inl ⟨st.now, fun p n => ?_⟩⟩
    obtain ⟨x1, R1, r1⟩ := new_tup R n (RWs.ofD (ι := ι) rr) (by rw [List.length_map, rr.length]; exact st.1)
    rw [mkTup_d] at r1
    exact h _ _ _ x1 R1 _ r1
  · obtain ⟨v, rfl, r'⟩ := r.one; obtain ⟨a, us, e, st, rr⟩ := r'.tup_of (ws := _) rfl
    subst e
    exact ⟨_, _, rfl, .inr ⟨st.now, h.ok R _ r'⟩⟩
  · obtain ⟨v, rfl, r'⟩ := r.one; obtain ⟨a, us, rfl, st, rr⟩ := r'.fl_of
    refine ⟨_, _, rfl, .inl ⟨st.now, fun p n => ?_⟩⟩
    obtain ⟨x1, R1, r1⟩ := new_tup R n (RWs.ofD (ι := ι) rr) (by rw [List.length_map, rr.length]; exact st.1)
    rw [mkTup_d] at r1
    exact h _ _ _ x1 R1 _ r1
  · split at h
    · rename_i q; obtain ⟨v, rfl, r'⟩ := r.one; obtain ⟨a, rfl, _, us, e1, rr, hz⟩ := r'.ref_of R q
      refine ⟨_, _, rfl, .inl ⟨.of e1, fun p n => ?_⟩⟩
      obtain ⟨x1, R1, r1⟩ := new_tup R n rr hz
      exact h _ _ _ x1 R1 _ r1
    · exact h.elim
  · exact h.elim
theorem ok_list : OkC X (fun xs H Q => ∃ p ys, xs = [.ref p] ∧ (SqL X.K H p ys ∨ SqT X.K H p ys) ∧ ∀ l, H l = none → Q (.ref l) (upd H l (.lst ys))) bList := by
  intro E F ι S H ws vs Q R r h
  unfold bList at h
  split at h
  · obtain ⟨v, rfl, r'⟩ := r.one; obtain ⟨a, us, rfl, st, rr⟩ := r'.lst_of
    refine ⟨_, _, rfl, .inl st.now, fun p n => ?_⟩
    obtain ⟨x1, R1, r1⟩ := new_lst R n rr (by rw [rr.length]; exact st.1)
    exact h _ _ _ x1 R1 _ r1
  · obtain ⟨v, rfl, r'⟩ := r.one; obtain ⟨a, us, rfl, st, rr⟩ := r'.tup_of (ws := _) rfl
    refine ⟨_, _, rfl, .inr st.now, fun p n => ?_⟩
    obtain ⟨x1, R1, r1⟩ := new_lst R n rr.toD (by rw [rr.toD.length]; exact st.1)
    exact h _ _ _ x1 R1 _ r1
  · obtain ⟨v, rfl, r'⟩ := r.one; obtain ⟨a, us, rfl, st, rr⟩ := r'.fl_of
    refine ⟨_, _, rfl, .inl st.now, fun p n => ?_⟩
    obtain ⟨x1, R1, r1⟩ := new_lst R n rr (by rw [rr.length]; exact st.1)
    exact h _ _ _ x1 R1 _ r1
  · split at h
    · rename_i q; obtain ⟨v, rfl, r'⟩ := r.one; obtain ⟨a, rfl, _, us, e1, rr, hz⟩ := r'.ref_of R q
      split at h
      · rename_i q2
        rw [unD_eq q2] at rr hz
        refine ⟨_, _, rfl, .inl (.of e1), fun p n => ?_⟩
        obtain ⟨x1, R1, r1⟩ := new_lst R n rr.toD (by simpa using hz)
        exact h _ _ _ x1 R1 _ r1
      · exact h.elim
    · exact h.elim
  · exact h.elim
theorem newCell_ok {K F ι S H} {Ex : XN} {ws : List W} {vs : List V} {Q : VK} (R : Rel K F ι S H) (rr : RWs K F ι H ws vs) (h : Post K Ex F ι H (newCell ws S) (fun F' ι' H' w _ => ∀ z, RW K F' ι' H' w z → Q z H')) :
    ∀ l, H l = none → Q (.ref l) (upd H l (.lst vs)) := by
  intro p n
  unfold newCell at h
  split at h
  · rename_i hz
    obtain ⟨x1, R1, r1⟩ := cell_new R n rr hz
    exact h _ _ _ x1 R1 _ r1
  · exact h.elim
theorem ok_listM : OkC X (fun xs H Q => ∃ p ys, xs = [.ref p] ∧ (SqL X.K H p ys ∨ SqT X.K H p ys) ∧ ∀ l, H l = none → Q (.ref l) (upd H l (.lst ys))) bListM := by
  intro E F ι S H ws vs Q R r h
  unfold bListM at h
  split at h
  · obtain ⟨v, rfl, r'⟩ := r.one; obtain ⟨a, us, rfl, st, rr⟩ := r'.lst_of
    exact ⟨_, _, rfl, .inl st.now, newCell_ok R (RWs.ofD rr) h⟩
  · obtain ⟨v, rfl, r'⟩ := r.one; obtain ⟨a, us, rfl, st, rr⟩ := r'.tup_of (ws := _) rfl
    exact ⟨_, _, rfl, .inr st.now, newCell_ok R rr h⟩
  · obtain ⟨v, rfl, r'⟩ := r.one; obtain ⟨a, us, rfl, st, rr⟩ := r'.fl_of
    exact ⟨_, _, rfl, .inl st.now, newCell_ok R (RWs.ofD rr) h⟩
  · split at h
    · rename_i q; obtain ⟨v, rfl, r'⟩ := r.one; obtain ⟨a, rfl, _, us, e1, rr, hz⟩ := r'.ref_of R q
      exact ⟨_, _, rfl, .inl (.of e1), newCell_ok R rr h⟩
    · exact h.elim
  · exact h.elim
theorem ok_int1 : OkC X (fun xs H Q => (∃ i, xs = [.int i] ∧ Q (.int i) H) ∨ ∃ k, xs = [.bl k] ∧ Q (.int (if k then 1 else 0)) H) bInt := by
  intro E F ι S H ws vs Q R r h
  unfold bInt at h
  split at h
  · obtain ⟨v, rfl, r'⟩ := r.one; obtain rfl := r'.int_of
    exact .inl ⟨_, rfl, h.ok R _ (.d (.int _))⟩
  · obtain ⟨v, rfl, r'⟩ := r.one; obtain rfl := r'.bl_of
    exact .inr ⟨_, rfl, h.ok R _ (.d (.int _))⟩
  · exact h.elim
theorem ok_abs : OkC X (fun xs H Q => ∃ i, xs = [.int i] ∧ Q (.int (if i < 0 then -i else i)) H) bAbs := by
  intro E F ι S H ws vs Q R r h
  unfold bAbs at h
  split at h
  · obtain ⟨v, rfl, r'⟩ := r.one; obtain rfl := r'.int_of
    exact ⟨_, rfl, h.ok R _ (.d (.int _))⟩
  · exact h.elim
theorem ok_min2 : OkC X (fun xs H Q => ∃ i j, xs = [.int i, .int j] ∧ Q (.int (if j < i then j else i)) H) bMin2 := by
  intro E F ι S H ws vs Q R r h
  unfold bMin2 at h
  split at h
  · obtain ⟨v, z, rfl, r', r2'⟩ := r.two; obtain rfl := r'.int_of; obtain rfl := r2'.int_of
    exact ⟨_, _, rfl, h.ok R _ (.d (.int _))⟩
  · exact h.elim
theorem ok_max2 : OkC X (fun xs H Q => ∃ i j, xs = [.int i, .int j] ∧ Q (.int (if j > i then j else i)) H) bMax2 := by
  intro E F ι S H ws vs Q R r h
  unfold bMax2 at h
  split at h
  · obtain ⟨v, z, rfl, r', r2'⟩ := r.two; obtain rfl := r'.int_of; obtain rfl := r2'.int_of
    exact ⟨_, _, rfl, h.ok R _ (.d (.int _))⟩
  · exact h.elim
end
section
variable {X : Cx} {E : EX} {pos p p2 : Pos} {e : Expr} {es : List Expr} {ms : AM} {m : EM}
theorem s_len (hm : X.mg "len" = none) (ha : SA X E [e] ms) (hg : Gl X "len" := by rfl) (he : starEach [e] X.env = (false, eval e X.env) :: starEach [] X.env := by rfl) (hpl : (backTo pos (starEach [] X.env)).any (·.1) = false := by rfl) : SE X E (.Call (.Name "len" p) [e] [] pos) (eCall bLen ms) :=
  s_callB call_len ok_len hm ha PySem.boot_len hg (by decide) (by decide) he hpl
theorem s_all (hc : X.calm = true) (hm : X.mg "all" = none) (ha : SA X E [e] ms) (hg : Gl X "all" := by rfl) (he : starEach [e] X.env = (false, eval e X.env) :: starEach [] X.env := by rfl) (hpl : (backTo pos (starEach [] X.env)).any (·.1) = false := by rfl) : SE X E (.Call (.Name "all" p) [e] [] pos) (eCall bAll ms) :=
  s_callB (cr_all hc) ok_all hm ha (by decide +kernel) hg (by decide) (by decide) he hpl
theorem s_any (hc : X.calm = true) (hm : X.mg "any" = none) (ha : SA X E [e] ms) (hg : Gl X "any" := by rfl) (he : starEach [e] X.env = (false, eval e X.env) :: starEach [] X.env := by rfl) (hpl : (backTo pos (starEach [] X.env)).any (·.1) = false := by rfl) : SE X E (.Call (.Name "any" p) [e] [] pos) (eCall bAny ms) :=
  s_callB (cr_any hc) ok_any hm ha (by decide +kernel) hg (by decide) (by decide) he hpl
theorem s_sum (hc : X.calm = true) (hm : X.mg "sum" = none) (ha : SA X E [e] ms) (hg : Gl X "sum" := by rfl) (he : starEach [e] X.env = (false, eval e X.env) :: starEach [] X.env := by rfl) (hpl : (backTo pos (starEach [] X.env)).any (·.1) = false := by rfl) : SE X E (.Call (.Name "sum" p) [e] [] pos) (eCall bSum ms) :=
  s_callB (cr_sumS hc) ok_sum hm ha (by decide +kernel) hg (by decide) (by decide) he hpl
theorem s_abs (hm : X.mg "abs" = none) (ha : SA X E [e] ms) (hg : Gl X "abs" := by rfl) (he : starEach [e] X.env = (false, eval e X.env) :: starEach [] X.env := by rfl) (hpl : (backTo pos (starEach [] X.env)).any (·.1) = false := by rfl) : SE X E (.Call (.Name "abs" p) [e] [] pos) (eCall bAbs ms) :=
  s_callB call_abs ok_abs hm ha (by decide +kernel) hg (by decide) (by decide) he hpl
theorem s_min2 {e2 : Expr} (hc : X.calm = true) (hm : X.mg "min" = none) (ha : SA X E [e, e2] ms) (hg : Gl X "min" := by rfl) (he : starEach [e, e2] X.env = (false, eval e X.env) :: starEach [e2] X.env := by rfl) (hpl : (backTo pos (starEach [e2] X.env)).any (·.1) = false := by rfl) : SE X E (.Call (.Name "min" p) [e, e2] [] pos) (eCall bMin2 ms) :=
  s_callB (call_min2 hc) ok_min2 hm ha (by decide +kernel) hg (by decide) (by decide) he hpl
theorem s_max2 {e2 : Expr} (hc : X.calm = true) (hm : X.mg "max" = none) (ha : SA X E [e, e2] ms) (hg : Gl X "max" := by rfl) (he : starEach [e, e2] X.env = (false, eval e X.env) :: starEach [e2] X.env := by rfl) (hpl : (backTo pos (starEach [e2] X.env)).any (·.1) = false := by rfl) : SE X E (.Call (.Name "max" p) [e, e2] [] pos) (eCall bMax2 ms) :=
  s_callB (call_max2 hc) ok_max2 hm ha (by decide +kernel) hg (by decide) (by decide) he hpl
theorem s_tuple (hm : X.mg "tuple" = none) (ha : SA X E [e] ms) (hg : Gl X "tuple" := by rfl) (he : starEach [e] X.env = (false, eval e X.env) :: starEach [] X.env := by rfl) (hpl : (backTo pos (starEach [] X.env)).any (·.1) = false := by rfl) : SE X E (.Call (.Name "tuple" p) [e] [] pos) (eCall bTuple ms) :=
  s_callTy call_tuple_of ok_tuple hm ha (by decide +kernel) hg (by decide) (by decide) he hpl
theorem s_list (hm : X.mg "list" = none) (ha : SA X E [e] ms) (hg : Gl X "list" := by rfl) (he : starEach [e] X.env = (false, eval e X.env) :: starEach [] X.env := by rfl) (hpl : (backTo pos (starEach [] X.env)).any (·.1) = false := by rfl) : SE X E (.Call (.Name "list" p) [e] [] pos) (eCall bList ms) :=
  s_callTy call_list_of ok_list hm ha (by decide +kernel) hg (by decide) (by decide) he hpl
theorem s_listM (hm : X.mg "list" = none) (ha : SA X E [e] ms) (hg : Gl X "list" := by rfl) (he : starEach [e] X.env = (false, eval e X.env) :: starEach [] X.env := by rfl) (hpl : (backTo pos (starEach [] X.env)).any (·.1) = false := by rfl) : SE X E (.Call (.Name "list" p) [e] [] pos) (eCall bListM ms) :=
  s_callTy call_list_of ok_listM hm ha (by decide +kernel) hg (by decide) (by decide) he hpl
theorem s_toInt (hm : X.mg "int" = none) (ha : SA X E [e] ms) (hg : Gl X "int" := by rfl) (he : starEach [e] X.env = (false, eval e X.env) :: starEach [] X.env := by rfl) (hpl : (backTo pos (starEach [] X.env)).any (·.1) = false := by rfl) : SE X E (.Call (.Name "int" p) [e] [] pos) (eCall bInt ms) :=
  s_callTy call_int1 ok_int1 hm ha (by decide +kernel) hg (by decide) (by decide) he hpl
end

/-! ### isinstance of one built-in class -/
def tyD : PyData → String
  | .none => "NoneType" | .bool _ => "bool" | .int _ => "int" | .str _ => "str" | .list _ => "list" | .tuple _ => "tuple" | .dict _ => "dict"
def tyW (S : Sto) : W → Option String
  | .d x => some (tyD x)
  | .tup _ => some "tuple"
  | .ref n => match S[n]? with
    | some (.lst _) => some "list"
    | _ => none
  | _ => none
/-- the answer by the name of the value's type -/
def isiT (t T : String) : Bool := t == T || (t == "bool" && T == "int")
def opIsi (T : String) : Op1 := fun x S => match tyW S x with
  | some t => .ok (.d (.bool (isiT t T))) S
  | none => .bad
theorem kit_int : ∀ t ∈ ["NoneType", "bool", "int", "str", "list", "tuple"], kitB t "int" = some (isiT t "int") := by decide +kernel
theorem kit_bool : ∀ t ∈ ["NoneType", "bool", "int", "str", "list", "tuple"], kitB t "bool" = some (isiT t "bool") := by decide +kernel
theorem kit_str : ∀ t ∈ ["NoneType", "bool", "int", "str", "list", "tuple"], kitB t "str" = some (isiT t "str") := by decide +kernel
theorem kit_list : ∀ t ∈ ["NoneType", "bool", "int", "str", "list", "tuple"], kitB t "list" = some (isiT t "list") := by decide +kernel
theorem kit_tuple : ∀ t ∈ ["NoneType", "bool", "int", "str", "list", "tuple"], kitB t "tuple" = some (isiT t "tuple") := by decide +kernel
section
variable {X : Cx} {E : EX} {pos p p2 : Pos} {e : Expr} {m : EM} {K : PySem.W.Frag} {F : FS} {ι : List Addr} {S : Sto} {H : Hp}
theorem SqT.tyx {a : Addr} {xs : List V} (h : SqT K H a xs) : TyX K H (.ref a) (.type "tuple") := by
  rcases h with (h | ⟨o, h⟩) | ⟨o, its, n, hk, hc, _⟩
  · exact .base (.tup h)
  · exact .fTuple h
  · exact .kTuple hk hc
theorem RW.tyx (R : Rel K F ι S H) {x : W} {v : V} {t : String} (r : RW K F ι H x v) (e : tyW S x = some t) : TyX K H v (.type t) ∧ t ∈ ["NoneType", "bool", "int", "str", "list", "tuple"] := by
  cases r with
  | d r =>
    cases r with
    | non => cases e; exact ⟨.base .non, by simp [tyD]⟩
    | bl b => cases e; exact ⟨.base (.bl b), by simp [tyD]⟩
    | int i => cases e; exact ⟨.base (.int i), by simp [tyD]⟩
    | str i => cases e; exact ⟨.base (.str i), by simp [tyD]⟩
    | lst s r => cases e; exact ⟨.base (.lst s.tr), by simp [tyD]⟩
    | tup s r => cases e; exact ⟨SqT.tyx s.now, by simp [tyD]⟩
  | tup s r => cases e; exact ⟨SqT.tyx s.now, by simp [tyD]⟩
  | ref h =>
    simp only [tyW] at e
    split at e
    · rename_i q
      cases e
      obtain ⟨vs, e1, _⟩ := R.cell _ _ _ h q
      exact ⟨.base (.lst e1), by simp [tyD]⟩
    · cases e
  | cst v => cases e
  | fl s r => cases e
theorem s_isi {T : String} {Tn : Str} (hk : ∀ t ∈ ["NoneType", "bool", "int", "str", "list", "tuple"], kitB t T = some (isiT t T)) (hm : X.mg "isinstance" = none) (hmT : X.mg Tn = none) (hv : bootBuiltins Tn = some (.type T)) (ha : SE X E e m)
    (hg : Gl X "isinstance" := by rfl) (hgT : Gl X Tn := by rfl) (hT1 : Tn ≠ "__name__" := by decide) (hT2 : (Tn == ("__debug__" : Str)) = false := by decide)
    (he : starEach [e, .Name Tn p2] X.env = (false, eval e X.env) :: starEach [.Name Tn p2] X.env := by rfl) (he2 : starEach [.Name Tn p2] X.env = (false, eval (.Name Tn p2) X.env) :: starEach [] X.env := by rfl) (hpl : (backTo pos (starEach [.Name Tn p2] X.env)).any (·.1) = false := by rfl) :
    SE X E (.Call (.Name "isinstance" p) [e, .Name Tn p2] [] pos) (eOp1 (opIsi T) m) := by
  refine PE.le (pe_callB call_isi hg hm (by decide +kernel) (pa_cons ha (pa_cons (pe_bltn hgT hmT hv (v := .ty T) rfl hT1 hT2) pa_nil he2) he) (by decide) (by decide) he hpl) fun σ H Q h => ?_
  obtain ⟨F, ι, S, ρ, R, rs, h⟩ := h
  refine ⟨F, ι, S, ρ, R, rs, h.bind.imp fun F1 ι1 H1 w S1 x1 R1 h v r => ?_⟩
  unfold opIsi at h
  split at h
  · rename_i t q
    obtain ⟨ty, hm⟩ := r.tyx R1 q
    exact ⟨v, _, _, _, _, rfl, .ty T, ty, kit_ty (hk t hm), h.ok R1 _ (.d (.bl _))⟩
  · exact h.elim
end
end Sh
end

section
namespace Sh
open PySem PySem.Spec PyProof.Rows L2
open Classical

/-! ### a[i] -/
def opIx : Op2 := fun x y S => match y with
  | .d (.int i) => match x with
    | .d (.list xs) => .ofO S ((atI xs i).map .d)
    | .fl xs => .ofO S ((atI xs i).map .d)
    | .d (.str z) => if z.length ≤ sizeLine then .ofO S ((atI z.cps.toList i).map fun c => .d (.str ⟨#[c]⟩)) else .bad
    | .ref n => match S[n]? with
      | some (.lst ws) => .ofO S (atI ws i)
      | _ => .bad
    | x => match tupOf x with
      | some ws => .ofO S (atI ws i)
      | none => .bad
  | _ => .bad
theorem atI_map {α β : Type} (f : α → β) (xs : List α) (i : Int) : atI (xs.map f) i = (atI xs i).map f := by
  unfold atI
  rw [List.length_map]
  cases ixN xs.length i with
  | none => rfl
  | some j => simp
section
variable {X : Cx} {E : EX} {pos : Pos} {a b : Expr} {ma mb : EM} {K : PySem.W.Frag} {F : FS} {ι : List Addr} {S : Sto} {H : Hp}
theorem RWs.at {ws : List W} {vs : List V} {i : Int} {w : W} (r : RWs K F ι H ws vs) (e : atI ws i = some w) : ∃ v, atI vs i = some v ∧ RW K F ι H w v := by
  unfold atI at e ⊢
  rw [← r.length]
  cases q : ixN ws.length i with
  | none => rw [q] at e; cases e
  | some j =>
    rw [q] at e
    simp only [Option.bind_some] at e ⊢
    exact r.get' e
theorem ok_ix : Ok2 X (rIx X.K) opIx := by
  intro E F ι S H x y v u Q R rx ry h
  unfold opIx at h
  split at h
  · obtain rfl := ry.int_of
    split at h
    · obtain ⟨w, e, h⟩ := h.ofO
      obtain ⟨p, vs, rfl, st, rr⟩ := rx.lst_of
      rw [← atI_map] at e
      obtain ⟨z, e1, r1⟩ := (RWs.ofD (ι := ι) rr).at e
      exact .inl ⟨p, vs, _, z, rfl, rfl, st.now, e1, h.ok R z r1⟩
    · obtain ⟨w, e, h⟩ := h.ofO
      obtain ⟨p, vs, rfl, st, rr⟩ := rx.fl_of
      rw [← atI_map] at e
      obtain ⟨z, e1, r1⟩ := (RWs.ofD (ι := ι) rr).at e
      exact .inl ⟨p, vs, _, z, rfl, rfl, st.now, e1, h.ok R z r1⟩
    · split at h
      · rename_i hz
        obtain ⟨w, e, h⟩ := h.ofO
        obtain rfl := rx.str_of
        rw [Option.map_eq_some_iff] at e
        obtain ⟨c, e, rfl⟩ := e
        exact .inr (.inr ⟨_, _, c, rfl, rfl, hz, e, h.ok R _ (.d (.str _))⟩)
      · exact h.elim
    · split at h
      · rename_i q
        obtain ⟨w, e, h⟩ := h.ofO
        obtain ⟨p, rfl, _, vs, e1, rr, _⟩ := rx.ref_of R q
        obtain ⟨z, e2, r1⟩ := rr.at e
        exact .inl ⟨p, vs, _, z, rfl, rfl, .of e1, e2, h.ok R z r1⟩
      · exact h.elim
    · split at h
      · rename_i q
        obtain ⟨w, e, h⟩ := h.ofO
        obtain ⟨p, vs, rfl, st, rr⟩ := rx.tup_of q
        obtain ⟨z, e2, r1⟩ := rr.at e
        exact .inr (.inl ⟨p, vs, _, z, rfl, rfl, st.now, e2, h.ok R z r1⟩)
      · exact h.elim
  · exact h.elim
theorem s_ix (ha : SE X E a ma) (hb : SE X E b mb) (hs : PlainIx b := by exact fun _ _ => rfl) : SE X E (.Subscript a b pos) (eOp2 opIx ma mb) :=
  PE.le (pe_ix ix_seq ha hb hs) fun σ H Q h => op2_le ok_ix h
end

/-! ### a[lo:hi] -/
abbrev OM := Rho → Sto → Out (Option Int)
def oNone : OM := fun _ S => .ok none S
def oSome (m : EM) : OM := fun ρ S => (m ρ S).bind fun w S1 => match w with
  | .d (.int i) => .ok (some i) S1
  | _ => .bad
def cut {α : Type} (xs : List α) (lo hi : Option Int) : List α := (xs.drop (HT.sIx xs.length 0 lo)).take (HT.sIx xs.length xs.length hi - HT.sIx xs.length 0 lo)
def opSl (x : W) (lo hi : Option Int) (S : Sto) : Out W := match x with
  | .d (.list xs) => .ok (.d (.list (cut xs lo hi))) S
  | .fl xs => .ok (.d (.list (cut xs lo hi))) S
  | x => match tupOf x with
    | some ws => .ok (mkTup (cut ws lo hi)) S
    | none => .bad
def eSl (m : EM) (lo hi : OM) : EM := fun ρ S => (m ρ S).bind fun x S1 => (lo ρ S1).bind fun l S2 => (hi ρ S2).bind fun u S3 => opSl x l u S3
def tO (K : PySem.W.Frag) (E : EX) (m : OM) : TO := fun σ H Q => ∃ F ι S ρ, Rel K F ι S H ∧ RS K F ι H ρ σ ∧ Post K (E σ) F ι H (m ρ S) fun F' ι' H' o _ => Q o H'
def SO (X : Cx) (E : EX) (e : Option Expr) (m : OM) : Prop := PO X e (tO X.K E m)
section
variable {X : Cx} {E : EX} {pos p2 : Pos} {e : Expr} {lo hi : Option Expr} {m : EM} {l u : OM} {K : PySem.W.Frag} {F : FS} {ι : List Addr} {S : Sto} {H : Hp}
theorem so_none : SO X E none oNone := ⟨fun pins s σ H Q I h => by
  obtain ⟨F, ι, S, ρ, R, rs, h⟩ := h
  exact po_none.run pins s σ H Q I (h.ok R)⟩
theorem so_some (h : SE X E e m) : SO X E (some e) (oSome m) := ⟨fun pins s σ H Q I hw => by
  refine (po_some h).run pins s σ H Q I ?_
  obtain ⟨F, ι, S, ρ, R, rs, h⟩ := hw
  refine ⟨F, ι, S, ρ, R, rs, h.bind.imp fun F1 ι1 H1 w S1 x1 R1 h v r => ?_⟩
  split at h
  · obtain rfl := r.int_of; exact ⟨_, rfl, h.ok R1⟩
  · exact h.elim⟩
theorem RWs.take {xs : List W} {us : List V} (n : Nat) (r : RWs K F ι H xs us) : RWs K F ι H (xs.take n) (us.take n) := by
  induction n generalizing xs us with
  | zero => exact .nil
  | succ n ih => cases r with
    | nil => exact .nil
    | cons a b => exact .cons a (ih b)
theorem RWs.drop {xs : List W} {us : List V} (n : Nat) (r : RWs K F ι H xs us) : RWs K F ι H (xs.drop n) (us.drop n) := by
  induction n generalizing xs us with
  | zero => exact r
  | succ n ih => cases r with
    | nil => exact .nil
    | cons a b => exact ih b
theorem RWs.cut {xs : List W} {us : List V} (r : RWs K F ι H xs us) (lo hi : Option Int) : RWs K F ι H (Sh.cut xs lo hi) (cutV us lo hi) := by
  unfold Sh.cut cutV
  rw [r.length]
  exact (r.drop _).take _
theorem RDs.cut {xs : List PyData} {us : List V} (r : RDs K F H xs us) (lo hi : Option Int) : RDs K F H (Sh.cut xs lo hi) (cutV us lo hi) := by
  unfold Sh.cut cutV
  rw [r.length]
  exact (r.drop _).take _
theorem cut_map {α β : Type} (f : α → β) (xs : List α) (lo hi : Option Int) : cut (xs.map f) lo hi = (cut xs lo hi).map f := by
  unfold cut
  rw [List.length_map, List.map_take, List.map_drop]
theorem cut_len {α : Type} (xs : List α) (lo hi : Option Int) : (cut xs lo hi).length ≤ xs.length := by
  unfold cut
  rw [List.length_take, List.length_drop]; omega
theorem cut_all {α : Type} {xs : List α} {lo hi : Option Int} (h : HT.sIx xs.length 0 lo = 0 ∧ HT.sIx xs.length xs.length hi = xs.length) : cut xs lo hi = xs := by
  unfold cut
  rw [h.1, h.2]; simp
abbrev rSlS (K : PySem.W.Frag) : V → Option Int → Option Int → Hp → VK → Prop := fun x lo hi H Q => rSlL K x lo hi H Q ∨ rSlA K x lo hi H Q
theorem s_sl (hx : SE X E e m) (hl : SO X E lo l) (hu : SO X E hi u) : SE X E (.Subscript e (.Slice lo hi none p2) pos) (eSl m l u) := by
  refine PE.le (pe_slice (sl_list.or sl_tupA) hx hl hu) fun σ H Q h => ?_
  obtain ⟨F, ι, S, ρ, R, rs, h⟩ := h
  refine ⟨F, ι, S, ρ, R, rs, h.bind.imp fun F1 ι1 H1 x S1 x1 R1 h v r => ?_⟩
  refine ⟨F1, ι1, S1, ρ, R1, rs.ext x1, h.bind.imp fun F2 ι2 H2 lv S2 x2 R2 h => ?_⟩
  refine ⟨F2, ι2, S2, ρ, R2, (rs.ext x1).ext x2, h.bind.imp fun F3 ι3 H3 uv S3 x3 R3 h => ?_⟩
  replace r := (r.ext x2).ext x3
  unfold opSl at h
  split at h
  · obtain ⟨a, vs, rfl, st, rr⟩ := r.lst_of
    refine .inl ⟨a, vs, rfl, st.now, fun p n => ?_⟩
    obtain ⟨y, R', r'⟩ := new_lst R3 n (rr.cut lv uv) (Nat.le_trans (cut_len _ _ _) (by rw [rr.length]; exact st.1))
    exact h _ _ _ y R' _ r'
  · obtain ⟨a, vs, rfl, st, rr⟩ := r.fl_of
    refine .inl ⟨a, vs, rfl, st.now, fun p n => ?_⟩
    obtain ⟨y, R', r'⟩ := new_lst R3 n (rr.cut lv uv) (Nat.le_trans (cut_len _ _ _) (by rw [rr.length]; exact st.1))
    exact h _ _ _ y R' _ r'
  · split at h
    · rename_i ws q
      obtain ⟨a, vs, rfl, st, rr⟩ := r.tup_of q
      refine .inr ⟨a, vs, rfl, st.now, fun hw => ?_, fun hw p n => ?_⟩
      · rw [← rr.length] at hw
        rw [cut_all hw] at h
        exact h.ok R3 _ (mkTup_same q r)
      · obtain ⟨y, R', r'⟩ := new_tup R3 n (rr.cut lv uv) (Nat.le_trans (cut_len _ _ _) (by rw [rr.length]; exact st.1))
        exact h _ _ _ y R' _ r'
    · exact h.elim
end

/-! ### methods of lists -/
/-- a method by values: the receiver, the arguments -/
abbrev MF := W → List W → Sto → Out W
def mAppend : MF := fun o ws S => match o, ws with
  | .ref n, [y] => match S[n]? with
    | some (.lst xs) => if xs.length < sizeLine then .ok (.d .none) (S.set n (.lst (xs ++ [y]))) else .bad
    | _ => .bad
  | _, _ => .bad
/-- the plain items of what may be added to a list -/
def lstOf (S : Sto) : W → Option (List W)
  | .d (.list xs) => some (xs.map .d)
  | .ref n => match S[n]? with
    | some (.lst ws) => some ws
    | _ => none
  | _ => none
def mExtend : MF := fun o ws S => match o, ws with
  | .ref n, [y] => match S[n]?, lstOf S y with
    | some (.lst xs), some zs => if xs.length + zs.length ≤ sizeLine then .ok (.d .none) (S.set n (.lst (xs ++ zs))) else .bad
    | _, _ => .bad
  | _, _ => .bad
def mPop : MF := fun o ws S => match o, ws with
  | .ref n, [] => match S[n]? with
    | some (.lst xs) => match xs[xs.length - 1]? with
      | some y => .ok y (S.set n (.lst xs.dropLast))
      | none => .bad
    | _ => .bad
  | _, _ => .bad
/-- the first place of an equal one -/
def idxOf (d : PyData) : List PyData → Option Nat
  | [] => none
  | z :: r => if PyData.eqv z d = true then some 0 else (idxOf d r).map (· + 1)
noncomputable def mIndex : MF := fun o ws S => match o, ws with
  | .d (.list xs), [.d y] => if shp (.list xs) y then .ofO S ((idxOf y xs).map fun (j : Nat) => (W.d (.int (j : Int)))) else .bad
  | _, _ => .bad
def eMt (f : MF) (mo : EM) (ms : AM) : EM := fun ρ S => (mo ρ S).bind fun o S1 => (ms ρ S1).bind fun ws S2 => f o ws S2
def OkM (X : Cx) (r : V → List V → Hp → VK → Prop) (f : MF) : Prop := ∀ E F ι S H o ws v vs Q, Rel X.K F ι S H → RW X.K F ι H o v → RWs X.K F ι H ws vs → Post X.K E F ι H (f o ws S) (fun F' ι' H' w _ => ∀ z, RW X.K F' ι' H' w z → Q z H') → r v vs H Q
/-- a list of some sort -/
def isL (S : Sto) : W → Bool
  | .d (.list _) => true
  | .ref n => match S[n]? with
    | some (.lst _) => true
    | _ => false
  | _ => false
def eMtL (f : MF) (mo : EM) (ms : AM) : EM := fun ρ S => (mo ρ S).bind fun o S1 => if isL S1 o = true then (ms ρ S1).bind fun ws S2 => f o ws S2 else .bad
theorem RW.tyL {K F ι S H} (R : Rel K F ι S H) {w : W} {v : V} (r : RW K F ι H w v) (h : isL S w = true) : tyV K "list" v H := by
  cases w with
  | d x =>
    cases x <;> simp only [isL] at h <;> try cases h
    obtain ⟨a, us, rfl, st, _⟩ := r.lst_of; exact .inl ⟨rfl, us, st.now⟩
  | ref n =>
    simp only [isL] at h
    split at h
    · rename_i q; obtain ⟨a, rfl, _, us, e1, _⟩ := r.ref_of R q; exact .inl ⟨rfl, us, .of e1⟩
    · cases h
  | _ => cases h
section
variable {X : Cx} {E : EX} {apos cpos : Pos} {o e : Expr} {es : List Expr} {mo : EM} {ms : AM} {K : PySem.W.Frag} {F : FS} {ι : List Addr} {S : Sto} {H : Hp}
theorem cell_wr (R : Rel K F ι S H) {n : Nat} {a : Addr} (hn : ι[n]? = some a) {ws : List W} {vs : List V} (r : RWs K F ι H ws vs) (hz : ws.length ≤ sizeLine) :
    Ext F ι H F ι (upd H a (.lst vs)) ∧ Rel K F ι (S.set n (.lst ws)) (upd H a (.lst vs)) := by
  have hm : a ∈ ι := List.mem_of_getElem? hn
  have x := Ext.wr (o := .lst vs) R hm
  exact ⟨x, R.wr hn ⟨vs, upd_same, r.ext x, hz⟩⟩
theorem ok_append : OkM X rAppend mAppend := by
  intro E F ι S H o ws v vs Q R ro r h
  unfold mAppend at h
  split at h
  · split at h
    · rename_i q
      split at h
      · rename_i hz
        obtain ⟨z, rfl, r'⟩ := r.one
        obtain ⟨a, rfl, hn, us, e1, rr, _⟩ := ro.ref_of R q
        obtain ⟨x, R'⟩ := cell_wr R hn (rr.append (.cons r' .nil)) (by simp; omega)
        exact ⟨a, us, z, rfl, rfl, e1, by rw [← rr.length]; exact hz, h _ _ _ x R' _ (.d .non)⟩
      · exact h.elim
    · exact h.elim
  · exact h.elim
theorem RW.lst_in {y : W} {z : V} {zs : List W} (R : Rel K F ι S H) (r : RW K F ι H y z) (e : lstOf S y = some zs) : ∃ b us, z = .ref b ∧ H b = some (.lst us) ∧ RWs K F ι H zs us := by
  cases y with
  | d x =>
    cases x <;> simp only [lstOf] at e <;> try cases e
    obtain ⟨b, us, rfl, st, rr⟩ := r.lst_of
    exact ⟨b, us, rfl, st.tr, .ofD rr⟩
  | ref n =>
    simp only [lstOf] at e
    split at e
    · rename_i q
      cases e
      obtain ⟨b, rfl, _, us, e1, rr, _⟩ := r.ref_of R q
      exact ⟨b, us, rfl, e1, rr⟩
    · cases e
  | _ => cases e
theorem ok_extend : OkM X rExtend mExtend := by
  intro E F ι S H o ws v vs Q R ro r h
  unfold mExtend at h
  split at h
  · split at h
    · rename_i q q2
      split at h
      · rename_i hz
        obtain ⟨z, rfl, r'⟩ := r.one
        obtain ⟨a, rfl, hn, us, e1, rr, _⟩ := ro.ref_of R q
        obtain ⟨b, ys, rfl, e2, rb⟩ := RW.lst_in R r' q2
        obtain ⟨x, R'⟩ := cell_wr R hn (rr.append rb) (by simp; omega)
        exact ⟨a, b, us, ys, rfl, rfl, e1, e2, by rw [← rr.length, ← rb.length]; exact hz, h _ _ _ x R' _ (.d .non)⟩
      · exact h.elim
    · exact h.elim
  · exact h.elim
theorem ok_pop : OkM X rPop mPop := by
  intro E F ι S H o ws v vs Q R ro r h
  unfold mPop at h
  split at h
  · split at h
    · rename_i q
      split at h
      · rename_i y q2
        cases r
        obtain ⟨a, rfl, hn, us, e1, rr, hz⟩ := ro.ref_of R q
        obtain ⟨z, e2, rz⟩ := rr.get' q2
        obtain ⟨x, R'⟩ := cell_wr R hn rr.dropLast (by simp; omega)
        refine ⟨a, us, z, rfl, rfl, e1, by rw [← rr.length]; exact e2, h _ _ _ x R' _ (rz.ext x)⟩
      · exact h.elim
    · exact h.elim
  · exact h.elim
theorem idxOf_spec {d : PyData} : ∀ {xs : List PyData} {j : Nat}, idxOf d xs = some j → ∃ z, xs[j]? = some z ∧ PyData.eqv z d = true ∧ ∀ (m : Nat) (z' : PyData), m < j → xs[m]? = some z' → PyData.eqv z' d = false
  | [], _, h => by cases h
  | x :: r, j, h => by
    unfold idxOf at h
    split at h
    · rename_i q
      cases h
      exact ⟨x, rfl, q, fun m z' hm => by omega⟩
    · rename_i q
      rw [Option.map_eq_some_iff] at h
      obtain ⟨k, h, rfl⟩ := h
      obtain ⟨z, h1, h2, h3⟩ := idxOf_spec h
      refine ⟨z, by simpa using h1, h2, fun m z' hm e => ?_⟩
      cases m with
      | zero => simp at e; subst e; simpa using q
      | succ m => exact h3 m z' (by omega) (by simpa using e)
theorem ok_index : OkM X (rIndexD X.K) mIndex := by
  intro E F ι S H o ws v vs Q R ro r h
  unfold mIndex at h
  split at h
  · split at h
    · rename_i hs
      obtain ⟨w, e, h⟩ := h.ofO
      rw [Option.map_eq_some_iff] at e
      obtain ⟨j, e, rfl⟩ := e
      obtain ⟨z, rfl, r'⟩ := r.one
      obtain ⟨y, h1, h2, h3⟩ := idxOf_spec e
      have hd := ro.pure.toDp
      obtain ⟨a, us, rfl, st, rr⟩ := ro.lst_of
      exact ⟨a, z, _, _, j, y, rfl, rfl, hd, r'.pure.toDp, hs.1, hs.2, h1, h2, h3, h.ok R _ (.d (.int _))⟩
    · exact h.elim
  · exact h.elim
theorem s_mtL {name : Str} {id : String} {r : V → List V → Hp → VK → Prop} {f : MF} (slot : Slot "list" name id) (hty : typeOf (.builtin id) = pure (.type "method_descriptor")) (hm : MtR X id r) (hf : OkM X r f) (ho : SE X E o mo) (ha : SA X E (e :: es) ms)
    (hbase : attributeBase o name X.env (eval o X.env) = eval o X.env := by rfl)
    (hfew : ((backTo cpos (starEach (e :: es) X.env)).all (fun x => !x.1) && (backToKw cpos (keywordEach [] X.env)).all (fun x => x.1.isSome)
      && decide ((e :: es).length + ([] : List Keyword).length + (if ([] : List Keyword).isEmpty then 0 else 1) < 30)) = true := by rfl)
    (hline : (apos.endLine == cpos.line) = true := by rfl) (hs : starEach (e :: es) X.env = (false, eval e X.env) :: starEach es X.env := by rfl) (hplain : (backTo cpos (starEach es X.env)).any (·.1) = false := by rfl) :
    SE X E (.Call (.Attribute o name apos) (e :: es) [] cpos) (eMtL f mo ms) := by
  refine PE.le (pe_bm PySem.F.plainAttrs_list slot hty hm ho ha hbase hfew hline hs hplain) fun σ H Q h => ?_
  obtain ⟨F, ι, S, ρ, R, rs, h⟩ := h
  refine ⟨F, ι, S, ρ, R, rs, h.bind.imp fun F1 ι1 H1 w S1 x1 R1 h v r => ?_⟩
  split at h
  · rename_i hl
    exact ⟨r.tyL R1 hl, F1, ι1, S1, ρ, R1, rs.ext x1, h.bind.imp fun F2 ι2 H2 ws S2 x2 R2 h vs r2 => hf _ F2 ι2 S2 H2 w ws v vs Q R2 (r.ext x2) r2 h⟩
  · exact h.elim
theorem s_mtL0 {name : Str} {id : String} {r : V → List V → Hp → VK → Prop} {f : MF} (slot : Slot "list" name id) (hty : typeOf (.builtin id) = pure (.type "method_descriptor")) (hm : MtR X id r) (hf : OkM X r f) (ho : SE X E o mo)
    (hbase : attributeBase o name X.env (eval o X.env) = eval o X.env := by rfl) (hline : (apos.endLine == cpos.line) = true := by rfl) : SE X E (.Call (.Attribute o name apos) [] [] cpos) (eMtL f mo aNil) := by
  refine PE.le (pe_bm0 PySem.F.plainAttrs_list slot hty hm ho hbase hline) fun σ H Q h => ?_
  obtain ⟨F, ι, S, ρ, R, rs, h⟩ := h
  refine ⟨F, ι, S, ρ, R, rs, h.bind.imp fun F1 ι1 H1 w S1 x1 R1 h v r => ?_⟩
  split at h
  · rename_i hl
    exact ⟨r.tyL R1 hl, hf _ F1 ι1 S1 H1 w [] v [] Q R1 r .nil h⟩
  · exact h.elim
end

/-! ### l[i] = v of a cell -/
def setIx : Op3 := fun o i w S => match o, i with
  | .ref n, .d (.int k) => match S[n]? with
    | some (.lst ws) => match ixN ws.length k with
      | some j => .ok () (S.set n (.lst (ws.set j w)))
      | none => .bad
    | _ => .bad
  | _, _ => .bad
theorem ok_setIx {X : Cx} : OkSet X rSetL setIx := by
  intro E F ι S H o i w vo vi v Q R ro ri rw' h
  unfold setIx at h
  split at h
  · obtain rfl := ri.int_of
    split at h
    · rename_i q
      split at h
      · rename_i j qj
        obtain ⟨a, rfl, hn, us, e1, rr, hz⟩ := ro.ref_of R q
        obtain ⟨x, R'⟩ := cell_wr R hn (rr.set rw' j) (by simpa using hz)
        exact ⟨a, us, _, j, rfl, rfl, e1, by rw [← rr.length]; exact qj, h _ _ _ x R'⟩
      · exact h.elim
    · exact h.elim
  · exact h.elim
theorem sg_ix {X : Cx} {E : EX} {o i : Expr} {pos : Pos} {mo mi : EM} (ho : SE X E o mo) (hi : SE X E i mi)
    (ha : ∀ v, assign (.Subscript o i pos) X.env v = (do
      let ov ← holding [v] (eval o X.env)
      let iv ← holding [v, ov] (eval i X.env)
      standAt pos
      holding [v, ov, iv] (setItem ov iv v)
      release [v, ov, iv] []) := by intro _; rfl) : SG X E (.Subscript o i pos) (gSb setIx mo mi) := sg_sub set_list ok_setIx ho hi ha

/-! ### what is walked -/
def itOf (S : Sto) : W → Option (List W)
  | .d (.list xs) => some (xs.map .d)
  | .fl xs => some (xs.map .d)
  | _ => none
def iLst (m : EM) : IM := fun ρ S => (m ρ S).bind fun w S1 => match w with
  | .d (.list xs) => .ok ⟨xs.map .d, fun _ => True⟩ S1
  | .fl xs => .ok ⟨xs.map .d, fun _ => True⟩ S1
  | .ref n => match S1[n]? with
    | some (.lst ws) => .ok ⟨ws, fun S => S[n]? = some (.lst ws)⟩ S1
    | _ => .bad
  | _ => .bad
def iTp (m : EM) : IM := fun ρ S => (m ρ S).bind fun w S1 => match tupOf w with
  | some ws => .ok ⟨ws, fun _ => True⟩ S1
  | none => .bad
noncomputable def iRg1 (m : EM) : IM := fun ρ S => (m ρ S).bind fun w S1 => match w with
  | .d (.int j) => if In62 j then .ok ⟨(List.range j.toNat).map fun (k : Nat) => W.d (.int (k : Int)), fun _ => True⟩ S1 else .bad
  | _ => .bad
noncomputable def iRg2 (ms : AM) : IM := fun ρ S => (ms ρ S).bind fun ws S1 => match ws with
  | [.d (.int i), .d (.int j)] => if In62 i ∧ In62 j then .ok ⟨(List.range (j - i).toNat).map fun (k : Nat) => W.d (.int (i + (k : Int))), fun _ => True⟩ S1 else .bad
  | _ => .bad
section
variable {X : Cx} {E : EX} {tg e : Expr} {m : EM} {K : PySem.W.Frag} {F : FS} {ι : List Addr} {S : Sto} {H : Hp}
theorem PI.le {it : Expr} {t t' : TI} (h : PI X tg it t) (k : ∀ σ H R, t' σ H R → t σ H R) : PI X tg it t' := ⟨fun pins s σ H R I q => h.run pins s σ H R I (k σ H R q)⟩
theorem it_list {its : Its} {a : Addr} (st : ∀ F' ι' S' H', Wk F ι H F' ι' H' → Rel K F' ι' S' H' → its.grd S' → ∃ vs, SqL K H' a vs ∧ RWs K F' ι' H' its.items vs) : IterOk K (Itl K a) F ι H its := by
  intro i F' ι' S' H' x R g
  obtain ⟨vs, q, rr⟩ := st F' ι' S' H' x R g
  refine ⟨fun e => ⟨vs, q, by rw [e, rr.length]; exact Nat.le_refl _⟩, fun w e => ?_⟩
  obtain ⟨v, ev, rv⟩ := rr.get' e
  refine ⟨⟨vs, v, q, ev⟩, fun y H'' hy => ?_⟩
  obtain ⟨rfl, hy⟩ := hy
  have := hy vs q
  rw [ev] at this; cases this
  exact ⟨F', .refl, R, rv⟩
theorem it_tup {its : Its} {a : Addr} {vs : List V} (rr : RWs K F ι H its.items vs) (st : StT K F H a vs) : IterOk K (Itt K a) F ι H its := by
  intro i F' ι' S' H' x R g
  have q := (st.wk x).now
  refine ⟨fun e => ⟨vs, q, by rw [e, rr.length]; exact Nat.le_refl _⟩, fun w e => ?_⟩
  obtain ⟨v, ev, rv⟩ := rr.get' e
  refine ⟨⟨vs, v, q, ev⟩, fun y H'' hy => ?_⟩
  obtain ⟨rfl, hy⟩ := hy
  have := hy vs q
  rw [ev] at this; cases this
  exact ⟨F', .refl, R, rv.wk x⟩
theorem si_list (h : SE X E e m) : SI X E tg e (iLst m) := by
  refine PI.le (pi_list h) fun σ H R h => ?_
  obtain ⟨F, ι, S, ρ, Rl, rs, h⟩ := h
  refine ⟨F, ι, S, ρ, Rl, rs, h.bind.imp fun F1 ι1 H1 w S1 x1 R1 h v r => ?_⟩
  split at h
  · obtain ⟨a, vs, rfl, st, rr⟩ := r.lst_of
    exact ⟨a, rfl, ⟨vs, st.now⟩, h.ok R1 _ (it_list fun F' ι' S' H' x R g => ⟨vs, (st.wk x).now, (RWs.ofD (ι := ι1) rr).wk x⟩)⟩
  · obtain ⟨a, vs, rfl, st, rr⟩ := r.fl_of
    exact ⟨a, rfl, ⟨vs, st.now⟩, h.ok R1 _ (it_list fun F' ι' S' H' x R g => ⟨vs, (st.wk x).now, (RWs.ofD (ι := ι1) rr).wk x⟩)⟩
  · split at h
    · rename_i n _ ws q
      obtain ⟨a, rfl, hn, vs, e1, rr, hz⟩ := r.ref_of R1 q
      refine ⟨a, rfl, ⟨vs, .of e1⟩, h.ok R1 _ (it_list fun F' ι' S' H' x R g => ?_)⟩
      obtain ⟨rp, ep⟩ := x.pre
      have hn' : ι'[n]? = some a := by rw [ep, List.getElem?_append_left (List.getElem?_eq_some_iff.mp hn).1]; exact hn
      obtain ⟨us, e2, r2, _⟩ := R.cell n a _ hn' g
      exact ⟨us, .of e2, r2⟩
    · exact h.elim
  · exact h.elim
theorem si_tup (h : SE X E e m) : SI X E tg e (iTp m) := by
  refine PI.le (pi_tup h) fun σ H R h => ?_
  obtain ⟨F, ι, S, ρ, Rl, rs, h⟩ := h
  refine ⟨F, ι, S, ρ, Rl, rs, h.bind.imp fun F1 ι1 H1 w S1 x1 R1 h v r => ?_⟩
  split at h
  · rename_i q
    obtain ⟨a, vs, rfl, st, rr⟩ := r.tup_of q
    exact ⟨a, rfl, ⟨vs, st.now⟩, h.ok R1 _ (it_tup rr st)⟩
  · exact h.elim
theorem it_rng {lo : Int} {n : Nat} : IterOk K (Itr lo n) F ι H ⟨(List.range n).map fun (k : Nat) => W.d (.int (lo + (k : Int))), fun _ => True⟩ := by
  intro i F' ι' S' H' x R g
  refine ⟨fun e => by simp at e; subst e; exact Nat.le_refl _, fun w e => ?_⟩
  have hi : i < n := by
    have := (List.getElem?_eq_some_iff.mp e).1
    simpa using this
  simp only [List.getElem?_map, List.getElem?_range hi, Option.map_some, Option.some.injEq] at e
  subst e
  refine ⟨hi, fun y H'' hy => ?_⟩
  obtain ⟨rfl, rfl⟩ := hy
  exact ⟨F', .refl, R, .d (.int _)⟩
theorem si_rng1 {p pos : Pos} (hm : X.mg "range" = none) (h : SE X E e m) (hg : Gl X "range" := by rfl) (hs : starEach [e] X.env = [(false, eval e X.env)] := by rfl) : SI X E tg (.Call (.Name "range" p) [e] [] pos) (iRg1 m) := by
  refine PI.le (pi_range1 hg hm (pa_cons h pa_nil hs) hs) fun σ H R h => ?_
  obtain ⟨F, ι, S, ρ, Rl, rs, h⟩ := h
  refine ⟨F, ι, S, ρ, Rl, rs, h.bind.imp fun F1 ι1 H1 w S1 x1 R1 h v r => ?_⟩
  split at h
  · split at h
    · rename_i j hj
      obtain rfl := r.int_of
      have q := @it_rng X.K F1 ι1 H1 0 j.toNat
      simp only [Int.zero_add] at q
      exact ⟨j, rfl, hj.1, hj.2, h.ok R1 _ q⟩
    · exact h.elim
  · exact h.elim
theorem si_rng2 {e2 : Expr} {m2 : EM} {p pos : Pos} (hm : X.mg "range" = none) (h : SE X E e m) (h2 : SE X E e2 m2) (hg : Gl X "range" := by rfl) (hs : starEach [e, e2] X.env = [(false, eval e X.env), (false, eval e2 X.env)] := by rfl) (hs2 : starEach [e2] X.env = [(false, eval e2 X.env)] := by rfl) : SI X E tg (.Call (.Name "range" p) [e, e2] [] pos) (iRg2 (aCons m (aCons m2 aNil))) := by
  refine PI.le (pi_range2 hg hm (sa_cons h (sa_cons h2 sa_nil hs2) (by rw [hs, hs2])) hs hs2) fun σ H R h => ?_
  obtain ⟨F, ι, S, ρ, Rl, rs, h⟩ := h
  refine ⟨F, ι, S, ρ, Rl, rs, h.bind.imp fun F1 ι1 H1 ws S1 x1 R1 h vs r => ?_⟩
  split at h
  · split at h
    · rename_i i j hj
      obtain ⟨v, z, rfl, r1, r2⟩ := r.two
      obtain rfl := r1.int_of
      obtain rfl := r2.int_of
      exact ⟨i, j, rfl, ⟨hj.1.1, hj.1.2, hj.2.1, hj.2.2⟩, h.ok R1 _ it_rng⟩
    · exact h.elim
  · exact h.elim
end
end Sh
end

section
namespace Sh
open PySem PySem.Spec PyProof.Rows L2
open Classical

/-! ### enumerate and zip over lists and tuples, in any mix -/
/-- a kind of sequence: how it stands in the layer's heap, in the machine's, how its iterator stands -/
structure SK where
  Sq : PySem.W.Frag → Hp → Addr → List V → Prop
  Is : Heap → Addr → Array Value → Prop
  It : Heap → Addr → Addr → Nat → Prop
  o : Addr → Obj
  have_ : ∀ {X : Cx} {pins : List (Addr × Obj)} {σ : L2.St} {H : Hp} {s : Shared} {a : Addr} {xs : List V}, Inv X pins σ H s → Sq X.K H a xs → ∃ its : List Value, Vals xs its ∧ Is s.heap a its.toArray ∧ xs.length ≤ sizeLine
  inj : ∀ {X : Cx} {pins : List (Addr × Obj)} {σ : L2.St} {H : Hp} {s : Shared} {a : Addr} {xs ys : List V}, Inv X pins σ H s → Sq X.K H a xs → Sq X.K H a ys → xs = ys
  bg : ∀ a items, Begins (.ref a) (o a) fun h => Is h a items
  dr : ∀ {prog : Program} {w : World} {A : Around} (hh : A.handled = none) (it a : Addr) (hne : a ≠ it) (items : Array Value), Draws prog w A it [it, a] items.size (fun i v => items[i]? = some v) (fun i h => It h it a i ∧ Is h a items)
  at_ : ∀ {h h' : Heap} {it a : Addr} {i : Nat}, It h it a i → (∀ o, h.get? it = some o → h'.get? it = some o) → It h' it a i
  sat : ∀ {h h' : Heap} {a : Addr} {items : Array Value}, Is h a items → (∀ o, h.get? a = some o → h'.get? a = some o) → Is h' a items
  ob : ∀ {h : Heap} {it a : Addr} {i : Nat}, It h it a i → ∃ o, h.get? it = some o ∧ ∀ v, o.data ≠ .cell v
  ne : ∀ {h : Heap} {it a : Addr} {i : Nat} {items : Array Value}, It h it a i → Is h a items → a ≠ it
  st0 : ∀ {h : Heap} {it a : Addr}, h.get? it = some (o a) → It h it a 0
  sq : ∀ {h : Heap} {a : Addr} {items : Array Value}, Is h a items → ∃ o n, h.get? a = some o ∧ o.data = .seq items n
def skL : SK where
  Sq := SqL
  Is := fun h a items => h.IsList a items
  It := fun h it a i => h.IsListIter it a i
  o := fun a => { cls := .type "list_iterator", data := .fields #[.ref a, .int 0 0] }
  have_ := fun I h => let ⟨its, r, p, z⟩ := I.list h; ⟨its, r, p.isList, z⟩
  inj := fun I h h' => I.list_inj h h'
  bg := fun a items => begins_list a items
  dr := fun hh it a hne items => Draws.list hh it a hne items
  at_ := fun h k => h.at k
  sat := fun h k => h.at k
  ob := fun ⟨o, e, c, d⟩ => ⟨o, e, fun v z => by rw [d] at z; cases z⟩
  ne := fun ⟨o, e, c, d⟩ ⟨o', e', c', n, d'⟩ z => by rw [z, e] at e'; cases e'; rw [d] at d'; cases d'
  st0 := fun h => ⟨_, h, rfl, rfl⟩
  sq := fun ⟨o, e, c, n, d⟩ => ⟨o, n, e, d⟩
def skT : SK where
  Sq := SqT
  Is := fun h a items => h.IsTuple a items
  It := fun h it a i => h.IsTupleIter it a i
  o := fun a => { cls := .type "tuple_iterator", data := .fields #[.ref a, .int 0 0] }
  have_ := fun I h => let ⟨its, r, p, z⟩ := I.tuple h; ⟨its, r, p, z⟩
  inj := fun I h h' => I.tuple_inj h h'
  bg := fun a items => begins_tuple a items
  dr := fun hh it a hne items => Draws.tuple hh it a hne items
  at_ := fun h k => h.at k
  sat := fun h k => h.at k
  ob := fun ⟨o, e, c, d⟩ => ⟨o, e, fun v z => by rw [d] at z; cases z⟩
  ne := fun ⟨o, e, c, d⟩ ⟨o', e', c', n, d'⟩ z => by rw [z, e] at e'; cases e'; rw [d] at d'; cases d'
  st0 := fun h => ⟨_, h, rfl, rfl⟩
  sq := fun ⟨o, e, c, n, d⟩ => ⟨o, n, e, d⟩

/-- enumerate's new object over anything that begins -/
theorem meets_enum {v : Value} {o : Obj} {H : Heap → Prop} (B : Begins v o H) :
    Meets (Builtin.«enumerate.__new__» ⟨[.type "enumerate", v], []⟩) (fun _ R s => H s.heap ∧
      R (.ok (.ret (.ref (s.heap.push o).objs.size))) { s with heap := (s.heap.push o).push { cls := .type "enumerate", data := .fields #[.none, .bool false, .ref s.heap.objs.size, rawInt 0, .none, .none] } }) :=
  .of_wp fun prog w A R s h => by
    obtain ⟨hp, g, d, tk, os⟩ := s; obtain ⟨h1, h⟩ := h
    have hsub := sub_enumerate
    have q1 : ∀ {A' : Around} {E : Value → Shared → Prop} {Q : Value → Shared → Prop}, Q (.ref hp.objs.size) ⟨hp.push o, g, d, tk, os⟩ → wpAny (model prog w) A' (pyIter v) Q E ⟨hp, g, d, tk, os⟩ :=
      fun q => B.iter prog w _ _ ⟨hp, g, d, tk, os⟩ _ h1 q
    wp_walk using q1
    refine wpAny_stack_any fun st => wpAny_pure ?_
    split
    · rename_i c _ _ _ _ _
      cases (c == Value.type "enumerate") <;> (wp_walk using q1; exact ⟨_, rfl, h⟩)
    · wp_walk using q1
      exact ⟨_, rfl, h⟩
section
variable {prog : Program} {w : World} {A : Around} {E : Value → Shared → Prop} {s : Shared}
theorem call_enum {v : Value} {o : Obj} {H : Heap → Prop} {Q : Value → Shared → Prop} (B : Begins v o H) (h1 : H s.heap)
    (h : ∀ h', IsEnum h' (s.heap.objs.size + 1) s.heap.objs.size 0 .none → h'.get? s.heap.objs.size = some o → h'.objs.size = s.heap.objs.size + 2 →
      (∀ b o, s.heap.get? b = some o → h'.get? b = some o) → Q (.ref (s.heap.objs.size + 1)) { s with heap := h' }) :
    wpAny (model prog w) A (call (.type "enumerate") [v]) Q E s := by
  refine callType_new F.called_enumerate (by decide) (F.typeCall_enumerate_1 _) (F.newCall_enumerate_1 _) (fun obj => F.args_object_init_2 obj _) F.entry_enumerate_new (meets_enum B) ⟨h1, ?_⟩
  have hz : (s.heap.push o).objs.size = s.heap.objs.size + 1 := Heap.size_push ..
  have he := Heap.get?_push_size (s.heap.push o) (o := { cls := .type "enumerate", data := .fields #[.none, .bool false, .ref s.heap.objs.size, rawInt 0, .none, .none] }) rfl
  show _ ∧ _
  rw [hz] at he ⊢
  exact ⟨⟨_, he, rfl⟩, h _ he (Heap.get?_push_of_some _ (Heap.get?_push_size _ B.free)) (by rw [Heap.size_push, hz]) fun b o x => Heap.get?_push_of_some _ (Heap.get?_push_of_some _ x)⟩
end
/-- the sequence at a as it stands at each turn, each item in a new pair -/
def ItE (k : SK) (K : PySem.W.Frag) (a : Addr) : It :=
  ⟨fun i H => ∃ (xs : List V) (x : V), k.Sq K H a xs ∧ xs[i]? = some x, fun i H v H' => ∃ T x, v = .ref T ∧ H T = none ∧ H' = upd H T (.tup [.int (i : Nat), x]) ∧ ∀ xs, k.Sq K H a xs → xs[i]? = some x, fun i H => ∃ xs : List V, k.Sq K H a xs ∧ xs.length = i⟩
theorem turn_en (k : SK) {P : Program} {w : World} {K : PySem.W.Frag} {elts : List Expr} {kk : Nat} {tpos : Pos} (a e it : Addr) (hne : e ≠ it) :
    Turn P w K (.Tuple elts kk tpos) (ItE k K a) [e, it] e (fun i h => (∃ old, IsEnum h e it ((i : Nat) : Int) old) ∧ k.It h it a i) where
  mem := by simp
  obj := fun i h st b hb => by
    obtain ⟨⟨old, he⟩, hi⟩ := st
    rcases (show b = e ∨ b = it by simpa using hb) with rfl | rfl
    · exact ⟨_, he, fun v q => nomatch q⟩
    · exact k.ob hi
  keep := fun i h h' st kp => let ⟨⟨old, he⟩, hi⟩ := st; ⟨⟨old, kp e (by simp) _ he⟩, k.at_ hi fun o q => kp it (by simp) o q⟩
  item := by
    intro X hP hw hK hc i pins s σ H E I hf st hg
    subst hP hw hK
    obtain ⟨⟨old, he⟩, hit⟩ := st
    obtain ⟨xs, x, hq, hx⟩ := hg
    obtain ⟨its, rv, p, hz⟩ := k.have_ I hq
    obtain ⟨u, hu, ru⟩ := rv.get hx
    have hel : e < s.heap.objs.size := Heap.lt_size he
    obtain ⟨oi, hoi, _⟩ := k.ob hit
    have hil : it < s.heap.objs.size := Heap.lt_size hoi
    have hai := k.ne hit p
    have hli : i < its.toArray.size := by
      have := (List.getElem?_eq_some_iff.mp hu).1
      simpa using this
    -- the record of enumerate is no sequence
    have hea : e ≠ a := fun z => by
      obtain ⟨o, n, e1, d1⟩ := k.sq p
      rw [← z, he] at e1; cases e1; cases d1
    refine wpAny_pyNext_enum_itemD (k.dr (A := X.A.in1) (I.ok.hd hc) it a hai its.toArray) he ⟨hit, p⟩ hli hne (by simp [hne, hea]) fun y h' tk hy ho hst hT hsz hk => ?_
    have eu : u = y := by
      have hy' : its.toArray[i]? = some y := hy
      rw [List.getElem?_toArray, hu] at hy'
      exact Option.some.inj hy'
    subst eu
    refine ⟨_, rfl, wpAny_letOwnedTupleGo_enum (s := { s with heap := h', toks := tk + 1 }) ho fun h'' he' sb => ?_⟩
    have hT2 : h''.get? s.heap.objs.size = some { cls := .type "tuple", data := .seq #[.int i tk, u] } := (sb.2 _ (Nat.ne_of_gt hel)).trans hT
    have new : ObjOk X.prog X.w (upd H s.heap.objs.size (.tup [.int (i : Nat), x])) h'' s.heap.objs.size (.tup [.int (i : Nat), x]) :=
      ⟨by show 2 ≤ sizeLine; decide, [.int i tk, u], .cons ⟨_, rfl⟩ (.cons ru .nil), ⟨_, hT2, rfl, _, rfl⟩⟩
    have I1 : Inv X pins σ (upd H s.heap.objs.size (.tup [.int (i : Nat), x])) { s with heap := h'', toks := tk + 1 } :=
      I.turnedNew (ch := [e, it]) (fun b ob hb q => (sb.2 b (fun z => hb (by simp [z]))).trans (hk b ob (fun z => hb (by simp [z])) (fun z => hb (by simp [z])) q)) hf (Nat.le_refl _) new
    have fresh : ∀ b ∈ [e, it], upd H s.heap.objs.size (.tup [.int (i : Nat), x]) b = none := fun b hb => by
      have hb' : b < s.heap.objs.size := by
        rcases (show b = e ∨ b = it by simpa using hb) with z | z <;> rw [z] <;> assumption
      rw [upd_ne (Nat.ne_of_lt hb')]
      exact (hf b hb).1
    refine ⟨.ref s.heap.objs.size, _, I1, rfl, ⟨_, x, rfl, I.hok.fresh (Nat.le_refl _), rfl, fun ys hy => by rw [k.inj I hy hq]; exact hx⟩, ⟨⟨u, ?_⟩, k.at_ hst.1 fun o q => (sb.2 it (Ne.symm hne)).trans q⟩, fresh⟩
    have e1 : ((i + 1 : Nat) : Int) = (i : Int) + 1 := by omega
    rw [e1]; exact he'
  done := by
    intro X hP hw hK hc i pins s σ H E I hf st hg
    subst hP hw hK
    obtain ⟨⟨old, he⟩, hit⟩ := st
    obtain ⟨xs, hq, hx⟩ := hg
    obtain ⟨its, rv, p, hz⟩ := k.have_ I hq
    obtain ⟨f0, f1, f2, f3, f4, f5⟩ := hf it (by simp)
    have hl := rv.length
    have hs : i = its.toArray.size := by rw [List.size_toArray]; omega
    subst hs
    exact wpAny_pyNext_enum_endD (k.dr (A := X.A.in1) (I.ok.hd hc) it a (k.ne hit p) its.toArray) he ⟨hit, p⟩ fun h' eb => ⟨rfl, I.turned (t' := s.toks) (fun b o hb q => eb b o hb q) f0 f1 f3 f4 f5⟩
  self := fun A i s Q E st h => let ⟨⟨_, he⟩, _⟩ := st; wpAny_pyIter_enum he h
section
variable {X : Cx} {E : EX} {e : Expr} {m : EM} {ms : AM} {K : PySem.W.Frag} {F : FS} {ι : List Addr} {S : Sto} {H : Hp} {p pos tpos : Pos} {elts : List Expr} {kk : Nat}
def iEn2 (k : SK) (K : PySem.W.Frag) (ta : TA) : TI := fun σ H R => ta σ H fun vs H1 => ∃ a xs, vs = [.ref a] ∧ k.Sq K H1 a xs ∧ R (ItE k K a) H1
theorem pi_en (k : SK) {ta : TA} (hg : Gl X "enumerate") (hm : X.mg "enumerate" = none) (ha : PA X [e] ta) (hs : starEach [e] X.env = [(false, eval e X.env)] := by rfl) :
    PI X (.Tuple elts kk tpos) (.Call (.Name "enumerate" p) [e] [] pos) (iEn2 k X.K ta) := by
  refine ⟨fun pins s σ H R I h => ?_⟩
  refine Call_ (ld_blt I hg hm boot_enumerate (PyProof.Rows.callWith_type1 (thn (ha.run pos pins s σ H _ I h) fun us s1 ⟨vs, H1, I1, r1, q1⟩ => ?_) hs rfl))
  obtain ⟨a, xs, rfl, hq, q⟩ := q1
  obtain ⟨u, rfl, ru⟩ := vals1 r1
  cases ru
  obtain ⟨its, rv, p', hz⟩ := k.have_ I1 hq
  refine call_enum (k.bg a its.toArray) p' fun h' he hit hsz hk => wpAny_pyIter_enum he ?_
  have I2 : Inv X pins σ H1 { s1 with heap := h' } := I1.kept (t' := s1.toks) hk
  refine ⟨s1.heap.objs.size + 1, [s1.heap.objs.size + 1, s1.heap.objs.size], _, _, H1, rfl, I2, turn_en k a (s1.heap.objs.size + 1) s1.heap.objs.size (Nat.succ_ne_self _), ⟨⟨.none, he⟩, k.st0 hit⟩, fun b hb => ?_, q⟩
  have hle : s1.heap.objs.size ≤ b := by
    rcases (show b = s1.heap.objs.size + 1 ∨ b = s1.heap.objs.size by simpa using hb) with z | z
    · rw [z]; exact Nat.le_add_right _ _
    · rw [z]; exact Nat.le_refl _
  exact I1.fpOk hle (I1.hok.fresh hle)
/-- the pairs of places and items -/
def enumW (ws : List W) : List W := (List.range ws.length).zipWith (fun (i : Nat) w => mkTup [.d (.int (i : Int)), w]) ws
theorem enumW_get {ws : List W} {i : Nat} {w : W} (e : (enumW ws)[i]? = some w) : ∃ u, ws[i]? = some u ∧ w = mkTup [.d (.int (i : Int)), u] := by
  unfold enumW at e
  rw [List.getElem?_zipWith] at e
  by_cases hi : i < ws.length
  · rw [List.getElem?_range hi, List.getElem?_eq_getElem hi] at e
    simp at e
    exact ⟨_, List.getElem?_eq_getElem hi, e.symm⟩
  · rw [List.getElem?_eq_none (by omega : ws.length ≤ i)] at e
    cases q : (List.range ws.length)[i]? <;> simp [q] at e
theorem it_en {k : SK} {ws : List W} {a : Addr} (st : ∀ F' ι' H', Wk F ι H F' ι' H' → ∃ vs, k.Sq K H' a vs ∧ RWs K F' ι' H' ws vs) : IterOk K (ItE k K a) F ι H ⟨enumW ws, fun _ => True⟩ := by
  intro i F' ι' S' H' x R g
  obtain ⟨vs, q, rr⟩ := st F' ι' H' x
  have hl : (enumW ws).length = ws.length := by unfold enumW; simp
  refine ⟨fun e => ⟨vs, q, by rw [← rr.length, ← hl]; exact e.symm⟩, fun w e => ?_⟩
  obtain ⟨u, e1, rfl⟩ := enumW_get e
  obtain ⟨v, ev, rv⟩ := rr.get' e1
  refine ⟨⟨vs, v, q, ev⟩, fun y H'' hy => ?_⟩
  obtain ⟨T, z, rfl, n, rfl, hz⟩ := hy
  have := hz vs q
  rw [ev] at this; cases this
  obtain ⟨x1, R1, r1⟩ := new_tup R n (.cons (.d (.int (i : Int))) (.cons rv .nil)) (by show 2 ≤ sizeLine; decide)
  exact ⟨_, x1, R1, r1⟩
/-- what may be walked as a list; as a tuple -/
def iEnL (ms : AM) : IM := fun ρ S => (ms ρ S).bind fun ws S1 => match ws with
  | [.d (.list xs)] => .ok ⟨enumW (xs.map .d), fun _ => True⟩ S1
  | [.fl xs] => .ok ⟨enumW (xs.map .d), fun _ => True⟩ S1
  | _ => .bad
def iEnT (ms : AM) : IM := fun ρ S => (ms ρ S).bind fun ws S1 => match ws with
  | [w] => match tupOf w with
    | some us => .ok ⟨enumW us, fun _ => True⟩ S1
    | none => .bad
  | _ => .bad
theorem PI.or {tg it : Expr} {t t' : TI} (h : PI X tg it t) (h' : PI X tg it t') : PI X tg it (fun σ H R => t σ H R ∨ t' σ H R) := ⟨fun pins s σ H R I q => by
  rcases q with q | q
  · exact h.run pins s σ H R I q
  · exact h'.run pins s σ H R I q⟩
theorem si_enL (hm : X.mg "enumerate" = none) (ha : SA X E [e] ms) (hg : Gl X "enumerate" := by rfl) (hs : starEach [e] X.env = [(false, eval e X.env)] := by rfl) : SI X E (.Tuple elts kk tpos) (.Call (.Name "enumerate" p) [e] [] pos) (iEnL ms) := by
  refine PI.le (pi_en skL hg hm ha hs) fun σ H R h => ?_
  obtain ⟨F, ι, S, ρ, Rl, rs, h⟩ := h
  refine ⟨F, ι, S, ρ, Rl, rs, h.bind.imp fun F1 ι1 H1 ws S1 x1 R1 h vs r => ?_⟩
  split at h
  · obtain ⟨v, rfl, r'⟩ := r.one
    obtain ⟨a, us, rfl, st, rr⟩ := r'.lst_of
    exact ⟨a, us, rfl, st.now, h.ok R1 _ (it_en fun F' ι' H' x => ⟨us, (st.wk x).now, (RWs.ofD (ι := ι1) rr).wk x⟩)⟩
  · obtain ⟨v, rfl, r'⟩ := r.one
    obtain ⟨a, us, rfl, st, rr⟩ := r'.fl_of
    exact ⟨a, us, rfl, st.now, h.ok R1 _ (it_en fun F' ι' H' x => ⟨us, (st.wk x).now, (RWs.ofD (ι := ι1) rr).wk x⟩)⟩
  · exact h.elim
theorem si_enT (hm : X.mg "enumerate" = none) (ha : SA X E [e] ms) (hg : Gl X "enumerate" := by rfl) (hs : starEach [e] X.env = [(false, eval e X.env)] := by rfl) : SI X E (.Tuple elts kk tpos) (.Call (.Name "enumerate" p) [e] [] pos) (iEnT ms) := by
  refine PI.le (pi_en skT hg hm ha hs) fun σ H R h => ?_
  obtain ⟨F, ι, S, ρ, Rl, rs, h⟩ := h
  refine ⟨F, ι, S, ρ, Rl, rs, h.bind.imp fun F1 ι1 H1 ws S1 x1 R1 h vs r => ?_⟩
  split at h
  · split at h
    · rename_i q
      obtain ⟨v, rfl, r'⟩ := r.one
      obtain ⟨a, us, rfl, st, rr⟩ := r'.tup_of q
      exact ⟨a, us, rfl, st.now, h.ok R1 _ (it_en fun F' ι' H' x => ⟨us, (st.wk x).now, rr.wk x⟩)⟩
    · exact h.elim
  · exact h.elim
end
end Sh
end

section
/-! Sh: zip of a list or a tuple with a list or a tuple: the kind of each is a parameter. -/
namespace Sh
open PySem PySem.Spec PyProof.Rows L2
def gIt : Bool → Heap → Addr → Addr → Nat → Prop
  | true => fun h it l k => h.IsTupleIter it l k
  | false => fun h it l k => h.IsListIter it l k
def gSq : Bool → Heap → Addr → Array Value → Prop
  | true => fun h l xs => h.IsTuple l xs
  | false => fun h l xs => h.IsList l xs
def SqG (K : PySem.W.Frag) : Bool → Hp → Addr → List V → Prop
  | true => fun H a xs => SqT K H a xs
  | false => fun H a xs => SqL K H a xs
section
variable {prog : Program} {w : World} {A : Around} {E : Value → Shared → Prop} {s : Shared} {t t1 t2 : Bool} {h h' : Heap} {it l c : Addr} {k : Nat} {xs ys : Array Value}
theorem gIt.ext (q : gIt t h it l k) (x : Heap.ExtBut c h h') (n : it ≠ c) : gIt t h' it l k := by cases t <;> exact q.extBut x n
theorem gSq.ext (q : gSq t h l xs) (x : Heap.ExtBut c h h') (n : l ≠ c) : gSq t h' l xs := by cases t <;> exact q.extBut x n
theorem gIt.at (q : gIt t h it l k) (x : ∀ o, h.get? it = some o → h'.get? it = some o) : gIt t h' it l k := by cases t <;> exact q.at x
theorem gIt.obj (q : gIt t h it l k) : ∃ o, h.get? it = some o ∧ ∀ v, o.data ≠ .cell v := by
  cases t <;> obtain ⟨o, e, _, d⟩ := q <;> exact ⟨o, e, fun v q => by rw [d] at q; cases q⟩
theorem gIt.lt (q : gIt t h it l k) : it < h.objs.size := by obtain ⟨o, e, _⟩ := q.obj; exact Heap.lt_size e
theorem gSq.lt (q : gSq t h l xs) : l < h.objs.size := by
  cases t <;> obtain ⟨o, e, _⟩ := q <;> exact Heap.lt_size e
theorem g_next {x : Value} {Q : Value → Shared → Prop} (hit : gIt t s.heap it l k) (hl : gSq t s.heap l xs) (hx : xs[k]? = some x) (hQ : ∀ h', gIt t h' it l (k + 1) → Heap.SameBut it s.heap h' → Q x { s with heap := h' }) :
    wpAny (model prog w) A (Builtin.SmallTypes.nextOf (.ref it)) Q E s := by
  cases t
  · exact wpAny_nextOf_list_item hit hl hx hQ
  · exact RZ.nextOf_tuple_item hit hl hx hQ
theorem g_stop {Q : Value → Shared → Prop} (hh : A.handled = none) (hit : gIt t s.heap it l k) (hl : gSq t s.heap l xs) (hx : xs[k]? = none)
    (hE : ∀ h' e, Heap.ExtBut it s.heap h' → (∃ o, h'.get? e = some o ∧ o.cls = .type "StopIteration") → E (.ref e) { s with heap := h' }) : wpAny (model prog w) A (Builtin.SmallTypes.nextOf (.ref it)) Q E s := by
  cases t
  · exact wpAny_nextOf_list_end hh hit hl hx hE
  · exact RZ.nextOf_tuple_end hh hit hl hx hE
variable {z TI TO i1 i2 l1 l2 : Addr} {k1 k2 : Nat} {x y a b : Value}
/-- what is kept beside the zip, its tuple, its iterators -/
def Beside (z TO i1 i2 : Addr) (h h' : Heap) : Prop := ∀ c o, c ≠ z → c ≠ TO → c ≠ i1 → c ≠ i2 → h.get? c = some o → h'.get? c = some o
theorem zipG_item {Q : Value → Shared → Prop} (D : ZipApart z TI TO i1 i2 l1 l2) (hz : IsZip s.heap z TI TO .none) (hTI : IsPair s.heap TI (.ref i1) (.ref i2)) (hTO : IsPair s.heap TO a b)
    (h1 : gIt t1 s.heap i1 l1 k1) (h2 : gIt t2 s.heap i2 l2 k2) (hl1 : gSq t1 s.heap l1 xs) (hl2 : gSq t2 s.heap l2 ys) (hx : xs[k1]? = some x) (hy : ys[k2]? = some y)
    (hQ : ∀ h', IsZip h' z TI TO (rawInt s.heap.objs.size) → IsPair h' TO x y → gIt t1 h' i1 l1 (k1 + 1) → gIt t2 h' i2 l2 (k2 + 1) → IsPair h' s.heap.objs.size x y → Beside z TO i1 i2 s.heap h' → Q (.ref s.heap.objs.size) { s with heap := h' }) :
    wpAny (model prog w) A (Builtin.«zip.__next__» ⟨[.ref z], []⟩) (fun fin s' => ∃ v, fin = .done (.ret v) ∧ Q v s') E s := by
  show wpAny _ _ (field (.ref z) 2 >>= _) _ _ _
  refine wpAny_bind (wpAny_field hz rfl (x := .bool false) rfl ?_)
  show wpAny _ _ (field (.ref z) 3 >>= _) _ _ _
  refine wpAny_bind (wpAny_field hz rfl (x := .ref TI) rfl ?_)
  refine wpAny_bind (wpAny_seqItems hTI rfl ?_)
  show wpAny _ _ (Builtin.SmallTypes.ownedTupleIsFree (.ref z) >>= _) _ _ _
  refine wpAny_bind ?_
  unfold Builtin.SmallTypes.ownedTupleIsFree
  refine wpAny_bind (wpAny_field hz rfl (x := .none) rfl (wpAny_pure ?_))
  simp only [if_true]
  refine wpAny_bind (wpAny_rule (wpAny_bind (wpAny_field hz rfl (x := .ref TO) rfl (wpAny_bind (wpAny_setField_rec hz (by simp) fun ha za sa => ?_)))))
  replace za : IsZip ha z TI TO .ellipsis := za
  refine wpAny_bind ?_
  simp only [List.zipIdx_cons, List.zipIdx_nil, List.forIn_cons, List.forIn_nil]
  -- the first iterator
  refine wpAny_bind (wpAny_bind (wpAny_onRaise ?_))
  show wpAny _ _ (Builtin.SmallTypes.nextOf (.ref i1) >>= _) _ _ _
  refine wpAny_bind (g_next (h1.ext sa.extBut D.i1z) (hl1.ext sa.extBut D.l1z) hx fun hb ib sb => wpAny_pure ?_)
  have pb : IsPair hb TO a b := sb.extBut _ _ D.TOi1 (sa.extBut _ _ D.TOz hTO)
  refine wpAny_bind (wpAny_seqItems pb rfl (wpAny_bind (wpAny_updateSeq_pair pb fun hc pc sc => ?_)))
  replace pc : IsPair hc TO x b := pc
  refine wpAny_bind (wpAny_letGo (wpAny_pure ?_))
  -- the second one
  refine wpAny_bind (wpAny_bind (wpAny_onRaise ?_))
  show wpAny _ _ (Builtin.SmallTypes.nextOf (.ref i2) >>= _) _ _ _
  refine wpAny_bind (g_next (((h2.ext sa.extBut D.i2z).ext sb.extBut D.i12.symm).ext sc.extBut D.TOi2.symm) (((hl2.ext sa.extBut D.l2z).ext sb.extBut D.l2i1).ext sc.extBut D.l2TO) hy fun hd jd sd => wpAny_pure ?_)
  have pd : IsPair hd TO x b := sd.extBut _ _ D.TOi2 pc
  refine wpAny_bind (wpAny_seqItems pd rfl (wpAny_bind (wpAny_updateSeq_pair pd fun he pe se => ?_)))
  replace pe : IsPair he TO x y := pe
  refine wpAny_bind (wpAny_letGo (wpAny_pure (wpAny_pure ?_)))
  -- the pair is handed out
  refine wpAny_bind (wpAny_seqItems pe rfl (wpAny_bind (wpAny_newTuple ?_)))
  have hsz : he.objs.size = s.heap.objs.size := by rw [se.1, sd.1, sc.1, sb.1, sa.1]
  have ze : IsZip he z TI TO .ellipsis := se.extBut _ _ D.TOz.symm (sd.extBut _ _ D.i2z.symm (sc.extBut _ _ D.TOz.symm (sb.extBut _ _ D.i1z.symm za)))
  have ke : Beside z TO i1 i2 s.heap he := fun c o c1 c2 c3 c4 e => se.extBut _ _ c2 (sd.extBut _ _ c4 (sc.extBut _ _ c2 (sb.extBut _ _ c3 (sa.extBut _ _ c1 e))))
  have ie : gIt t1 he i1 l1 (k1 + 1) := ((ib.ext sc.extBut D.TOi1.symm).ext sd.extBut D.i12).ext se.extBut D.TOi1.symm
  have je : gIt t2 he i2 l2 (k2 + 1) := jd.ext se.extBut D.TOi2.symm
  have zlt : z < he.objs.size := Heap.lt_size ze
  show wpAny _ _ (Builtin.SmallTypes.ownedTupleHandOut (.ref z) (.ref he.objs.size) >>= _) _ _ _
  refine wpAny_bind ?_
  unfold Builtin.SmallTypes.ownedTupleHandOut
  have zf : IsZip (he.push { cls := .type "tuple", data := .seq #[x, y] }) z TI TO .ellipsis := Heap.get?_push_of_some _ ze
  refine wpAny_bind (wpAny_setField_rec zf (by simp) fun hg zg sg => ?_)
  replace zg : IsZip hg z TI TO (rawInt he.objs.size) := zg
  refine wpAny_setField_rec zg (by simp) fun hh zh sh => ?_
  replace zh : IsZip hh z TI TO (rawInt he.objs.size) := zh
  have up : ∀ c o, c ≠ z → he.get? c = some o → hh.get? c = some o := fun c o c1 e => sh.extBut _ _ c1 (sg.extBut _ _ c1 (Heap.get?_push_of_some _ e))
  have ph : IsPair hh he.objs.size x y := sh.extBut _ _ (Nat.ne_of_gt zlt) (sg.extBut _ _ (Nat.ne_of_gt zlt) (Heap.get?_push_size _ rfl))
  rw [hsz] at zh ph
  refine wpAny_pure ⟨_, rfl, ?_⟩
  show Q (.ref he.objs.size) _
  rw [hsz]
  exact hQ hh zh (up _ _ D.TOz pe) (ie.at fun o e => up _ o D.i1z e) (je.at fun o e => up _ o D.i2z e) ph fun c o c1 c2 c3 c4 e => up c o c1 (ke c o c1 c2 c3 c4 e)
theorem zipG_end {Q : Fin → Shared → Prop} (hh : A.handled = none) (D : ZipApart z TI TO i1 i2 l1 l2) (hz : IsZip s.heap z TI TO .none) (hTI : IsPair s.heap TI (.ref i1) (.ref i2)) (hTO : IsPair s.heap TO a b)
    (h1 : gIt t1 s.heap i1 l1 k1) (h2 : gIt t2 s.heap i2 l2 k2) (hl1 : gSq t1 s.heap l1 xs) (hl2 : gSq t2 s.heap l2 ys) (hend : xs[k1]? = none ∨ ys[k2]? = none)
    (hE : ∀ h' e, Beside z TO i1 i2 s.heap h' → (∃ o, h'.get? e = some o ∧ o.cls = .type "StopIteration") → E (.ref e) { s with heap := h' }) :
    wpAny (model prog w) A (Builtin.«zip.__next__» ⟨[.ref z], []⟩) Q E s := by
  show wpAny _ _ (field (.ref z) 2 >>= _) _ _ _
  refine wpAny_bind (wpAny_field hz rfl (x := .bool false) rfl ?_)
  show wpAny _ _ (field (.ref z) 3 >>= _) _ _ _
  refine wpAny_bind (wpAny_field hz rfl (x := .ref TI) rfl ?_)
  refine wpAny_bind (wpAny_seqItems hTI rfl ?_)
  show wpAny _ _ (Builtin.SmallTypes.ownedTupleIsFree (.ref z) >>= _) _ _ _
  refine wpAny_bind ?_
  unfold Builtin.SmallTypes.ownedTupleIsFree
  refine wpAny_bind (wpAny_field hz rfl (x := .none) rfl (wpAny_pure ?_))
  simp only [if_true]
  refine wpAny_bind (wpAny_rule (wpAny_bind (wpAny_field hz rfl (x := .ref TO) rfl (wpAny_bind (wpAny_setField_rec hz (by simp) fun ha za sa => ?_)))))
  replace za : IsZip ha z TI TO .ellipsis := za
  refine wpAny_bind ?_
  simp only [List.zipIdx_cons, List.zipIdx_nil, List.forIn_cons, List.forIn_nil]
  refine wpAny_bind (wpAny_bind (wpAny_onRaise ?_))
  show wpAny _ _ (Builtin.SmallTypes.nextOf (.ref i1) >>= _) _ _ _
  have stop : ∀ {h2 : Heap} {e : Addr}, IsZip h2 z TI TO .ellipsis → (∃ o, h2.get? e = some o ∧ o.cls = .type "StopIteration") → e ≠ z := fun zz he eq => by
    obtain ⟨o, ho, hc⟩ := he
    subst eq; rw [zz] at ho; cases ho; simp at hc
  cases hx : xs[k1]? with
  | none =>
    refine wpAny_bind (g_stop hh (h1.ext sa.extBut D.i1z) (hl1.ext sa.extBut D.l1z) hx fun hb e sb se => ?_)
    have zb : IsZip hb z TI TO .ellipsis := sb _ _ D.i1z.symm za
    have ne := stop zb se
    obtain ⟨o, ho, hc⟩ := se
    exact wpAny_setField_rec zb (by simp) fun hc' _ sc => hE hc' e (fun c o c1 _ c3 _ q => sc.extBut _ _ c1 (sb _ _ c3 (sa.extBut _ _ c1 q))) ⟨o, sc.extBut _ _ ne ho, hc⟩
  | some x =>
    have hy : ys[k2]? = none := by rcases hend with q | q; rw [hx] at q; cases q; exact q
    refine wpAny_bind (g_next (h1.ext sa.extBut D.i1z) (hl1.ext sa.extBut D.l1z) hx fun hb ib sb => wpAny_pure ?_)
    have pb : IsPair hb TO a b := sb.extBut _ _ D.TOi1 (sa.extBut _ _ D.TOz hTO)
    refine wpAny_bind (wpAny_seqItems pb rfl (wpAny_bind (wpAny_updateSeq_pair pb fun hc pc sc => ?_)))
    refine wpAny_bind (wpAny_letGo (wpAny_pure ?_))
    refine wpAny_bind (wpAny_bind (wpAny_onRaise ?_))
    show wpAny _ _ (Builtin.SmallTypes.nextOf (.ref i2) >>= _) _ _ _
    refine wpAny_bind (g_stop hh (((h2.ext sa.extBut D.i2z).ext sb.extBut D.i12.symm).ext sc.extBut D.TOi2.symm) (((hl2.ext sa.extBut D.l2z).ext sb.extBut D.l2i1).ext sc.extBut D.l2TO) hy fun hd e sd se => ?_)
    have zd : IsZip hd z TI TO .ellipsis := sd _ _ D.i2z.symm (sc.extBut _ _ D.TOz.symm (sb.extBut _ _ D.i1z.symm za))
    have ne := stop zd se
    obtain ⟨o, ho, hc'⟩ := se
    exact wpAny_setField_rec zd (by simp) fun he _ se => hE he e (fun c o c1 c2 c3 c4 q => se.extBut _ _ c1 (sd _ _ c4 (sc.extBut _ _ c2 (sb.extBut _ _ c3 (sa.extBut _ _ c1 q))))) ⟨o, se.extBut _ _ ne ho, hc'⟩
end

def itNm : Bool → String
  | true => "tuple_iterator"
  | false => "list_iterator"
def zH1 (t1 : Bool) (h : Heap) (l1 : Addr) : Heap := h.push { cls := .type (itNm t1), data := .fields #[.ref l1, .int 0 0] }
def zH2 (t1 t2 : Bool) (h : Heap) (l1 l2 : Addr) : Heap := (zH1 t1 h l1).push { cls := .type (itNm t2), data := .fields #[.ref l2, .int 0 0] }
def zH3 (t1 t2 : Bool) (h : Heap) (l1 l2 : Addr) : Heap := (zH2 t1 t2 h l1 l2).push { cls := .type "tuple", data := .seq #[.ref h.objs.size, .ref (zH1 t1 h l1).objs.size] }
def zH4 (t1 t2 : Bool) (h : Heap) (l1 l2 : Addr) : Heap := (zH3 t1 t2 h l1 l2).push { cls := .type "tuple", data := .seq #[.none, .none] }
def zH5 (t1 t2 : Bool) (h : Heap) (l1 l2 : Addr) : Heap := (zH4 t1 t2 h l1 l2).push { cls := .type "zip", data := .fields #[.none, .bool false, .bool false, .ref (zH2 t1 t2 h l1 l2).objs.size, .ref (zH3 t1 t2 h l1 l2).objs.size] }
theorem zipG_TL (l1 l2 : Addr) (xs ys : Array Value) : Meets (Builtin.«zip.__new__» ⟨[.type "zip", .ref l1, .ref l2], []⟩) (fun _ R s => s.heap.IsTuple l1 xs ∧ s.heap.IsList l2 ys ∧
      R (.ok (.ret (.ref (zH4 true false s.heap l1 l2).objs.size))) { s with heap := zH5 true false s.heap l1 l2 }) :=
  .of_wp fun prog w A R s h => by
    obtain ⟨hp, g, d, tk, os⟩ := s; obtain ⟨hl1, hl2, h⟩ := h
    have hsub := sub_zip
    have hL1 : Heap.IsTuple (Shared.heap ⟨hp, g, d, tk, os⟩) l1 xs := hl1
    have hL2 : Heap.IsList (Shared.heap ⟨hp.push { cls := .type "tuple_iterator", data := .fields #[.ref l1, .int 0 0] }, g, d, tk, os⟩) l2 ys := Heap.IsList.push hl2 _
    wp_walk using wpAny_pyIter_tuple hL1, wpAny_pyIter_list hL2
    exact ⟨_, rfl, h⟩
theorem zipG_LT (l1 l2 : Addr) (xs ys : Array Value) : Meets (Builtin.«zip.__new__» ⟨[.type "zip", .ref l1, .ref l2], []⟩) (fun _ R s => s.heap.IsList l1 xs ∧ s.heap.IsTuple l2 ys ∧
      R (.ok (.ret (.ref (zH4 false true s.heap l1 l2).objs.size))) { s with heap := zH5 false true s.heap l1 l2 }) :=
  .of_wp fun prog w A R s h => by
    obtain ⟨hp, g, d, tk, os⟩ := s; obtain ⟨hl1, hl2, h⟩ := h
    have hsub := sub_zip
    have hL1 : Heap.IsList (Shared.heap ⟨hp, g, d, tk, os⟩) l1 xs := hl1
    have hL2 : Heap.IsTuple (Shared.heap ⟨hp.push { cls := .type "list_iterator", data := .fields #[.ref l1, .int 0 0] }, g, d, tk, os⟩) l2 ys := Heap.IsTuple.push hl2 _
    wp_walk using wpAny_pyIter_list hL1, wpAny_pyIter_tuple hL2
    exact ⟨_, rfl, h⟩
theorem zipG_new (t1 t2 : Bool) (l1 l2 : Addr) (xs ys : Array Value) : Meets (Builtin.«zip.__new__» ⟨[.type "zip", .ref l1, .ref l2], []⟩) (fun _ R s => gSq t1 s.heap l1 xs ∧ gSq t2 s.heap l2 ys ∧
      R (.ok (.ret (.ref (zH4 t1 t2 s.heap l1 l2).objs.size))) { s with heap := zH5 t1 t2 s.heap l1 l2 }) := by
  cases t1 <;> cases t2
  · exact meets_zip_new l1 l2 xs ys
  · exact zipG_LT l1 l2 xs ys
  · exact zipG_TL l1 l2 xs ys
  · exact RZ.meets_zipT_new l1 l2 xs ys
theorem gIt_of {t : Bool} {h : Heap} {c l : Addr} (e : h.get? c = some { cls := .type (itNm t), data := .fields #[.ref l, .int 0 0] }) : gIt t h c l 0 := by
  cases t <;> exact ⟨_, e, rfl, rfl⟩
section
variable {prog : Program} {w : World} {A : Around} {E : Value → Shared → Prop} {s : Shared} {t1 t2 : Bool}
theorem call_zipG {l1 l2 : Addr} {xs ys : Array Value} {Q : Value → Shared → Prop} (hl1 : gSq t1 s.heap l1 xs) (hl2 : gSq t2 s.heap l2 ys)
    (h : ∀ h', IsZip h' (s.heap.objs.size + 4) (s.heap.objs.size + 2) (s.heap.objs.size + 3) .none → IsPair h' (s.heap.objs.size + 2) (.ref s.heap.objs.size) (.ref (s.heap.objs.size + 1)) →
      IsPair h' (s.heap.objs.size + 3) .none .none → gIt t1 h' s.heap.objs.size l1 0 → gIt t2 h' (s.heap.objs.size + 1) l2 0 →
      (∀ c o, s.heap.get? c = some o → h'.get? c = some o) → Q (.ref (s.heap.objs.size + 4)) { s with heap := h' }) :
    wpAny (model prog w) A (call (.type "zip") [.ref l1, .ref l2]) Q E s := by
  refine callType_new F.called_zip (by decide) (F.typeCall_zip_2 _ _) (F.newCall_zip_2 _ _) (fun obj => F.args_object_init_3 obj _ _) F.entry_zip_new (zipG_new t1 t2 l1 l2 xs ys) ⟨hl1, hl2, ?_⟩
  have z1 : (zH1 t1 s.heap l1).objs.size = s.heap.objs.size + 1 := Heap.size_push ..
  have z2 : (zH2 t1 t2 s.heap l1 l2).objs.size = s.heap.objs.size + 2 := by rw [zH2, Heap.size_push, z1]
  have z3 : (zH3 t1 t2 s.heap l1 l2).objs.size = s.heap.objs.size + 3 := by rw [zH3, Heap.size_push, z2]
  have z4 : (zH4 t1 t2 s.heap l1 l2).objs.size = s.heap.objs.size + 4 := by rw [zH4, Heap.size_push, z3]
  have up1 : ∀ c o, s.heap.get? c = some o → (zH1 t1 s.heap l1).get? c = some o := fun c o q => Heap.get?_push_of_some _ q
  have up2 : ∀ c o, (zH1 t1 s.heap l1).get? c = some o → (zH2 t1 t2 s.heap l1 l2).get? c = some o := fun c o q => Heap.get?_push_of_some _ q
  have up3 : ∀ c o, (zH2 t1 t2 s.heap l1 l2).get? c = some o → (zH3 t1 t2 s.heap l1 l2).get? c = some o := fun c o q => Heap.get?_push_of_some _ q
  have up4 : ∀ c o, (zH3 t1 t2 s.heap l1 l2).get? c = some o → (zH4 t1 t2 s.heap l1 l2).get? c = some o := fun c o q => Heap.get?_push_of_some _ q
  have up5 : ∀ c o, (zH4 t1 t2 s.heap l1 l2).get? c = some o → (zH5 t1 t2 s.heap l1 l2).get? c = some o := fun c o q => Heap.get?_push_of_some _ q
  have g5 : (zH5 t1 t2 s.heap l1 l2).get? (zH4 t1 t2 s.heap l1 l2).objs.size = some _ := Heap.get?_push_size _ rfl
  have g4 : (zH5 t1 t2 s.heap l1 l2).get? (zH3 t1 t2 s.heap l1 l2).objs.size = some _ := up5 _ _ (Heap.get?_push_size _ rfl)
  have g3 : (zH5 t1 t2 s.heap l1 l2).get? (zH2 t1 t2 s.heap l1 l2).objs.size = some _ := up5 _ _ (up4 _ _ (Heap.get?_push_size _ rfl))
  have g2 : (zH5 t1 t2 s.heap l1 l2).get? (zH1 t1 s.heap l1).objs.size = some _ := up5 _ _ (up4 _ _ (up3 _ _ (Heap.get?_push_size _ rfl)))
  have g1 : (zH5 t1 t2 s.heap l1 l2).get? s.heap.objs.size = some _ := up5 _ _ (up4 _ _ (up3 _ _ (up2 _ _ (Heap.get?_push_size _ rfl))))
  show _ ∧ _
  rw [z2, z3, z4] at g5
  rw [z1, z2] at g3
  rw [z3] at g4
  rw [z1] at g2
  rw [z4]
  exact ⟨⟨_, g5, rfl⟩, h _ g5 g3 g4 (gIt_of g1) (gIt_of g2) fun c o x => up5 _ _ (up4 _ _ (up3 _ _ (up2 _ _ (up1 _ _ x))))⟩
theorem next_zipG {z TI TO i1 i2 l1 l2 : Addr} {k1 k2 : Nat} {xs ys : Array Value} {x y a b : Value} {Q : Option Value → Shared → Prop} (D : ZipApart z TI TO i1 i2 l1 l2) (hz : IsZip s.heap z TI TO .none) (hTI : IsPair s.heap TI (.ref i1) (.ref i2)) (hTO : IsPair s.heap TO a b)
    (h1 : gIt t1 s.heap i1 l1 k1) (h2 : gIt t2 s.heap i2 l2 k2) (hl1 : gSq t1 s.heap l1 xs) (hl2 : gSq t2 s.heap l2 ys) (hx : xs[k1]? = some x) (hy : ys[k2]? = some y)
    (hQ : ∀ h', IsZip h' z TI TO (rawInt s.heap.objs.size) → IsPair h' TO x y → gIt t1 h' i1 l1 (k1 + 1) → gIt t2 h' i2 l2 (k2 + 1) → IsPair h' s.heap.objs.size x y → Beside z TO i1 i2 s.heap h' → Q (some (.ref s.heap.objs.size)) { s with heap := h' }) :
    wpAny (model prog w) A (pyNext (.ref z)) Q E s := by
  have hT : s.TypeIs (.ref z) "zip" := ⟨_, hz, rfl⟩
  unfold pyNext
  exact wpAny_bind (wpAny_attempt (wpAny_callSpecial?_slot (name := Str.ofString "__next__") hT F.slot_zip_next
    (wpAny_call_entry F.slot_zip_next hT F.entry_zip_next (zipG_item D hz hTI hTO h1 h2 hl1 hl2 hx hy fun h' a1 a2 a3 a4 a5 a6 => wpAny_pure (hQ h' a1 a2 a3 a4 a5 a6)) (F.args_zip_next_1 _))))
theorem stop_zipG {z TI TO i1 i2 l1 l2 : Addr} {k1 k2 : Nat} {xs ys : Array Value} {a b : Value} {Q : Option Value → Shared → Prop} (hh : A.handled = none) (D : ZipApart z TI TO i1 i2 l1 l2) (hz : IsZip s.heap z TI TO .none) (hTI : IsPair s.heap TI (.ref i1) (.ref i2)) (hTO : IsPair s.heap TO a b)
    (h1 : gIt t1 s.heap i1 l1 k1) (h2 : gIt t2 s.heap i2 l2 k2) (hl1 : gSq t1 s.heap l1 xs) (hl2 : gSq t2 s.heap l2 ys) (hend : xs[k1]? = none ∨ ys[k2]? = none)
    (hQ : ∀ h', Beside z TO i1 i2 s.heap h' → Q none { s with heap := h' }) : wpAny (model prog w) A (pyNext (.ref z)) Q E s := by
  have hT : s.TypeIs (.ref z) "zip" := ⟨_, hz, rfl⟩
  unfold pyNext
  refine wpAny_bind (wpAny_attempt (wpAny_callSpecial?_slot (name := Str.ofString "__next__") hT F.slot_zip_next
    (wpAny_call_entry F.slot_zip_next hT F.entry_zip_next (zipG_end hh D hz hTI hTO h1 h2 hl1 hl2 hend fun h' e hk he => ?_) (F.args_zip_next_1 _))))
  obtain ⟨o, ho, hc⟩ := he
  refine wpAny_bind (wpAny_isInstance (T := "StopIteration") (b := true) ⟨o, ho, hc⟩ isSubtype_stop ?_)
  exact wpAny_pure (hQ _ hk)
end
theorem inv_seqG {X : Cx} {pins : List (Addr × Obj)} {σ : L2.St} {H : Hp} {s : Shared} {t : Bool} {a : Addr} {xs : List V} (I : L2.Inv X pins σ H s) (h : SqG X.K t H a xs) : ∃ its : List Value, L2.Vals xs its ∧ gSq t s.heap a its.toArray := by
  cases t
  · obtain ⟨its, r, p, _⟩ := I.list h; exact ⟨its, r, p.isList⟩
  · obtain ⟨its, r, p, _⟩ := I.tuple h; exact ⟨its, r, p⟩
theorem inv_injG {X : Cx} {pins : List (Addr × Obj)} {σ : L2.St} {H : Hp} {s : Shared} {t : Bool} {a : Addr} {xs ys : List V} (I : L2.Inv X pins σ H s) (h : SqG X.K t H a xs) (h' : SqG X.K t H a ys) : xs = ys := by
  cases t
  · exact I.list_inj h h'
  · exact I.tuple_inj h h'
/-- the two as they stand at each turn, the items in new pairs -/
def ItzG (K : PySem.W.Frag) (t1 t2 : Bool) (a b : Addr) : It :=
  ⟨fun i H => ∃ (xs ys : List V) (x y : V), SqG K t1 H a xs ∧ SqG K t2 H b ys ∧ xs[i]? = some x ∧ ys[i]? = some y,
    fun i H v H' => ∃ T x y, v = .ref T ∧ H T = none ∧ H' = upd H T (.tup [x, y]) ∧ (∀ xs, SqG K t1 H a xs → xs[i]? = some x) ∧ ∀ ys, SqG K t2 H b ys → ys[i]? = some y,
    fun i H => ∃ xs ys : List V, SqG K t1 H a xs ∧ SqG K t2 H b ys ∧ (xs.length ≤ i ∨ ys.length ≤ i)⟩
theorem turn_zipG {P : Program} {w : World} {K : PySem.W.Frag} {elts : List Expr} {kk : Nat} {tpos : Pos} {t1 t2 : Bool} {a b z TI TO i1 i2 : Addr} (D : ZipApart z TI TO i1 i2 a b) :
    Turn P w K (.Tuple elts kk tpos) (ItzG K t1 t2 a b) [z, TI, TO, i1, i2] z (fun i h => IsZip h z TI TO .none ∧ IsPair h TI (.ref i1) (.ref i2) ∧ (∃ x y, IsPair h TO x y) ∧ gIt t1 h i1 a i ∧ gIt t2 h i2 b i) where
  mem := by simp
  obj := fun i h st c hc => by
    obtain ⟨hz, hTI, ⟨x, y, hTO⟩, q1, q2⟩ := st
    simp only [List.mem_cons, List.not_mem_nil, or_false] at hc
    rcases hc with rfl | rfl | rfl | rfl | rfl
    · exact ⟨_, hz, fun v q => nomatch q⟩
    · exact ⟨_, hTI, fun v q => nomatch q⟩
    · exact ⟨_, hTO, fun v q => nomatch q⟩
    · exact q1.obj
    · exact q2.obj
  keep := fun i h h' st k => by
    obtain ⟨hz, hTI, ⟨x, y, hTO⟩, q1, q2⟩ := st
    exact ⟨k z (by simp) _ hz, k TI (by simp) _ hTI, ⟨x, y, k TO (by simp) _ hTO⟩, q1.at fun o q => k i1 (by simp) o q, q2.at fun o q => k i2 (by simp) o q⟩
  item := by
    intro X hP hw hK hc i pins s σ H E I hf st hg
    subst hP hw hK
    obtain ⟨hz, hTI, ⟨x0, y0, hTO⟩, q1, q2⟩ := st
    obtain ⟨xs, ys, x, y, hqx, hqy, hx, hy⟩ := hg
    obtain ⟨its, rv, p⟩ := inv_seqG I hqx
    obtain ⟨its2, rv2, p2⟩ := inv_seqG I hqy
    obtain ⟨u, hu, ru⟩ := rv.get hx
    obtain ⟨u2, hu2, ru2⟩ := rv2.get hy
    have zlt : z < s.heap.objs.size := Heap.lt_size hz
    refine next_zipG D hz hTI hTO q1 q2 p p2 (x := u) (y := u2) (by simpa using hu) (by simpa using hu2) fun h' z' TO' q1' q2' hT hk => ?_
    refine ⟨_, rfl, wpAny_letOwnedTupleGo_zip (s := { s with heap := h' }) z' fun h'' z'' sb => ?_⟩
    have hT2 : h''.get? s.heap.objs.size = some { cls := .type "tuple", data := .seq #[u, u2] } := (sb.2 _ (Nat.ne_of_gt zlt)).trans hT
    have new : ObjOk X.prog X.w (upd H s.heap.objs.size (.tup [x, y])) h'' s.heap.objs.size (.tup [x, y]) := ⟨by show 2 ≤ sizeLine; decide, [u, u2], .cons ru (.cons ru2 .nil), ⟨_, hT2, rfl, _, rfl⟩⟩
    have I1 : L2.Inv X pins σ (upd H s.heap.objs.size (.tup [x, y])) { s with heap := h'' } :=
      I.turnedNew (t' := s.toks) (ch := [z, TI, TO, i1, i2]) (fun c o hb q => (sb.2 c (fun e => hb (by simp [e]))).trans (hk c o (fun e => hb (by simp [e])) (fun e => hb (by simp [e])) (fun e => hb (by simp [e])) (fun e => hb (by simp [e])) q)) hf (Nat.le_refl _) new
    refine ⟨.ref s.heap.objs.size, _, I1, rfl, ⟨_, x, y, rfl, I.hok.fresh (Nat.le_refl _), rfl, fun l hl => by rw [inv_injG I hl hqx]; exact hx, fun l hl => by rw [inv_injG I hl hqy]; exact hy⟩, ⟨z'', ?_, ⟨u, u2, ?_⟩, ?_, ?_⟩, fun c hcm => ?_⟩
    · exact (sb.2 _ D.TIz).trans (hk _ _ D.TIz D.TITO D.TIi1 D.TIi2 hTI)
    · exact (sb.2 _ D.TOz).trans TO'
    · exact q1'.at fun o q => (sb.2 _ D.i1z).trans q
    · exact q2'.at fun o q => (sb.2 _ D.i2z).trans q
    · have hlt : c < s.heap.objs.size := by
        simp only [List.mem_cons, List.not_mem_nil, or_false] at hcm
        rcases hcm with rfl | rfl | rfl | rfl | rfl
        · exact zlt
        · exact Heap.lt_size hTI
        · exact Heap.lt_size hTO
        · exact q1.lt
        · exact q2.lt
      rw [upd_ne (Nat.ne_of_lt hlt)]
      exact (hf c hcm).1
  done := by
    intro X hP hw hK hc i pins s σ H E I hf st hg
    subst hP hw hK
    obtain ⟨hz, hTI, ⟨x0, y0, hTO⟩, q1, q2⟩ := st
    obtain ⟨xs, ys, hqx, hqy, hend⟩ := hg
    obtain ⟨its, rv, p⟩ := inv_seqG I hqx
    obtain ⟨its2, rv2, p2⟩ := inv_seqG I hqy
    have e1 := rv.length
    have e2 := rv2.length
    have he : its.toArray[i]? = none ∨ its2.toArray[i]? = none := by
      rcases hend with q | q
      · exact .inl (by simp; omega)
      · exact .inr (by simp; omega)
    exact stop_zipG (I.ok.hd hc) D hz hTI hTO q1 q2 p p2 he fun h' hk => ⟨rfl, I.turnedL (t' := s.toks) (ch := [z, TI, TO, i1, i2]) (fun c o hb q =>
      hk c o (fun e => hb (by simp [e])) (fun e => hb (by simp [e])) (fun e => hb (by simp [e])) (fun e => hb (by simp [e])) q) hf⟩
  self := fun A i s Q E st h => wpAny_pyIter_zip st.1 h
def iZipG (K : PySem.W.Frag) (ta : TA) : TI := fun σ H R => ta σ H fun vs H1 => ∃ t1 t2 a b xs ys, vs = [.ref a, .ref b] ∧ SqG K t1 H1 a xs ∧ SqG K t2 H1 b ys ∧ R (ItzG K t1 t2 a b) H1
theorem pi_zipG {X : Cx} {e e2 : Expr} {ta : TA} {p pos tpos : Pos} {elts : List Expr} {kk : Nat} (hg : Gl X "zip") (hm : X.mg "zip" = none) (ha : PA X [e, e2] ta)
    (hs : starEach [e, e2] X.env = (false, eval e X.env) :: starEach [e2] X.env := by rfl) (hpl : (backTo pos (starEach [e2] X.env)).any (·.1) = false := by rfl) :
    PI X (.Tuple elts kk tpos) (.Call (.Name "zip" p) [e, e2] [] pos) (iZipG X.K ta) := by
  refine ⟨fun pins s σ H R I h => ?_⟩
  refine Call_ (ld_blt I hg hm PyProof.Rows.boot_zip (PyProof.Rows.callWith_type1 (thn (ha.run pos pins s σ H _ I h) fun us s1 ⟨vs, H1, I1, r1, q1⟩ => ?_) hs hpl))
  obtain ⟨t1, t2, a, b, xs, ys, rfl, hqx, hqy, q⟩ := q1
  cases r1 with | cons r rr => cases rr with | cons r' rr =>
  cases rr; cases r; cases r'
  obtain ⟨its, rv, p1⟩ := inv_seqG I1 hqx
  obtain ⟨its2, rv2, p2⟩ := inv_seqG I1 hqy
  refine call_zipG p1 p2 fun h' hz hTI hTO g1 g2 hk => wpAny_pyIter_zip hz ?_
  have I2 : L2.Inv X pins σ H1 { s1 with heap := h' } := I1.kept (t' := s1.toks) hk
  refine ⟨s1.heap.objs.size + 4, [s1.heap.objs.size + 4, s1.heap.objs.size + 2, s1.heap.objs.size + 3, s1.heap.objs.size, s1.heap.objs.size + 1], _, _, H1, rfl, I2, turn_zipG (PySem.W.ktu_apart s1.heap.objs.size a b p1.lt p2.lt), ⟨hz, hTI, ⟨_, _, hTO⟩, g1, g2⟩, fun c hcm => ?_, q⟩
  have hle : s1.heap.objs.size ≤ c := by
    simp only [List.mem_cons, List.not_mem_nil, or_false] at hcm
    rcases hcm with rfl | rfl | rfl | rfl | rfl <;> omega
  exact I1.fpOk hle (I1.hok.fresh hle)
end Sh
end

section
namespace Sh
open PySem PySem.Spec PyProof.Rows L2
open Classical

/-! ### a list or a tuple, walked -/
def iSq (m : EM) : IM := fun ρ S => (m ρ S).bind fun w S1 => match w with
  | .d (.list xs) => .ok ⟨xs.map .d, fun _ => True⟩ S1
  | .fl xs => .ok ⟨xs.map .d, fun _ => True⟩ S1
  | .ref n => match S1[n]? with
    | some (.lst ws) => .ok ⟨ws, fun S => S[n]? = some (.lst ws)⟩ S1
    | _ => .bad
  | .d (.str z) => .ok ⟨z.cps.toList.map fun c => .d (.str ⟨#[c]⟩), fun _ => True⟩ S1
  | w => match tupOf w with
    | some ws => .ok ⟨ws, fun _ => True⟩ S1
    | none => .bad
def iEn (ms : AM) : IM := fun ρ S => (ms ρ S).bind fun ws S1 => match ws with
  | [w] => match w with
    | .d (.list xs) => .ok ⟨enumW (xs.map .d), fun _ => True⟩ S1
    | .fl xs => .ok ⟨enumW (xs.map .d), fun _ => True⟩ S1
    | w => match tupOf w with
      | some us => .ok ⟨enumW us, fun _ => True⟩ S1
      | none => .bad
  | _ => .bad
section
variable {X : Cx} {E : EX} {tg e e2 : Expr} {m m2 : EM} {ms : AM} {K : PySem.W.Frag} {F : FS} {ι : List Addr} {S : Sto} {H : Hp} {p pos tpos : Pos} {elts : List Expr} {kk : Nat}
/-- either reading, told when the value is there -/
def iSq2 (K : PySem.W.Frag) (tl : TE) : TI := fun σ H R => tl σ H fun x H1 => (∃ a, x = .ref a ∧ (((∃ xs, SqL K H1 a xs) ∧ R (Itl K a) H1) ∨ ((∃ xs, SqT K H1 a xs) ∧ R (Itt K a) H1))) ∨ ∃ z, x = .str z ∧ R (L2.Its z) H1
theorem pi_sq {l : Expr} {tl : TE} (hl : PE X l tl) : PI X tg l (iSq2 X.K tl) := by
  refine ⟨fun pins s σ H R I h => ?_⟩
  refine thn (hl.run pins s σ H _ I h) fun v s1 ⟨x, H1, I1, r1, q⟩ => ?_
  rcases q with ⟨a, ex, q⟩ | ⟨z, ex, q⟩
  case inr =>
    subst ex
    obtain ⟨t, rfl⟩ := r1
    cases ha : z.cps.all (· < 128)
    · exact wpAny_pyIter_wide ha (pi_one (tk := s1.toks) I1 _ (turn_str _ z t "str_iterator" (.inr rfl)) ⟨_, Heap.get?_push_size _ rfl, rfl, rfl⟩ q)
    · exact wpAny_pyIter_ascii ha (pi_one (tk := s1.toks) I1 _ (turn_str _ z t "str_ascii_iterator" (.inl rfl)) ⟨_, Heap.get?_push_size _ rfl, rfl, rfl⟩ q)
  subst ex
  cases r1
  have fr : ∀ b ∈ [s1.heap.objs.size], FpOk X pins H1 b := fun b hb => by
    rw [show b = s1.heap.objs.size by simpa using hb]
    exact I1.fpOk (Nat.le_refl _) (I1.hok.fresh (Nat.le_refl _))
  rcases q with ⟨⟨xs, hq⟩, q⟩ | ⟨⟨xs, hq⟩, q⟩
  · obtain ⟨its, rv, pl, hz⟩ := I1.list hq
    refine wpAny_pyIter_list pl.isList ?_
    exact ⟨s1.heap.objs.size, [s1.heap.objs.size], _, _, H1, rfl, I1.kept (t' := s1.toks) fun b o e => Heap.get?_push_of_some _ e, turn_list a _, ⟨_, Heap.get?_push_size _ rfl, rfl, rfl⟩, fr, q⟩
  · obtain ⟨its, rv, pl, hz⟩ := I1.tuple hq
    refine wpAny_pyIter_tuple (show s1.heap.IsTuple a its.toArray from pl) ?_
    exact ⟨s1.heap.objs.size, [s1.heap.objs.size], _, _, H1, rfl, I1.kept (t' := s1.toks) fun b o e => Heap.get?_push_of_some _ e, turn_tuple a _, ⟨_, Heap.get?_push_size _ rfl, rfl, rfl⟩, fr, q⟩
theorem it_str {z : Str} : IterOk K (L2.Its z) F ι H ⟨z.cps.toList.map fun c => W.d (.str ⟨#[c]⟩), fun _ => True⟩ := by
  intro i F' ι' S' H' x R g
  refine ⟨fun e => ?_, fun w e => ?_⟩
  · show z.cps.size ≤ i
    rw [e]; simp
  · have hi : i < z.cps.size := by
      have := (List.getElem?_eq_some_iff.mp e).1
      simpa using this
    refine ⟨hi, fun y H'' hy => ?_⟩
    obtain ⟨rfl, c, hc, rfl⟩ := hy
    have e' : (some (W.d (.str ⟨#[c]⟩)) : Option W) = some w := by
      rw [← e]; simp [hc]
    cases e'
    exact ⟨F', .refl, R, .d (.str _)⟩
theorem si_sq (h : SE X E e m) : SI X E tg e (iSq m) := by
  refine PI.le (pi_sq h) fun σ H R h => ?_
  obtain ⟨F, ι, S, ρ, Rl, rs, h⟩ := h
  refine ⟨F, ι, S, ρ, Rl, rs, h.bind.imp fun F1 ι1 H1 w S1 x1 R1 h v r => ?_⟩
  split at h
  · obtain ⟨a, vs, rfl, st, rr⟩ := r.lst_of
    exact .inl ⟨a, rfl, .inl ⟨⟨vs, st.now⟩, h.ok R1 _ (it_list fun F' ι' S' H' x R g => ⟨vs, (st.wk x).now, (RWs.ofD (ι := ι1) rr).wk x⟩)⟩⟩
  · obtain ⟨a, vs, rfl, st, rr⟩ := r.fl_of
    exact .inl ⟨a, rfl, .inl ⟨⟨vs, st.now⟩, h.ok R1 _ (it_list fun F' ι' S' H' x R g => ⟨vs, (st.wk x).now, (RWs.ofD (ι := ι1) rr).wk x⟩)⟩⟩
  · split at h
    · rename_i n _ ws q
      obtain ⟨a, rfl, hn, vs, e1, rr, hz⟩ := r.ref_of R1 q
      refine .inl ⟨a, rfl, .inl ⟨⟨vs, .of e1⟩, h.ok R1 _ (it_list fun F' ι' S' H' x R g => ?_)⟩⟩
      obtain ⟨rp, ep⟩ := x.pre
      have hn' : ι'[n]? = some a := by rw [ep, List.getElem?_append_left (List.getElem?_eq_some_iff.mp hn).1]; exact hn
      obtain ⟨us, e2, r2, _⟩ := R.cell n a _ hn' g
      exact ⟨us, .of e2, r2⟩
    · exact h.elim
  · obtain rfl := r.str_of
    exact .inr ⟨_, rfl, h.ok R1 _ it_str⟩
  · split at h
    · rename_i q
      obtain ⟨a, vs, rfl, st, rr⟩ := r.tup_of q
      exact .inl ⟨a, rfl, .inr ⟨⟨vs, st.now⟩, h.ok R1 _ (it_tup rr st)⟩⟩
    · exact h.elim
def iEn3 (K : PySem.W.Frag) (ta : TA) : TI := fun σ H R => ta σ H fun vs H1 => ∃ (k : SK) (a : Addr) (xs : List V), vs = [.ref a] ∧ k.Sq K H1 a xs ∧ R (ItE k K a) H1
theorem pi_en3 {ta : TA} (hg : Gl X "enumerate") (hm : X.mg "enumerate" = none) (ha : PA X [e] ta) (hs : starEach [e] X.env = [(false, eval e X.env)] := by rfl) :
    PI X (.Tuple elts kk tpos) (.Call (.Name "enumerate" p) [e] [] pos) (iEn3 X.K ta) := by
  refine ⟨fun pins s σ H R I h => ?_⟩
  refine Call_ (ld_blt I hg hm boot_enumerate (PyProof.Rows.callWith_type1 (thn (ha.run pos pins s σ H _ I h) fun us s1 ⟨vs, H1, I1, r1, q1⟩ => ?_) hs rfl))
  obtain ⟨k, a, xs, rfl, hq, q⟩ := q1
  obtain ⟨u, rfl, ru⟩ := vals1 r1
  cases ru
  obtain ⟨its, rv, p', hz⟩ := k.have_ I1 hq
  refine call_enum (k.bg a its.toArray) p' fun h' he hit hsz hk => wpAny_pyIter_enum he ?_
  have I2 : Inv X pins σ H1 { s1 with heap := h' } := I1.kept (t' := s1.toks) hk
  refine ⟨s1.heap.objs.size + 1, [s1.heap.objs.size + 1, s1.heap.objs.size], _, _, H1, rfl, I2, turn_en k a (s1.heap.objs.size + 1) s1.heap.objs.size (Nat.succ_ne_self _), ⟨⟨.none, he⟩, k.st0 hit⟩, fun b hb => ?_, q⟩
  have hle : s1.heap.objs.size ≤ b := by
    rcases (show b = s1.heap.objs.size + 1 ∨ b = s1.heap.objs.size by simpa using hb) with z | z
    · rw [z]; exact Nat.le_add_right _ _
    · rw [z]; exact Nat.le_refl _
  exact I1.fpOk hle (I1.hok.fresh hle)
theorem si_en (hm : X.mg "enumerate" = none) (ha : SA X E [e] ms) (hg : Gl X "enumerate" := by rfl) (hs : starEach [e] X.env = [(false, eval e X.env)] := by rfl) : SI X E (.Tuple elts kk tpos) (.Call (.Name "enumerate" p) [e] [] pos) (iEn ms) := by
  refine PI.le (pi_en3 hg hm ha hs) fun σ H R h => ?_
  obtain ⟨F, ι, S, ρ, Rl, rs, h⟩ := h
  refine ⟨F, ι, S, ρ, Rl, rs, h.bind.imp fun F1 ι1 H1 ws S1 x1 R1 h vs r => ?_⟩
  split at h
  · obtain ⟨v, rfl, r'⟩ := r.one
    split at h
    · obtain ⟨a, us, rfl, st, rr⟩ := r'.lst_of
      exact ⟨skL, a, us, rfl, st.now, h.ok R1 _ (it_en fun F' ι' H' x => ⟨us, (st.wk x).now, (RWs.ofD (ι := ι1) rr).wk x⟩)⟩
    · obtain ⟨a, us, rfl, st, rr⟩ := r'.fl_of
      exact ⟨skL, a, us, rfl, st.now, h.ok R1 _ (it_en fun F' ι' H' x => ⟨us, (st.wk x).now, (RWs.ofD (ι := ι1) rr).wk x⟩)⟩
    · split at h
      · rename_i q
        obtain ⟨a, us, rfl, st, rr⟩ := r'.tup_of q
        exact ⟨skT, a, us, rfl, st.now, h.ok R1 _ (it_en fun F' ι' H' x => ⟨us, (st.wk x).now, rr.wk x⟩)⟩
      · exact h.elim
  · exact h.elim

/-! ### zip of two lists, of two tuples -/
def zipW (us ws : List W) : List W := us.zipWith (fun u w => mkTup [u, w]) ws
theorem zipW_get {us ws : List W} {i : Nat} {w : W} (e : (zipW us ws)[i]? = some w) : ∃ u v, us[i]? = some u ∧ ws[i]? = some v ∧ w = mkTup [u, v] := by
  unfold zipW at e
  rw [List.getElem?_zipWith] at e
  cases q1 : us[i]? <;> cases q2 : ws[i]? <;> simp [q1, q2] at e
  exact ⟨_, _, rfl, rfl, e.symm⟩
theorem it_zipL {us ws : List W} {a b : Addr} (st : ∀ F' ι' H', Wk F ι H F' ι' H' → ∃ vs zs, SqL K H' a vs ∧ SqL K H' b zs ∧ RWs K F' ι' H' us vs ∧ RWs K F' ι' H' ws zs) : IterOk K (Itz K a b) F ι H ⟨zipW us ws, fun _ => True⟩ := by
  intro i F' ι' S' H' x R g
  obtain ⟨vs, zs, q1, q2, r1, r2⟩ := st F' ι' H' x
  refine ⟨fun e => ⟨vs, zs, q1, q2, ?_⟩, fun w e => ?_⟩
  · have : i = min us.length ws.length := by rw [e]; simp [zipW]
    rw [← r1.length, ← r2.length]; omega
  · obtain ⟨u, v, e1, e2, rfl⟩ := zipW_get e
    obtain ⟨x1, ex, rx⟩ := r1.get' e1
    obtain ⟨y1, ey, ry⟩ := r2.get' e2
    refine ⟨⟨vs, zs, x1, y1, q1, q2, ex, ey⟩, fun y H'' hy => ?_⟩
    obtain ⟨T, x2, y2, rfl, n, rfl, h1, h2⟩ := hy
    have := h1 vs q1; rw [ex] at this; cases this
    have := h2 zs q2; rw [ey] at this; cases this
    obtain ⟨x1, R1, r1⟩ := new_tup R n (.cons rx (.cons ry .nil)) (by show 2 ≤ sizeLine; decide)
    exact ⟨_, x1, R1, r1⟩
theorem it_zipG {us ws : List W} {t1 t2 : Bool} {a b : Addr} (st : ∀ F' ι' H', Wk F ι H F' ι' H' → ∃ vs zs, SqG K t1 H' a vs ∧ SqG K t2 H' b zs ∧ RWs K F' ι' H' us vs ∧ RWs K F' ι' H' ws zs) : IterOk K (ItzG K t1 t2 a b) F ι H ⟨zipW us ws, fun _ => True⟩ := by
  intro i F' ι' S' H' x R g
  obtain ⟨vs, zs, q1, q2, r1, r2⟩ := st F' ι' H' x
  refine ⟨fun e => ⟨vs, zs, q1, q2, ?_⟩, fun w e => ?_⟩
  · have : i = min us.length ws.length := by rw [e]; simp [zipW]
    rw [← r1.length, ← r2.length]; omega
  · obtain ⟨u, v, e1, e2, rfl⟩ := zipW_get e
    obtain ⟨x1, ex, rx⟩ := r1.get' e1
    obtain ⟨y1, ey, ry⟩ := r2.get' e2
    refine ⟨⟨vs, zs, x1, y1, q1, q2, ex, ey⟩, fun y H'' hy => ?_⟩
    obtain ⟨T, x2, y2, rfl, n, rfl, h1, h2⟩ := hy
    have := h1 vs q1; rw [ex] at this; cases this
    have := h2 zs q2; rw [ey] at this; cases this
    obtain ⟨x1, R1, r1⟩ := new_tup R n (.cons rx (.cons ry .nil)) (by show 2 ≤ sizeLine; decide)
    exact ⟨_, x1, R1, r1⟩
def seqW : W → Option (Bool × List W)
  | .d (.list xs) => some (false, xs.map .d)
  | .fl xs => some (false, xs.map .d)
  | .d (.tuple xs) => some (true, xs.map .d)
  | .tup ws => some (true, ws)
  | _ => none
def iZp (ms : AM) : IM := fun ρ S => (ms ρ S).bind fun ws S1 => match ws with
  | [u, v] => match seqW u, seqW v with
    | some (_, xs), some (_, ys) => .ok ⟨zipW xs ys, fun _ => True⟩ S1
    | _, _ => .bad
  | _ => .bad
theorem RW.sq {w : W} {v : V} {t : Bool} {ws : List W} (r : RW K F ι H w v) (e : seqW w = some (t, ws)) : ∃ a, v = .ref a ∧ ∀ F' ι' H', Wk F ι H F' ι' H' → ∃ vs, SqG K t H' a vs ∧ RWs K F' ι' H' ws vs := by
  cases w with
  | d x =>
    cases x <;> simp only [seqW] at e <;> try cases e
    · obtain ⟨a, us, rfl, st, rr⟩ := r.lst_of
      exact ⟨a, rfl, fun F' ι' H' x => ⟨us, (st.wk x).now, (RWs.ofD (ι := ι) rr).wk x⟩⟩
    · obtain ⟨a, us, rfl, st, rr⟩ := r.tup_of rfl
      exact ⟨a, rfl, fun F' ι' H' x => ⟨us, (st.wk x).now, rr.wk x⟩⟩
  | fl xs =>
    cases e
    obtain ⟨a, us, rfl, st, rr⟩ := r.fl_of
    exact ⟨a, rfl, fun F' ι' H' x => ⟨us, (st.wk x).now, (RWs.ofD (ι := ι) rr).wk x⟩⟩
  | tup us =>
    cases e
    obtain ⟨a, us, rfl, st, rr⟩ := r.tup_of rfl
    exact ⟨a, rfl, fun F' ι' H' x => ⟨us, (st.wk x).now, rr.wk x⟩⟩
  | _ => cases e
theorem si_zip (hm : X.mg "zip" = none) (ha : SA X E [e, e2] ms) (hg : Gl X "zip" := by rfl) (hs : starEach [e, e2] X.env = (false, eval e X.env) :: starEach [e2] X.env := by rfl) (hpl : (backTo pos (starEach [e2] X.env)).any (·.1) = false := by rfl) :
    SI X E (.Tuple elts kk tpos) (.Call (.Name "zip" p) [e, e2] [] pos) (iZp ms) := by
  refine PI.le (pi_zipG hg hm ha hs hpl) fun σ H R h => ?_
  obtain ⟨F, ι, S, ρ, Rl, rs, h⟩ := h
  refine ⟨F, ι, S, ρ, Rl, rs, h.bind.imp fun F1 ι1 H1 ws S1 x1 R1 h vs r => ?_⟩
  split at h
  · obtain ⟨v, z, rfl, r1, r2⟩ := r.two
    split at h
    · rename_i q1 q2
      obtain ⟨a, rfl, k1⟩ := r1.sq q1
      obtain ⟨b, rfl, k2⟩ := r2.sq q2
      obtain ⟨us, s1, _⟩ := k1 _ _ _ .refl
      obtain ⟨zs, s2, _⟩ := k2 _ _ _ .refl
      refine ⟨_, _, a, b, us, zs, rfl, s1, s2, h.ok R1 _ (it_zipG fun F' ι' H' x => ?_)⟩
      obtain ⟨us, s1, q1⟩ := k1 _ _ _ x
      obtain ⟨zs, s2, q2⟩ := k2 _ _ _ x
      exact ⟨us, zs, s1, s2, q1, q2⟩
    · exact h.elim
  · exact h.elim
end

/-! ### f(k = v, ..), all by their names -/
def permW {α : Type} (π : List Nat) (ws : List α) : List α := π.filterMap (ws[·]?)
structure KB (K : PySem.W.Frag) (fd : FuncData) (ps ks : List Str) (π : List Nat) : Prop where
  to : ∀ (s : Shared) (ws : List Value), ws.length = ks.length → BindsTo s fd ⟨[], ks.zip ws⟩ (ps.zip (permW π ws))
def aKw (π : List Nat) (ms : AM) : AM := fun ρ S => (ms ρ S).bind fun ws S1 => .ok (permW π ws) S1
def SK' (X : Cx) (E : EX) (kws : List Keyword) (m : AM) : Prop := PK X kws (tA X.K E m)
section
variable {X : Cx} {E : EX} {pos p kpos : Pos} {e : Expr} {kws : List Keyword} {m : EM} {ms : AM} {x : Str} {f : Addr} {fd : FuncData} {k : Nat} {ps ks : List Str} {fm : FM} {π : List Nat} {nm : Option Str} {K : PySem.W.Frag} {F : FS} {ι : List Addr} {H : Hp}
theorem sk_nil : SK' X E [] aNil := ⟨fun pos pins s σ H Q I h => by
  obtain ⟨F, ι, S, ρ, R, rs, h⟩ := h
  exact pk_nil.run pos pins s σ H Q I (h.ok R [] .nil)⟩
theorem sk_cons (h1 : SE X E e m) (h2 : SK' X E kws ms) : SK' X E (⟨nm, e, kpos⟩ :: kws) (aCons m ms) := ⟨fun pos pins s σ H Q I h => by
  refine (pk_cons h1 h2).run pos pins s σ H Q I ?_
  obtain ⟨F, ι, S, ρ, R, rs, h⟩ := h
  refine ⟨F, ι, S, ρ, R, rs, h.bind.imp fun F1 ι1 H1 w S1 x1 R1 h v r => ?_⟩
  refine ⟨F1, ι1, S1, ρ, R1, rs.ext x1, h.bind.imp fun F2 ι2 H2 ws S2 x2 R2 h vs rvs => ?_⟩
  exact h.ok R2 (v :: vs) (.cons (r.ext x2) rvs)⟩
theorem permW_rel {ws : List W} {vs : List V} (r : RWs K F ι H ws vs) : ∀ π : List Nat, RWs K F ι H (permW π ws) (permW π vs)
  | [] => .nil
  | i :: π => by
    unfold permW
    rw [List.filterMap_cons, List.filterMap_cons]
    cases q : ws[i]? with
    | some w =>
      obtain ⟨v, e, rv⟩ := r.get' q
      rw [e]
      exact .cons rv (permW_rel r π)
    | none =>
      have : vs[i]? = none := by
        rw [List.getElem?_eq_none_iff] at q ⊢
        rw [← r.length]; exact q
      rw [this]
      exact permW_rel r π
theorem permW_vals {vs : List V} {us : List Value} (r : Vals vs us) : ∀ π : List Nat, Vals (permW π vs) (permW π us)
  | [] => .nil
  | i :: π => by
    unfold permW
    rw [List.filterMap_cons, List.filterMap_cons]
    cases q : vs[i]? with
    | some w =>
      obtain ⟨v, e, rv⟩ := r.get q
      rw [e]
      exact .cons rv (permW_vals r π)
    | none =>
      rw [Vals.none_of r q]
      exact permW_vals r π
theorem s_callK {cf : FM → List W → Sto → Out W} (pure_ : Bool) (hcf : cf = if pure_ then callP else callE) {Wt : WX} (tk : Tk X E Wt) (G : FnOk X.prog X.w X.K X.mg X.base (L2.CX X.prog X.w) k f fd ps (spM X.K X.mg ps.length fm)) (hr : Room k X.A) (hm : X.mg x = some (.ref f)) (hk : PySem.W.keepIn X.K (.ref f) = true) (hb : KB X.K fd ps ks π)
    (ha : SK' X E kws ms) (hlen : ∀ ρ S ws S', aKw π ms ρ S = .ok ws S' → ws.length = ps.length) (hl2 : ∀ ρ S ws S', ms ρ S = .ok ws S' → ws.length = ks.length) (hg : Gl X x := by rfl) (hdb : (x == ("__debug__" : Str)) = false := by decide) (hall : (backToKw pos (keywordEach kws X.env)).all (·.1.isSome) = true := by rfl) (hks : (backToKw pos (keywordEach kws X.env)).filterMap (·.1) = ks := by rfl)
    (hpl : ((backTo pos (starEach [] X.env)).any (·.1) || (backToKw pos (keywordEach kws X.env)).any (·.1.isNone)) = false := by rfl) : SE X E (.Call (.Name x p) [] kws pos) (eCall (cf fm) (aKw π ms)) := by
  refine ⟨fun pins s σ H Q I h => ?_⟩
  refine wpAny_Call_Name_kw (ld_glob I hg hm ?_ hdb)
  refine PySem.W.callWith_KW0 (h₀ := X.base) I.ok.mod.kin hk hall ?_ hpl
  -- the keywords' values
  have h1 : tA X.K E ms σ H fun vs H1 => vs.length = ks.length ∧ spM X.K X.mg ps.length fm (permW π vs) H1 Q (WE Wt σ) := by
    obtain ⟨F, ι, S, ρ, R, rs, h⟩ := h
    refine ⟨F, ι, S, ρ, R, rs, ?_⟩
    unfold eCall at h
    cases q : ms ρ S with
    | bad => unfold aKw at h; rw [q] at h; exact h.elim
    | exc e S1 => unfold aKw at h; rw [q] at h; exact h
    | ok ws S1 =>
      have hl := hlen ρ S (permW π ws) S1 (by unfold aKw; rw [q])
      unfold aKw at h; rw [q] at h
      intro F1 ι1 H1 x1 R1 vs r
      refine ⟨by rw [← r.length]; exact hl2 _ _ _ _ q, ?_⟩
      cases pure_ with
      | true =>
        simp only [if_true] at hcf
        subst hcf
        exact pureC R1 (permW_rel r π) hl ((Post.ext (o := callP fm (permW π ws) S1) h x1).wish fun n d H h C hm => tk.lk n C d σ H hm h)
      | false =>
        simp only [Bool.false_eq_true, if_false] at hcf
        subst hcf
        exact ⟨F1, ι1, S1, permW π ws, R1, permW_rel r π, hl, (Post.ext (o := callE fm (permW π ws) S1) h x1).wish fun n d H h C hm => tk.lk n C d σ H hm h⟩
  refine thn (ha.run pos pins s σ H _ I h1) fun us s1 ⟨vs, H1, I1, r, hl, hsp⟩ => ⟨I1.kIn, ?_⟩
  rw [hks]
  have r2 := permW_vals r π
  refine wpAny_call (codeAny_mono (G.run X.A X.stack s1 H1 ⟨[], ks.zip us⟩ (permW π us) (permW π vs) Q (WE Wt σ) hr I1.env0 (hb.to s1 us (by rw [← r.length]; exact hl)) r2 hsp) fun res s' hq => ?_)
  cases res with
  | error e => exact passAt tk.tk σ pins H1 s1 e s' I1 hq
  | ok fl =>
    cases fl with
    | ret u => exact I1.after hq
    | next => exact False.elim hq
    | brk => exact False.elim hq
    | cont => exact False.elim hq
end

/-! ### the law's end -/
theorem sp_end {K : PySem.W.Frag} {mg : Str → Option Value} {H : Hp} {a : Addr} {ns : List Int} {m : FM} (hz : ns.length ≤ 63) (hS : SqL K H a (ns.map V.int)) (hH : H a ≠ none) (hst : ∀ H', (∀ b o, H b = some o → H' b = some o) → SqL K H' a (ns.map V.int))
    (h : m [.fl (ns.map .int)] [] = .ok (.d (.bool true)) S') : spM K mg 1 m [.ref a] H (fun v _ => v = .bl true) fun _ _ _ => False := by
  have rd : RDs K (fun b => H b ≠ none) H (ns.map .int) (ns.map V.int) := by
    clear hz hS hst h
    induction ns with
    | nil => exact .nil
    | cons n r ih => exact .cons (.int n) ih
  refine ⟨fun b => H b ≠ none, [], [], [.fl (ns.map .int)], .nil fun a h => h, .cons (.fl ⟨?_, fun H' g => hst H' fun b o e => g b o (by show H b ≠ none; rw [e]; simp) e⟩ rd) .nil, rfl, ?_⟩
  · rw [List.length_map]; exact Nat.le_trans hz (by decide)
  · rw [h]
    intro F' ι' H' x R v r
    exact r.bl_of
end Sh
end

section
namespace Sh
open PySem PySem.Spec PyProof.Rows L2
open Classical

theorem fm_congr {α β : Type} {f g : α → Option β} : ∀ {l : List α}, (∀ m ∈ l, f m = g m) → l.filterMap f = l.filterMap g
  | [], _ => rfl
  | x :: r, h => by rw [List.filterMap_cons, List.filterMap_cons, h x (by simp), fm_congr fun m hm => h m (by simp [hm])]
section
variable {X : Cx} {E : EX} {pos : Pos} {a b c e : Expr} {ma mb mc m : EM} {f g : Op2} {r r' : R2} {K : PySem.W.Frag} {F : FS} {ι : List Addr} {S : Sto} {H : Hp}
theorem tTest_le {t : TE} {m : EM} (k : ∀ σ H Q, tE X.K E m σ H Q → t σ H Q) {σ : L2.St} {H : Hp} {Q : Bool → Hp → Prop} (h : tB X.K E (bOf m) σ H Q) : tTest t σ H Q := by
  refine k σ H _ ?_
  obtain ⟨F, ι, S, ρ, R, rs, h⟩ := h
  refine ⟨F, ι, S, ρ, R, rs, h.bind.imp fun F1 ι1 H1 w S1 x1 R1 h v r => ?_⟩
  split at h
  · exact ⟨_, r.bl_of, h.ok R1⟩
  · exact h.elim
theorem sb_cmp {op : CmpOp} (ho : OpR X (compareOp op) r) (hr : Ok2 X r f) (ha : SE X E a ma) (hb : SE X E b mb) (hm : behindInMarks op b = false := by first | exact nomark _ | rfl) : SB X E (.Compare a [op] [b] pos) (bOf (eOp2 f ma mb)) :=
  PT.le (pt_cmpR ho ha hb hm) fun σ H Q h => tTest_le (fun σ H Q h => op2_le hr h) h
theorem sb_chain {op op' : CmpOp} (ho : OpR X (compareOp op) r) (ho' : OpR X (compareOp op') r') (hr : Ok2 X r f) (hr' : Ok2 X r' g) (ha : SE X E a ma) (hb : SE X E b mb) (hc : SE X E c mc)
    (hm : lastMarks [op, op'] [b, c] = false := by with_unfolding_all rfl) : SB X E (.Compare a [op, op'] [b, c] pos) (bOf (eChain f g ma mb mc)) := by
  refine PT.le (pt_chain ho ho' ha hb hc hm) fun σ H Q h => tTest_le (fun σ H Q h => ?_) h
  obtain ⟨F, ι, S, ρ, R, rs, h⟩ := h
  refine ⟨F, ι, S, ρ, R, rs, h.bind.imp fun F1 ι1 H1 x S1 x1 R1 h v rv => ?_⟩
  refine ⟨F1, ι1, S1, ρ, R1, rs.ext x1, h.bind.imp fun F2 ι2 H2 y S2 x2 R2 h u ru => ?_⟩
  refine hr (E σ) F2 ι2 S2 H2 x y v u _ R2 (rv.ext x2) ru (h.bind.imp fun F3 ι3 H3 z S3 x3 R3 h k rk => ?_)
  split at h
  · exact ⟨true, rk.bl_of, iteT ⟨F3, ι3, S3, ρ, R3, (rs.ext x1 |>.ext x2).ext x3, h.bind.imp fun F4 ι4 H4 t S4 x4 R4 h q rq => hr' (E σ) F4 ι4 S4 H4 y t u q Q R4 ((ru.ext x3).ext x4) rq h⟩⟩
  · exact ⟨false, rk.bl_of, iteF (h.ok R3 _ (.d (.bl false)))⟩
  · exact h.elim
theorem sm_par3 {i j l : Nat} {x y z : Str} {ms : AM} {px py pz pt : Pos} {kt k2 pt2} (hc : X.calm = true) (hN : X.N.Nodup) (ha : SA X E [a, b, c] ms) (hij : i ≠ j := by decide) (hil : i ≠ l := by decide) (hjl : j ≠ l := by decide) (hi : X.N[i]? = some x := by rfl) (hj : X.N[j]? = some y := by rfl) (hl : X.N[l]? = some z := by rfl)
    (hx : X.env.scope.names.lookup x = some .local := by rfl) (hy : X.env.scope.names.lookup y = some .local := by rfl) (hz : X.env.scope.names.lookup z = some .local := by rfl)
    (hw : swappedStores [.Tuple [.Name x px, .Name y py, .Name z pz] kt pt] (.Tuple [a, b, c] k2 pt2) X.env = pure (some [x, y, z]) := by rfl)
    (hs : swapsWithSole [.Tuple [.Name x px, .Name y py, .Name z pz] kt pt] (.Tuple [a, b, c] k2 pt2) pos.line X.env = pure false := by rfl) :
    SS X E (.Assign [.Tuple [.Name x px, .Name y py, .Name z pz] kt pt] (.Tuple [a, b, c] k2 pt2) pos) (cPar3 i j l ms) := by
  refine PS.le (ps_par3 hc hN hi hj hl hij hil hjl hx hy hz ha hw hs) fun D σ H h => ?_
  obtain ⟨F, ι, S, ρ, R, rs, h⟩ := h
  refine ⟨F, ι, S, ρ, R, rs, (h.exq rs).imp fun F1 ι1 H1 ws S1 x1 R1 h vs r => ?_⟩
  split at h
  · cases r with | cons r1 r => cases r with | cons r2 r => cases r with | cons r3 r => cases r; exact ⟨_, _, _, rfl, h.ok R1 _ ((((rs.ext x1).set r1 i).set r2 j).set r3 l)⟩
  · exact h.elim

/-! ### a[::-1] -/
theorem tup_rev {prog : Program} {w : World} {A : Around} {Ex : Value → Shared → Prop} {s : Shared} {t sl : Addr} {items : Array Value} {vk : Value} {Q : Value → Shared → Prop} (ht : IsTup s.heap t items) (hs : ∃ os, s.heap.get? sl = some os ∧ os.cls = .type "slice" ∧ os.data = .fields #[.none, .none, vk]) (pk : IsPart vk (some (-1)))
    (h : Q (.ref s.heap.objs.size) { s with heap := s.heap.push { cls := .type "tuple", data := .seq items.toList.reverse.toArray } }) (hsz : items.size ≤ sizeLine) : wpAny (model prog w) A (getItem (.ref t) (.ref sl)) Q Ex s := by
  obtain ⟨os, hos, hcs, hds⟩ := hs
  have hTs : s.TypeIs (.ref sl) "slice" := ⟨os, hos, hcs⟩
  unfold getItem
  try with_reducible refine wpAny_holding ?_
  first | refine wpAny_bind (wpAny_pure ?_) | skip
  refine wpAny_bind (wpAny_sequenceKey ht.typeIs (by decide) ?_)
  refine wpAny_bind (wpAny_callSpecial?_slot (name := Str.ofString "__getitem__") ht.typeIs PyProof.Rows.slot_tuple_getitem
    (wpAny_call_entry PyProof.Rows.slot_tuple_getitem ht.typeIs entry_tuple_getitem ?_ (args_tuple_getitem _ _)))
  show wpAny _ _ (Builtin.Tuple.tupleItemsOf (.ref t) >>= _) _ _ s
  refine wpAny_bind (tupleItemsOf_ ht ?_)
  refine wpAny_bind (wpAny_typeOf hTs ?_)
  rw [if_pos (by decide)]
  have hap : ∀ {Q' : Int × Int × Nat → Shared → Prop}, Q' ((items.size : Int) - 1, -1, items.size) s → wpAny (model prog w) A.in1 (Builtin.Slice.sliceApplied (.ref sl) (pure (items.size : Int))) Q' Ex s := by
    intro Q' hq
    unfold Builtin.Slice.sliceApplied Builtin.Slice.sliceFields
    refine wpAny_bind (wpAny_bind (wpAny_field hos hds (x := .none) rfl (wpAny_bind (wpAny_field hos hds (x := .none) rfl (wpAny_bind (wpAny_field hos hds (x := vk) rfl (wpAny_pure ?_)))))))
    refine wpAny_bind (HT.slicePart_ pk ?_)
    show wpAny _ _ (if ((-1 : Int) == 0) = true then _ else _) _ _ s
    rw [if_neg (by decide)]
    refine wpAny_bind (HT.slicePart_ .none (wpAny_bind (HT.slicePart_ .none (wpAny_bind (wpAny_pure ?_)))))
    have e1 : Builtin.Slice.sliceAdjust none none (-1) (items.size : Int) = ((items.size : Int) - 1, -1) := rfl
    have e2 : Builtin.Slice.slicePlaces ((items.size : Int) - 1) (-1) (-1) = items.size := by
      unfold Builtin.Slice.slicePlaces
      rw [if_neg (by decide)]
      split
      · have : (-(-1) : Int) = 1 := by decide
        rw [this, Int.ediv_one]; omega
      · omega
    show wpAny _ _ (match Builtin.Slice.sliceAdjust none none (-1) (items.size : Int) with | (lo, hi) => pure (lo, (-1 : Int), Builtin.Slice.slicePlaces lo hi (-1))) _ _ s
    rw [e1]
    show wpAny _ _ (pure (((items.size : Int) - 1), (-1 : Int), Builtin.Slice.slicePlaces ((items.size : Int) - 1) (-1) (-1))) _ _ s
    rw [e2]
    exact wpAny_pure hq
  refine wpAny_bind (hap ?_)
  have hno : ¬ (((items.size : Int) - 1 == 0 && (-1 : Int) == 1 && items.size == items.size) = true) := by simp
  show wpAny _ _ (if ((items.size : Int) - 1 == 0 && (-1 : Int) == 1 && items.size == items.size) = true then _ else _) _ _ s
  rw [if_neg hno]
  have hpick : ((List.range items.size).filterMap fun (m : Nat) => items[(((items.size : Int) - 1) + (m : Int) * (-1)).toNat]?).toArray = items.toList.reverse.toArray := by
    congr 1
    have e3 : ∀ m ∈ List.range items.size, items[(((items.size : Int) - 1) + (m : Int) * (-1)).toNat]? = items[items.size - 1 - m]? := fun m hm => by
      have := List.mem_range.mp hm
      congr 1; omega
    rw [fm_congr e3]
    have e4 := PySem.W.krv_range items.size
    have e5 : (List.range items.size).filterMap (fun m => items[items.size - 1 - m]?) = ((List.range items.size).map (fun k => items.size - 1 - k)).filterMap (items[·]?) := by
      rw [List.filterMap_map]; rfl
    rw [e5, e4, List.filterMap_reverse, PySem.W.krv_all]
  rw [hpick]
  have hz : sizeOk (.seq items.toList.reverse.toArray) := by
    show items.toList.reverse.toArray.size ≤ sizeLine
    rw [List.size_toArray, List.length_reverse, Array.length_toList]; exact hsz
  first
    | exact wpAny_bind (m := Builtin.Tuple.tupleExact _) (wpAny_newObj_type (wpAny_pure ⟨_, rfl, wpAny_pure h⟩) hz)
    | exact wpAny_bind (wpAny_bind (m := Builtin.Tuple.tupleExact _) (wpAny_newObj_type (wpAny_pure (wpAny_pure ⟨_, rfl, wpAny_pure h⟩)) hz))
    | exact wpAny_bind (m := Builtin.Tuple.tupleExact _) (wpAny_newObj_type (wpAny_bind (wpAny_pure (wpAny_pure ⟨_, rfl, wpAny_pure h⟩))) hz)
def opRev : Op1 := fun x S => match x with
  | .d (.list xs) => .ok (.d (.list xs.reverse)) S
  | .fl xs => .ok (.d (.list xs.reverse)) S
  | x => match tupOf x with
    | some ws => .ok (mkTup ws.reverse) S
    | none => .bad
theorem RDs.rev {xs : List PyData} {vs : List V} (r : RDs K F H xs vs) : RDs K F H xs.reverse vs.reverse := by
  induction xs generalizing vs with
  | nil => cases r; exact .nil
  | cons x xs ih => cases r with | cons a b => rw [List.reverse_cons, List.reverse_cons]; exact (ih b).append (.cons a .nil)
theorem RWs.rev {xs : List W} {vs : List V} (r : RWs K F ι H xs vs) : RWs K F ι H xs.reverse vs.reverse := by
  induction xs generalizing vs with
  | nil => cases r; exact .nil
  | cons x xs ih => cases r with | cons a b => rw [List.reverse_cons, List.reverse_cons]; exact (ih b).append (.cons a .nil)
def tRevS (K : PySem.W.Frag) (te : TE) : TE := fun σ H Q => te σ H fun x H1 => ∃ a xs, x = .ref a ∧ ((SqL K H1 a xs ∧ ∀ p, H1 p = none → Q (.ref p) (upd H1 p (.lst xs.reverse))) ∨ (SqT K H1 a xs ∧ ∀ p, H1 p = none → Q (.ref p) (upd H1 p (.tup xs.reverse))))
theorem pe_revS {te : TE} {k : Nat} {p1 p2 p3 pos : Pos} (he : PE X e te) : PE X (.Subscript e (.Slice none none (some (.UnaryOp .USub (.Constant (.int 1) k p1) p2)) p3) pos) (tRevS X.K te) := by
  refine ⟨fun pins s σ H Q I h => ?_⟩
  refine Subscript_ (thn (he.run pins s σ H _ I h) fun v s1 ⟨x, H1, I1, r1, q1⟩ => ?_)
  obtain ⟨a, xs, ex, q⟩ := q1
  subst ex
  cases r1
  have hst : PO X (some (.UnaryOp .USub (.Constant (.int 1) k p1) p2)) (tPart (tUn (rU fun i => .int (-i)) (tC (.int 1)))) := po_some (pe_un un_neg pe_int)
  refine wpAny_Slice (thn (po_none.run pins s1 σ H1 (fun o H2 => o = none ∧ H2 = H1) I1 ⟨rfl, rfl⟩) fun vl s2 ⟨l, H2, I2, pl, el, e2⟩ => ?_)
  subst el e2
  refine thn (po_none.run pins s2 σ H2 (fun o H3 => o = none ∧ H3 = H2) I2 ⟨rfl, rfl⟩) fun vu s3 ⟨u, H3, I3, pu, eu, e3⟩ => ?_
  subst eu e3
  refine thn (hst.run pins s3 σ H3 (fun o H4 => o = some (-1) ∧ H4 = H3) I3 ⟨1, rfl, -1, rfl, rfl, rfl⟩) fun vs s4 ⟨o, H4, I4, ps, eo, e4⟩ => ?_
  subst eo e4
  have I5 : Inv X pins σ H4 { s4 with heap := s4.heap.push { cls := .type "slice", data := .fields #[vl, vu, vs] } } := I4.kept (t' := s4.toks) fun b ob q => Heap.get?_push_of_some _ q
  show wpAny (model X.prog X.w) X.A (subscriptTail e (.Slice none none (some (.UnaryOp .USub (.Constant (.int 1) k p1) p2)) p3) (.ref a) (.ref s4.heap.objs.size)) (EP X pins σ Q) X.xe { s4 with heap := s4.heap.push { cls := .type "slice", data := .fields #[vl, vu, vs] } }
  rcases q with ⟨hx, q⟩ | ⟨hx, q⟩
  · obtain ⟨its, r, ht, hz⟩ := I5.list hx
    have hlen := r.length
    refine tail_any (ops := [.ref a, .ref s4.heap.objs.size]) ht.isList.typeIs (PySem.slot_list_getitem.lookup) ?_ (by with_unfolding_all rfl)
    refine wpAny_getItem_list_slice ht.isList (Heap.IsSliceOf.new _ vl vu vs) pl pu ps (by decide) ?_ (by rw [List.size_toArray]; omega)
    rw [PySem.W.krv_pick]
    exact ⟨.ref _, _, I5.laid (t' := s4.toks) (o := .lst xs.reverse) (fun b ob q => Heap.get?_push_of_some _ q) (Nat.le_refl _) ⟨by rw [List.length_reverse]; exact hz, _, 0, r.reverse, Heap.get?_push_size _ rfl⟩, rfl, q _ (I5.hok.fresh (Nat.le_refl _))⟩
  · obtain ⟨its, r, ht, hz⟩ := I5.tuple hx
    have hlen := r.length
    cases pl
    cases pu
    refine tail_any (ops := [.ref a, .ref s4.heap.objs.size]) ht.typeIs PyProof.Rows.slot_tuple_getitem.lookup ?_ (by with_unfolding_all rfl)
    refine tup_rev ht ⟨_, Heap.get?_push_size _ rfl, rfl, rfl⟩ ps ?_ (by rw [List.size_toArray]; omega)
    exact ⟨.ref _, _, I5.laid (t' := s4.toks) (o := .tup xs.reverse) (fun b ob q => Heap.get?_push_of_some _ q) (Nat.le_refl _) ⟨by rw [List.length_reverse]; exact hz, _, r.reverse, IsTup.new _ _⟩, rfl, q _ (I5.hok.fresh (Nat.le_refl _))⟩
theorem s_rev {k : Nat} {p1 p2 p3 pos : Pos} (h : SE X E e m) : SE X E (.Subscript e (.Slice none none (some (.UnaryOp .USub (.Constant (.int 1) k p1) p2)) p3) pos) (eOp1 opRev m) := by
  refine PE.le (pe_revS h) fun σ H Q h => ?_
  obtain ⟨F, ι, S, ρ, R, rs, h⟩ := h
  refine ⟨F, ι, S, ρ, R, rs, h.bind.imp fun F1 ι1 H1 w S1 x1 R1 h v r => ?_⟩
  unfold opRev at h
  split at h
  · obtain ⟨a, vs, rfl, st, rr⟩ := r.lst_of
    refine ⟨a, vs, rfl, .inl ⟨st.now, fun p n => ?_⟩⟩
    obtain ⟨y, R', r'⟩ := new_lst R1 n rr.rev (by rw [List.length_reverse, rr.length]; exact st.1)
    exact h _ _ _ y R' _ r'
  · obtain ⟨a, vs, rfl, st, rr⟩ := r.fl_of
    refine ⟨a, vs, rfl, .inl ⟨st.now, fun p n => ?_⟩⟩
    obtain ⟨y, R', r'⟩ := new_lst R1 n rr.rev (by rw [List.length_reverse, rr.length]; exact st.1)
    exact h _ _ _ y R' _ r'
  · split at h
    · rename_i q
      obtain ⟨a, vs, rfl, st, rr⟩ := r.tup_of q
      refine ⟨a, vs, rfl, .inr ⟨st.now, fun p n => ?_⟩⟩
      obtain ⟨y, R', r'⟩ := new_tup R1 n rr.rev (by rw [List.length_reverse, rr.length]; exact st.1)
      exact h _ _ _ y R' _ r'
    · exact h.elim
end
end Sh
end

section
namespace Sh
open PySem PySem.Spec PyProof.Rows L2
open Classical

theorem blk_by {N : List Str} {sc scope : Scope} {own : List (Str × Nat)} (h : blkC N sc scope own = true) : BlkOk N sc scope own := blkOk_by h
theorem hu65 {A : Around} {k : Nat} (hr : Room k A) : A.units + 65 < cLine := by have := hr.un; omega
theorem alen_kw {π : List Nat} {ms : AM} {n : Nat} (h : ∀ ρ S ws S', ms ρ S = .ok ws S' → ws.length = n) (hp : π.all (· < n) = true := by decide) : ∀ ρ S ws S', aKw π ms ρ S = .ok ws S' → ws.length = π.length := fun ρ S ws S' e => by
  unfold aKw at e
  cases q : ms ρ S with
  | ok us S1 =>
    rw [q] at e
    cases e
    have hl := h _ _ _ _ q
    clear q
    unfold permW
    induction π with
    | nil => rfl
    | cons i π ih =>
      simp only [List.all_cons, Bool.and_eq_true, decide_eq_true_eq] at hp
      rw [List.filterMap_cons, List.getElem?_eq_getElem (by omega : i < us.length)]
      simp only [List.length_cons]
      rw [ih (by simpa using hp.2)]
  | exc _ _ => rw [q] at e; cases e
  | bad => rw [q] at e; cases e
section
variable {P : Program} {w : World} {K : PySem.W.Frag} {mg : Str → Option Value} {base : Heap} {N : List Str} {qual : Str} {scope : Scope} {f : Addr} {cdv : Value} {A : Around} {outer : List Env} {s : Shared} {H : Hp} {E : XK}
theorem tk_body : Tk (cxOf (L2.CX P w) P w K mg base N qual scope f cdv A outer s H E) (fun _ => byN mg E) (fun cls d _ H => E cls d H) :=
  ⟨takes_of rfl rfl rfl rfl, fun n C d σ H hm h => h C hm⟩
theorem po_body : PassesOwn (model P w) (cxOf (L2.CX P w) P w K mg base N qual scope f cdv A outer s H E).A (cxOf (L2.CX P w) P w K mg base N qual scope f cdv A outer s H E).env (cxOf (L2.CX P w) P w K mg base N qual scope f cdv A outer s H E).xe := passes_of (X := cxOf (L2.CX P w) P w K mg base N qual scope f cdv A outer s H E) rfl
end
theorem SqL.same {K : PySem.W.Frag} {H H' : Hp} {a : Addr} {xs : List V} (h : SqL K H a xs) (k : ∀ b o, H b = some o → H' b = some o) : SqL K H' a xs := Same.seq (fun b o e => k b o e) h
theorem cx_end {P : Program} {w : World} {H : Hp} {s : Shared} {e : Value} {s' : Shared} (h : L2.CX P w [] H s (fun _ _ _ => False) e s') : False := by
  obtain ⟨_, _, _, _, _, _, _, _, _, _, _, _, z⟩ := h
  exact z
theorem law_sp {K : PySem.W.Frag} {mg : Str → Option Value} {H : Hp} {a : Addr} {ns : List Int} {m : FM} {Q : VK} {E : XK} {S' : Sto} (hz : ns.length ≤ 63) (hst : ∀ H' : Hp, (∀ b o, H b = some o → H' b = some o) → SqL K H' a (ns.map V.int))
    (h : m [.fl (ns.map .int)] [] = .ok (.d (.bool true)) S') (hq : ∀ H', Q (.bl true) H') : spM K mg 1 m [.ref a] H Q E := by
  have rd : RDs K (fun b => H b ≠ none) H (ns.map .int) (ns.map V.int) := by
    clear hz hst h
    induction ns with
    | nil => exact .nil
    | cons n r ih => exact .cons (.int n) ih
  refine ⟨fun b => H b ≠ none, [], [], [.fl (ns.map .int)], .nil fun a h => h, .cons (.fl ⟨?_, fun H' g => hst H' fun b o e => g b o (by show H b ≠ none; rw [e]; simp) e⟩ rd) .nil, rfl, ?_⟩
  · rw [List.length_map]; exact Nat.le_trans hz (by decide)
  · rw [h]
    intro F' ι' H' x R v r
    obtain rfl := r.bl_of
    exact hq H'
end Sh
end

section
/-! Sh: how the plain functions compute. -/
namespace Sh
open PySem PySem.Spec PyProof.Rows L2
open Classical

/-! ### each construct at a state -/
theorem eVar_ap {i : Nat} {ρ : Rho} {S : Sto} : eVar i ρ S = (match ρ[i]? with
  | some (some w) => .ok w S
  | _ => .bad) := rfl
theorem eK_ap {w : W} {ρ : Rho} {S : Sto} : eK w ρ S = (.ok w S) := rfl
theorem aNil_ap  {ρ : Rho} {S : Sto} : aNil  ρ S = (.ok [] S) := rfl
theorem aCons_ap {m : EM} {ms : AM} {ρ : Rho} {S : Sto} : aCons m ms ρ S = ((m ρ S).bind fun w S1 => (ms ρ S1).bind fun ws S2 => .ok (w :: ws) S2) := rfl
theorem eOp2_ap {f : Op2} {ma mb : EM} {ρ : Rho} {S : Sto} : eOp2 f ma mb ρ S = ((ma ρ S).bind fun x S1 => (mb ρ S1).bind fun y S2 => f x y S2) := rfl
theorem eOp1_ap {f : Op1} {ma : EM} {ρ : Rho} {S : Sto} : eOp1 f ma ρ S = ((ma ρ S).bind fun x S1 => f x S1) := rfl
theorem eChain_ap {f g : Op2} {ma mb mc : EM} {ρ : Rho} {S : Sto} : eChain f g ma mb mc ρ S = ((ma ρ S).bind fun x S1 => (mb ρ S1).bind fun y S2 => (f x y S2).bind fun z S3 => match z with
  | .d (.bool true) => (mc ρ S3).bind fun u S4 => g y u S4
  | .d (.bool false) => .ok (.d (.bool false)) S3
  | _ => .bad) := rfl
theorem bOf_ap {m : EM} {ρ : Rho} {S : Sto} : bOf m ρ S = ((m ρ S).bind fun w S1 => match w with
  | .d (.bool b) => .ok b S1
  | _ => .bad) := rfl
theorem bNot_ap {m : BM} {ρ : Rho} {S : Sto} : bNot m ρ S = ((m ρ S).bind fun b S1 => .ok (!b) S1) := rfl
theorem bAnd_ap {m n : BM} {ρ : Rho} {S : Sto} : bAnd m n ρ S = ((m ρ S).bind fun b S1 => if b = true then n ρ S1 else .ok false S1) := rfl
theorem bOr_ap {m n : BM} {ρ : Rho} {S : Sto} : bOr m n ρ S = ((m ρ S).bind fun b S1 => if b = true then .ok true S1 else n ρ S1) := rfl
theorem eAnd_ap {m n : EM} {ρ : Rho} {S : Sto} : eAnd m n ρ S = ((m ρ S).bind fun w S1 => match w with
  | .d (.bool true) => n ρ S1
  | .d (.bool false) => .ok (.d (.bool false)) S1
  | _ => .bad) := rfl
theorem eOr_ap {m n : EM} {ρ : Rho} {S : Sto} : eOr m n ρ S = ((m ρ S).bind fun w S1 => match w with
  | .d (.bool false) => n ρ S1
  | .d (.bool true) => .ok (.d (.bool true)) S1
  | _ => .bad) := rfl
theorem eNot_ap {m : EM} {ρ : Rho} {S : Sto} : eNot m ρ S = ((m ρ S).bind fun w S1 => match w with
  | .d (.bool b) => .ok (.d (.bool (!b))) S1
  | _ => .bad) := rfl
theorem eIf_ap {c : BM} {m n : EM} {ρ : Rho} {S : Sto} : eIf c m n ρ S = ((c ρ S).bind fun b S1 => if b = true then m ρ S1 else n ρ S1) := rfl
theorem eTup_ap {m : AM} {ρ : Rho} {S : Sto} : eTup m ρ S = ((m ρ S).bind fun ws S1 => if ws.length ≤ sizeLine then .ok (mkTup ws) S1 else .bad) := rfl
theorem eLst_ap {m : AM} {ρ : Rho} {S : Sto} : eLst m ρ S = ((m ρ S).bind fun ws S1 => if ws.length ≤ sizeLine then .ofO S1 ((unD ws).map fun xs => .d (.list xs)) else .bad) := rfl
theorem eLstM_ap {m : AM} {ρ : Rho} {S : Sto} : eLstM m ρ S = ((m ρ S).bind fun ws S1 => newCell ws S1) := rfl
theorem cNop_ap  {ρ : Rho} {S : Sto} : cNop  ρ S = (.ok (.nx ρ) S) := rfl
theorem cBreak_ap  {ρ : Rho} {S : Sto} : cBreak  ρ S = (.ok (.bk ρ) S) := rfl
theorem cCont_ap  {ρ : Rho} {S : Sto} : cCont  ρ S = (.ok (.ct ρ) S) := rfl
theorem cSeq_ap {a b : SM} {ρ : Rho} {S : Sto} : cSeq a b ρ S = ((a ρ S).bind fun fl S1 => match fl with
  | .nx ρ1 => b ρ1 S1
  | o => .ok o S1) := rfl
theorem cExpr_ap {m : EM} {ρ : Rho} {S : Sto} : cExpr m ρ S = (exq ρ (m ρ S) fun _ S1 => .ok (.nx ρ) S1) := rfl
theorem cSet_ap {i : Nat} {m : EM} {ρ : Rho} {S : Sto} : cSet i m ρ S = (exq ρ (m ρ S) fun w S1 => .ok (.nx (ρ.set i (some w))) S1) := rfl
theorem cRet_ap {m : EM} {ρ : Rho} {S : Sto} : cRet m ρ S = (exq ρ (m ρ S) fun w S1 => .ok (.rt w) S1) := rfl
theorem cRetN_ap  {ρ : Rho} {S : Sto} : cRetN  ρ S = (.ok (.rt (.d .none)) S) := rfl
theorem cIf_ap {c : BM} {a b : SM} {ρ : Rho} {S : Sto} : cIf c a b ρ S = (exq ρ (c ρ S) fun t S1 => if t = true then a ρ S1 else b ρ S1) := rfl
theorem cAsg_ap {m : EM} {g : GM} {ρ : Rho} {S : Sto} : cAsg m g ρ S = (exq ρ (m ρ S) fun w S1 => exq ρ (g w ρ S1) fun ρ1 S2 => .ok (.nx ρ1) S2) := rfl
theorem cPar2_ap {i j : Nat} {m : AM} {ρ : Rho} {S : Sto} : cPar2 i j m ρ S = (exq ρ (m ρ S) fun ws S1 => match ws with
  | [u, v] => .ok (.nx ((ρ.set i (some u)).set j (some v))) S1
  | _ => .bad) := rfl
theorem cPar3_ap {i j l : Nat} {m : AM} {ρ : Rho} {S : Sto} : cPar3 i j l m ρ S = (exq ρ (m ρ S) fun ws S1 => match ws with
  | [u, v, w] => .ok (.nx (((ρ.set i (some u)).set j (some v)).set l (some w))) S1
  | _ => .bad) := rfl
theorem bYes_ap  {ρ : Rho} {S : Sto} : bYes  ρ S = (.ok true S) := rfl
theorem eCall_ap {f : List W → Sto → Out W} {ms : AM} {ρ : Rho} {S : Sto} : eCall f ms ρ S = ((ms ρ S).bind fun ws S1 => f ws S1) := rfl
theorem oNone_ap  {ρ : Rho} {S : Sto} : oNone  ρ S = (.ok none S) := rfl
theorem oSome_ap {m : EM} {ρ : Rho} {S : Sto} : oSome m ρ S = ((m ρ S).bind fun w S1 => match w with
  | .d (.int i) => .ok (some i) S1
  | _ => .bad) := rfl
theorem eSl_ap {m : EM} {lo hi : OM} {ρ : Rho} {S : Sto} : eSl m lo hi ρ S = ((m ρ S).bind fun x S1 => (lo ρ S1).bind fun l S2 => (hi ρ S2).bind fun u S3 => opSl x l u S3) := rfl
theorem cFor_ap {im : IM} {g : GM} {body : SM} {ρ : Rho} {S : Sto} : cFor im g body ρ S = (exq ρ (im ρ S) fun its S1 => forL its.grd g body its.items ρ S1) := rfl
theorem eMtL_ap {f : MF} {mo : EM} {ms : AM} {ρ : Rho} {S : Sto} : eMtL f mo ms ρ S = ((mo ρ S).bind fun o S1 => if isL S1 o = true then (ms ρ S1).bind fun ws S2 => f o ws S2 else .bad) := rfl
theorem aKw_ap {π : List Nat} {ms : AM} {ρ : Rho} {S : Sto} : aKw π ms ρ S = ((ms ρ S).bind fun ws S1 => .ok (permW π ws) S1) := rfl
theorem gNm_ap {i : Nat} {w : W} {ρ : Rho} {S : Sto} : gNm i w ρ S = (.ok (ρ.set i (some w)) S) := rfl
theorem gTp_ap {n : Nat} {gs : GMs} {w : W} {ρ : Rho} {S : Sto} : gTp n gs w ρ S = (match tupOf w with
  | some ws => if ws.length = n then (match gs ws ρ S with | .ok ρ1 S1 => .ok ρ1 S1 | _ => .bad) else .bad
  | none => .bad) := rfl
theorem gSb_ap {f : Op3} {mo mi : EM} {w : W} {ρ : Rho} {S : Sto} : gSb f mo mi w ρ S = ((mo ρ S).bind fun o S1 => (mi ρ S1).bind fun i S2 => (f o i w S2).bind fun _ S3 => .ok ρ S3) := rfl
theorem gsNil_ap  {ws : List W} {ρ : Rho} {S : Sto} : gsNil  ws ρ S = (match ws with
  | [] => .ok ρ S
  | _ => .bad) := rfl
theorem gsCons_ap {g : GM} {gs : GMs} {ws : List W} {ρ : Rho} {S : Sto} : gsCons g gs ws ρ S = (match ws with
  | w :: r => match g w ρ S with
    | .ok ρ1 S1 => gs r ρ1 S1
    | _ => .bad
  | [] => .bad) := rfl
theorem sz1 : 1 ≤ sizeLine := by decide
theorem sz2 : 2 ≤ sizeLine := by decide
theorem sz3 : 3 ≤ sizeLine := by decide
theorem sz4 : 4 ≤ sizeLine := by decide
theorem sz5 : 5 ≤ sizeLine := by decide
theorem sz6 : 6 ≤ sizeLine := by decide
theorem sz7 : 7 ≤ sizeLine := by decide
theorem sz8 : 8 ≤ sizeLine := by decide
theorem sz9 : 9 ≤ sizeLine := by decide
theorem sz10 : 10 ≤ sizeLine := by decide
theorem sz11 : 11 ≤ sizeLine := by decide
theorem sz12 : 12 ≤ sizeLine := by decide
theorem sz13 : 13 ≤ sizeLine := by decide
theorem sz14 : 14 ≤ sizeLine := by decide
theorem sz15 : 15 ≤ sizeLine := by decide
theorem sz16 : 16 ≤ sizeLine := by decide
theorem callE_ap {f : FM} {ws : List W} {S : Sto} : callE f ws S = f ws S := rfl
/-- targets of two and three names -/
theorem gTp2 {ρ : Rho} {S : Sto} {i j : Nat} {a b : PyData} : gTp 2 (gsCons (gNm i) (gsCons (gNm j) gsNil)) (.d (.tuple [a, b])) ρ S = .ok ((ρ.set i (some (.d a))).set j (some (.d b))) S := rfl
theorem gTp3 {ρ : Rho} {S : Sto} {i j k : Nat} {a b c : PyData} : gTp 3 (gsCons (gNm i) (gsCons (gNm j) (gsCons (gNm k) gsNil))) (.d (.tuple [a, b, c])) ρ S = .ok (((ρ.set i (some (.d a))).set j (some (.d b))).set k (some (.d c))) S := rfl
theorem mkTup0 : mkTup [] = .d (.tuple []) := rfl
theorem mkTup1 {x : PyData} : mkTup [.d x] = .d (.tuple [x]) := rfl
theorem mkTup2 {x y : PyData} : mkTup [.d x, .d y] = .d (.tuple [x, y]) := rfl
theorem mkTup3 {x y z : PyData} : mkTup [.d x, .d y, .d z] = .d (.tuple [x, y, z]) := rfl

/-! ### data of small depth and length -/
def leafOk : PyData → Bool
  | .none | .bool _ | .int _ => true
  | .str x => PyData.strOk x && decide (x.length ≤ 1000)
  | _ => false
def sm : Nat → PyData → Bool
  | 0, x => leafOk x
  | n + 1, .list xs => decide (xs.length ≤ 1000) && xs.all (sm n)
  | n + 1, .tuple xs => decide (xs.length ≤ 1000) && xs.all (sm n)
  | _ + 1, x => leafOk x
theorem sm_leaf {n : Nat} {x : PyData} (h : leafOk x = true) : sm n x = true := by
  cases n with
  | zero => exact h
  | succ n => cases x <;> first | exact h | cases h
theorem sm_tup {n : Nat} {xs : List PyData} : sm (n + 1) (.tuple xs) = true ↔ xs.length ≤ 1000 ∧ ∀ x ∈ xs, sm n x = true := by simp [sm]
theorem sm_list {n : Nat} {xs : List PyData} : sm (n + 1) (.list xs) = true ↔ xs.length ≤ 1000 ∧ ∀ x ∈ xs, sm n x = true := by simp [sm]
theorem canLayAll_iff : ∀ {xs : List PyData}, PyData.canLayAll0 xs = true ↔ ∀ x ∈ xs, x.canLay0 = true
  | [] => by simp [PyData.canLayAll0]
  | x :: xs => by simp [PyData.canLayAll0, canLayAll_iff (xs := xs)]
theorem depthAll_le {n : Nat} : ∀ {xs : List PyData}, (∀ x ∈ xs, x.depth ≤ n) → PyData.depthAll xs ≤ n
  | [], _ => by simp [PyData.depthAll]
  | x :: xs, h => by
    simp only [PyData.depthAll]
    exact Nat.max_le.2 ⟨h x (by simp), depthAll_le fun y hy => h y (by simp [hy])⟩
theorem leaf_shape {x : PyData} (h : leafOk x = true) : x.canLay0 = true ∧ x.depth = 0 := by
  cases x <;> simp [leafOk, PyData.canLay0, PyData.depth] at h ⊢
  exact h.1
theorem sm_shape : ∀ {n : Nat} {x : PyData}, sm n x = true → x.canLay0 = true ∧ x.depth ≤ n
  | 0, x, h => by have := leaf_shape h; exact ⟨this.1, by omega⟩
  | n + 1, .list xs, h => by
    have h := (sm_list.1 h).2
    simp only [PyData.canLay0, PyData.depth, canLayAll_iff]
    exact ⟨fun x hx => (sm_shape (h x hx)).1, Nat.succ_le_succ (depthAll_le fun x hx => (sm_shape (h x hx)).2)⟩
  | n + 1, .tuple xs, h => by
    have h := (sm_tup.1 h).2
    simp only [PyData.canLay0, PyData.depth, canLayAll_iff]
    exact ⟨fun x hx => (sm_shape (h x hx)).1, Nat.succ_le_succ (depthAll_le fun x hx => (sm_shape (h x hx)).2)⟩
  | n + 1, .none, _ => ⟨rfl, Nat.zero_le _⟩
  | n + 1, .bool _, _ => ⟨rfl, Nat.zero_le _⟩
  | n + 1, .int _, _ => ⟨rfl, Nat.zero_le _⟩
  | n + 1, .str _, h => by have := leaf_shape (x := .str _) h; exact ⟨this.1, by omega⟩
  | n + 1, .dict _, h => by cases h
theorem sm_shaped {n : Nat} {x : PyData} (h : sm n x = true) (hn : n ≤ 64 := by decide) : SeqAt.shaped x = true := by
  have := sm_shape h
  simp only [SeqAt.shaped, this.1, Bool.true_and, decide_eq_true_eq]
  omega
theorem sm_mono : ∀ {n m : Nat} {x : PyData}, sm n x = true → n ≤ m → sm m x = true
  | 0, m, x, h, _ => sm_leaf h
  | n + 1, 0, x, h, g => absurd g (by omega)
  | n + 1, m + 1, .list xs, h, g => by
    have h := sm_list.1 h
    exact sm_list.2 ⟨h.1, fun x hx => sm_mono (h.2 x hx) (by omega)⟩
  | n + 1, m + 1, .tuple xs, h, g => by
    have h := sm_tup.1 h
    exact sm_tup.2 ⟨h.1, fun x hx => sm_mono (h.2 x hx) (by omega)⟩
  | n + 1, m + 1, .none, _, _ => rfl
  | n + 1, m + 1, .bool _, _, _ => rfl
  | n + 1, m + 1, .int _, _, _ => rfl
  | n + 1, m + 1, .str _, h, _ => h
  | n + 1, m + 1, .dict _, h, _ => by cases h

/-! ### equality -/
theorem eqvAll_nil_r : ∀ {xs : List PyData}, PyData.eqvAll xs [] = xs.isEmpty
  | [] => rfl
  | _ :: _ => rfl

/-! ### operators at their kinds -/
section
variable {S : Sto} {a b i j k : Int} {x y : PyData} {xs ys : List PyData} {z u : Str} {p q : Bool}
theorem opAdd_int : opAdd (.d (.int a)) (.d (.int b)) S = .ok (.d (.int (a + b))) S := rfl
theorem opAdd_str : opAdd (.d (.str z)) (.d (.str u)) S = if z.length + u.length ≤ sizeLine then .ok (.d (.str (z ++ u))) S else .bad := rfl
theorem opAdd_list : opAdd (.d (.list xs)) (.d (.list ys)) S = if xs.length + ys.length ≤ sizeLine then .ok (.d (.list (xs ++ ys))) S else .bad := rfl
theorem opAdd_tup : opAdd (.d (.tuple xs)) (.d (.tuple ys)) S = if xs.length + ys.length ≤ sizeLine then .ok (.d (.tuple (xs ++ ys))) S else .bad := by
  simp only [opAdd, tupOf, List.length_map]
  rw [← List.map_append, mkTup_d]
theorem opSub_int : opSub (.d (.int a)) (.d (.int b)) S = .ok (.d (.int (a - b))) S := rfl
theorem opMul_int (h : CMul a b) : opMul (.d (.int a)) (.d (.int b)) S = .ok (.d (.int (a * b))) S := if_pos (.inl h)
theorem opMul_list (h : In63 k ∧ xs.length * k.toNat ≤ sizeLine) : opMul (.d (.list xs)) (.d (.int k)) S = .ok (.d (.list (List.replicate k.toNat xs).flatten)) S := if_pos h
theorem opMul_tup (h : xs ≠ [] ∧ 2 ≤ k ∧ k ≤ 1000 ∧ xs.length ≤ 1000) : opMul (.d (.tuple xs)) (.d (.int k)) S = .ok (.d (.tuple (List.replicate k.toNat xs).flatten)) S := if_pos h
theorem opMul_tup1 : opMul (.d (.tuple xs)) (.d (.int 1)) S = .ok (.d (.tuple xs)) S := by
  show (if xs ≠ [] ∧ (2 : Int) ≤ 1 ∧ (1 : Int) ≤ 1000 ∧ xs.length ≤ 1000 then _ else if (1 : Int) = 1 then _ else _) = _
  rw [if_neg (fun h => absurd h.2.1 (by decide)), if_pos rfl]
theorem opDiv_int (h : CDivW a b) : opDiv (.d (.int a)) (.d (.int b)) S = .ok (.d (.int (a / b))) S := if_pos h
theorem opMod_int (h : 0 < b) : opMod (.d (.int a)) (.d (.int b)) S = .ok (.d (.int (a % b))) S := if_pos h
theorem opPow_int (h : CPow a b) : opPow (.d (.int a)) (.d (.int b)) S = .ok (.d (.int (a ^ b.toNat))) S := if_pos (.inl h)
theorem opPow_intW (h : CPowW a b) : opPow (.d (.int a)) (.d (.int b)) S = .ok (.d (.int (a ^ b.toNat))) S := if_pos (.inr h)
theorem opNeg_int : opNeg (.d (.int a)) S = .ok (.d (.int (-a))) S := rfl
theorem opEq_int : opEq (.d (.int a)) (.d (.int b)) S = .ok (.d (.bool (a == b))) S := if_pos ⟨rfl, rfl⟩
theorem opNe_int : opNe (.d (.int a)) (.d (.int b)) S = .ok (.d (.bool (!(a == b)))) S := if_pos ⟨rfl, rfl⟩
theorem opEq_sm (hx : SeqAt.shaped x = true) (hy : SeqAt.shaped y = true) : opEq (.d x) (.d y) S = .ok (.d (.bool (PyData.eqv x y))) S := if_pos ⟨hx, hy⟩
theorem opNe_sm (hx : SeqAt.shaped x = true) (hy : SeqAt.shaped y = true) : opNe (.d x) (.d y) S = .ok (.d (.bool (!PyData.eqv x y))) S := if_pos ⟨hx, hy⟩
theorem opLt_int : opLt (.d (.int a)) (.d (.int b)) S = .ok (.d (.bool (decide (a < b)))) S := rfl
theorem opLt_str : opLt (.d (.str z)) (.d (.str u)) S = .ok (.d (.bool (decide (z.cps.toList < u.cps.toList)))) S := rfl
theorem opInt_int {f : Int → Int → Bool} : opInt f (.d (.int a)) (.d (.int b)) S = .ok (.d (.bool (f a b))) S := rfl
theorem opIsB_b : opIsB (.d (.bool p)) (.d (.bool q)) S = .ok (.d (.bool (p == q))) S := rfl
theorem opNotB_b : opNotB (.d (.bool p)) (.d (.bool q)) S = .ok (.d (.bool (!(p == q)))) S := rfl
theorem opIsi_d {T : String} : opIsi T (.d x) S = .ok (.d (.bool (isiT (tyD x) T))) S := rfl
theorem bLen_list : bLen [.d (.list xs)] S = .ok (.d (.int xs.length)) S := rfl
theorem bLen_tup : bLen [.d (.tuple xs)] S = .ok (.d (.int xs.length)) S := rfl
theorem bLen_fl : bLen [.fl xs] S = .ok (.d (.int xs.length)) S := rfl
theorem bLen_str (h : z.length ≤ sizeLine) : bLen [.d (.str z)] S = .ok (.d (.int z.length)) S := if_pos h
theorem bAll_map {α : Type} {l : List α} {f : α → Bool} : bAll [.d (.list (l.map fun x => .bool (f x)))] S = .ok (.d (.bool (l.all f))) S := by
  have : (l.map fun x => PyData.bool (f x)) = (l.map f).map .bool := by simp
  rw [this, bAll]; simp only [bools_map]; simp [List.all_map]
theorem bAny_map {α : Type} {l : List α} {f : α → Bool} : bAny [.d (.list (l.map fun x => .bool (f x)))] S = .ok (.d (.bool (l.any f))) S := by
  have : (l.map fun x => PyData.bool (f x)) = (l.map f).map .bool := by simp
  rw [this, bAny]; simp only [bools_map]; simp [List.any_map]
theorem bTuple_list : bTuple [.d (.list xs)] S = .ok (.d (.tuple xs)) S := rfl
theorem bTuple_tup : bTuple [.d (.tuple xs)] S = .ok (.d (.tuple xs)) S := rfl
theorem bTuple_ref {n : Nat} (h : S[n]? = some (.lst (xs.map .d))) : bTuple [.ref n] S = .ok (.d (.tuple xs)) S := by simp [bTuple, h]
theorem bList_list : bList [.d (.list xs)] S = .ok (.d (.list xs)) S := rfl
theorem bList_tup : bList [.d (.tuple xs)] S = .ok (.d (.list xs)) S := rfl
theorem bInt_int : bInt [.d (.int a)] S = .ok (.d (.int a)) S := rfl
theorem bInt_bool : bInt [.d (.bool p)] S = .ok (.d (.int (if p = true then 1 else 0))) S := rfl
theorem bAbs_int : bAbs [.d (.int a)] S = .ok (.d (.int (if a < 0 then -a else a))) S := rfl
theorem bMin2_int : bMin2 [.d (.int i), .d (.int j)] S = .ok (.d (.int (if j < i then j else i))) S := rfl
theorem atI_nat {α : Type} {l : List α} {n : Nat} {w : α} (h : l[n]? = some w) : atI l (n : Int) = some w := by
  have hn : n < l.length := by
    rcases Nat.lt_or_ge n l.length with g | g
    · exact g
    · rw [List.getElem?_eq_none g] at h; cases h
  simp only [atI, ixN, Int.natCast_nonneg, if_true, Int.ofNat_lt, hn, Option.bind_some, Int.toNat_natCast, h]
theorem opIx_list {d : PyData} (h : atI xs i = some d) : opIx (.d (.list xs)) (.d (.int i)) S = .ok (.d d) S := by simp [opIx, h]
theorem opIx_fl {d : PyData} (h : atI xs i = some d) : opIx (.fl xs) (.d (.int i)) S = .ok (.d d) S := by simp [opIx, h]
theorem opIx_tup {d : PyData} (h : atI xs i = some d) : opIx (.d (.tuple xs)) (.d (.int i)) S = .ok (.d d) S := by simp [opIx, tupOf, atI_map, h]
theorem opIx_ref {n : Nat} {ws : List W} {w : W} (h : S[n]? = some (.lst ws)) (h2 : atI ws i = some w) : opIx (.ref n) (.d (.int i)) S = .ok w S := by simp [opIx, h, h2]
theorem opIx_str {c : Nat} (hz : z.length ≤ sizeLine) (h : atI z.cps.toList i = some c) : opIx (.d (.str z)) (.d (.int i)) S = .ok (.d (.str ⟨#[c]⟩)) S := by simp [opIx, hz, h]
theorem opSl_list {lo hi : Option Int} : opSl (.d (.list xs)) lo hi S = .ok (.d (.list (cut xs lo hi))) S := rfl
theorem opSl_fl {lo hi : Option Int} : opSl (.fl xs) lo hi S = .ok (.d (.list (cut xs lo hi))) S := rfl
theorem opSl_tup {lo hi : Option Int} : opSl (.d (.tuple xs)) lo hi S = .ok (.d (.tuple (cut xs lo hi))) S := by
  simp only [opSl, tupOf, cut_map, mkTup_d]
theorem opRev_tup : opRev (.d (.tuple xs)) S = .ok (.d (.tuple xs.reverse)) S := by
  simp [opRev, tupOf, ← List.map_reverse]
theorem callP_d {f : FM} {ws : List W} {x : PyData} {S' : Sto} (h : f ws [] = .ok (.d x) S') (hw : ws.all isD = true := by rfl) : callP f ws S = .ok (.d x) S := by
  simp [callP, hw, h, frzW]
theorem mkTup_of {ws : List W} (h : ws = xs.map .d) : mkTup ws = .d (.tuple xs) := by rw [h, mkTup_d]
end

/-! ### comprehensions -/
section
variable {S : Sto} {ρ : Rho} {im : IM} {g : GM} {tt : BM} {elt : EM} {vs : List Nat}
theorem lcL_d {grd : Sto → Prop} {ρ0 : Rho} {α : Type} (mk : α → W) (f : α → PyData) (t : α → Bool) (hg : grd S) : ∀ (l : List α),
    (∀ x ∈ l, ∃ ρ', g (mk x) ρ0 S = .ok ρ' S ∧ tt ρ' S = .ok (t x) S ∧ (t x = true → elt ρ' S = .ok (.d (f x)) S)) → lcL grd g tt elt ρ0 (l.map mk) S = .ok (((l.filter t).map f).map W.d) S
  | [], _ => by simp [lcL, hg]
  | x :: l, h => by
    obtain ⟨ρ', e1, e2, e3⟩ := h x (by simp)
    have ih := lcL_d mk f t hg l fun y hy => h y (by simp [hy])
    simp only [List.map_cons, lcL, hg, if_true, e1, Out.bindB, e2]
    cases ht : t x with
    | true => simp only [e3 ht, ih, Out.bindB, if_true, List.filter_cons, ht, List.map_cons]
    | false => simp [ih, List.filter_cons, ht]
theorem eLc_d {α : Type} (l : List α) (mk : α → W) (f : α → PyData) (t : α → Bool) {grd : Sto → Prop} (him : im ρ S = .ok ⟨l.map mk, grd⟩ S) (hg : grd S) (hz : l.length ≤ sizeLine)
    (h : ∀ x ∈ l, ∃ ρ', g (mk x) (wipeR ρ vs) S = .ok ρ' S ∧ tt ρ' S = .ok (t x) S ∧ (t x = true → elt ρ' S = .ok (.d (f x)) S)) : eLc im g tt elt vs ρ S = .ok (.d (.list ((l.filter t).map f))) S := by
  simp only [eLc, him, Out.bind, List.length_map, hz, if_true, lcL_d mk f t hg l h, Out.bindB, unD_map, Option.map_some, Out.ofO]
theorem eLc_y {α : Type} (l : List α) (mk : α → W) (f : α → PyData) {grd : Sto → Prop} (him : im ρ S = .ok ⟨l.map mk, grd⟩ S) (hg : grd S) (hz : l.length ≤ sizeLine)
    (h : ∀ x ∈ l, ∃ ρ', g (mk x) (wipeR ρ vs) S = .ok ρ' S ∧ elt ρ' S = .ok (.d (f x)) S) : eLc im g bYes elt vs ρ S = .ok (.d (.list (l.map f))) S := by
  rw [eLc_d l mk f (fun _ => true) him hg hz fun x hx => ?_]
  · rw [List.filter_eq_self.2 fun _ _ => rfl]
  · obtain ⟨ρ', e1, e2⟩ := h x hx; exact ⟨ρ', e1, rfl, fun _ => e2⟩
theorem iSq_tup {m : EM} {xs : List PyData} (h : m ρ S = .ok (.d (.tuple xs)) S) : iSq m ρ S = .ok ⟨xs.map .d, fun _ => True⟩ S := by simp [iSq, h, Out.bind, tupOf]
theorem iSq_list {m : EM} {xs : List PyData} (h : m ρ S = .ok (.d (.list xs)) S) : iSq m ρ S = .ok ⟨xs.map .d, fun _ => True⟩ S := by simp [iSq, h, Out.bind]
theorem iSq_fl {m : EM} {xs : List PyData} (h : m ρ S = .ok (.fl xs) S) : iSq m ρ S = .ok ⟨xs.map .d, fun _ => True⟩ S := by simp [iSq, h, Out.bind]
theorem iSq_str {m : EM} {z : Str} (h : m ρ S = .ok (.d (.str z)) S) : iSq m ρ S = .ok ⟨z.cps.toList.map fun c => W.d (.str ⟨#[c]⟩), fun _ => True⟩ S := by simp [iSq, h, Out.bind]
theorem iRg1_at {m : EM} {j : Int} (h : m ρ S = .ok (.d (.int j)) S) (hj : -(2 ^ 62) ≤ j ∧ j < 2 ^ 62) : iRg1 m ρ S = .ok ⟨(List.range j.toNat).map fun (k : Nat) => W.d (.int (k : Int)), fun _ => True⟩ S := by simp only [iRg1, h, Out.bind]; exact if_pos hj
theorem iRg1_nat {m : EM} {j : Nat} (h : m ρ S = .ok (.d (.int j)) S) (hj : j < 2 ^ 62) : iRg1 m ρ S = .ok ⟨(List.range j).map fun (k : Nat) => W.d (.int (k : Int)), fun _ => True⟩ S := by
  rw [iRg1_at h ⟨by omega, by omega⟩]; simp
end
end Sh
end

section
/-! Sh: the well of the laws, and what is drawn from it. -/
namespace Sh
open PySem PySem.Spec PyProof.Rows L2
open Classical

noncomputable def bWell : SM := cRet (eLstM (aCons (eLc (iSq (eSl (eVar 0) oNone (oSome (eInt 63)))) (gNm 1) (bYes) (eCall bInt (aCons (eVar 1) aNil)) [1]) (aCons (eInt 0) (aCons (eInt 40507) aNil))))
noncomputable def mWell : FM := defM 2 1 bWell
noncomputable def bDrawA : SM := cIf (bAnd (bOf (eOp2 (opLt) (eOp2 opIx (eVar 0) (eInt 1)) (eOp2 opPow (eInt 10) (eInt 9)))) (bOf (eOp2 (opNe) (eOp2 opIx (eVar 0) (eInt 0)) (eLst aNil)))) (cSeq (cSet 2 (eOp2 opIx (eOp2 opIx (eVar 0) (eInt 0)) (eInt 0))) (cSeq (cAsg (eSl (eOp2 opIx (eVar 0) (eInt 0)) (oSome (eInt 1)) oNone) (gSb setIx (eVar 0) (eInt 0))) (cSeq (cSet 3 (eOp2 opAdd (eOp2 opMul (eInt 2) (eCall bAbs (aCons (eVar 2) aNil))) (eCall bInt (aCons (eOp2 (opLt) (eVar 2) (eInt 0)) aNil)))) (cIf (bOf (eOp2 (opGe) (eVar 3) (eOp2 opPow (eInt 10) (eInt 18)))) (cAsg (eVar 3) (gSb setIx (eVar 0) (eInt 1))) (cAsg (eOp2 opMod (eCall bInt (aCons (eOp2 opAdd (eOp2 opAdd (eOp2 opMul (eOp2 opIx (eVar 0) (eInt 2)) (eInt 48271)) (eOp2 opMul (eVar 3) (eInt 69621))) (eInt 17)) aNil)) (eInt 2147483647)) (gSb setIx (eVar 0) (eInt 2))))))) (cNop)
noncomputable def bDrawB : SM := cSeq (cIf (bOf (eOp2 (opGe) (eOp2 opIx (eVar 0) (eInt 1)) (eOp2 opPow (eInt 10) (eInt 9)))) (cSeq (cSet 4 (eOp2 opMod (eCall bInt (aCons (eOp2 opIx (eVar 0) (eInt 1)) aNil)) (eVar 1))) (cSeq (cAsg (eOp2 opDiv (eOp2 opIx (eVar 0) (eInt 1)) (eVar 1)) (gSb setIx (eVar 0) (eInt 1))) (cRet (eVar 4)))) (cNop)) (cSeq (cAsg (eOp2 opMod (eCall bInt (aCons (eOp2 opAdd (eOp2 opMul (eOp2 opIx (eVar 0) (eInt 2)) (eInt 39373)) (eInt 101)) aNil)) (eInt 2147483647)) (gSb setIx (eVar 0) (eInt 2))) (cRet (eOp2 opMod (eCall bInt (aCons (eOp2 opDiv (eOp2 opIx (eVar 0) (eInt 2)) (eInt 89)) aNil)) (eVar 1))))
noncomputable def bDraw : SM := cSeq bDrawA bDrawB
noncomputable def mDraw : FM := defM 5 2 bDraw

def wellOb (cells : List Int) (a b : Int) : Ob := .lst [.d (.list (cells.map .int)), .d (.int a), .d (.int b)]
/-- a well lies in cell n -/
def Well (S : Sto) (n : Nat) : Prop := ∃ cells a b, S[n]? = some (wellOb cells a b) ∧ cells.length ≤ 63 ∧ 0 ≤ b ∧ b < 2147483647
theorem set_at {S : Sto} {n : Nat} {o o' : Ob} (h : S[n]? = some o) : (S.set n o')[n]? = some o' := by
  have : n < S.length := by
    rcases Nat.lt_or_ge n S.length with g | g
    · exact g
    · rw [List.getElem?_eq_none g] at h; cases h
  simp [this]
section
variable {S : Sto} {n : Nat} {cells : List Int} {a b : Int}
theorem well0 (h : S[n]? = some (wellOb cells a b)) : opIx (.ref n) (.d (.int 0)) S = .ok (.d (.list (cells.map .int))) S := opIx_ref h rfl
theorem well1 (h : S[n]? = some (wellOb cells a b)) : opIx (.ref n) (.d (.int 1)) S = .ok (.d (.int a)) S := opIx_ref h rfl
theorem well2 (h : S[n]? = some (wellOb cells a b)) : opIx (.ref n) (.d (.int 2)) S = .ok (.d (.int b)) S := opIx_ref h rfl
theorem wset0 {c2 : List Int} (h : S[n]? = some (wellOb cells a b)) : setIx (.ref n) (.d (.int 0)) (.d (.list (c2.map .int))) S = .ok () (S.set n (wellOb c2 a b)) := by simp only [setIx, h, wellOb]; rfl
theorem wset1 {a2 : Int} (h : S[n]? = some (wellOb cells a b)) : setIx (.ref n) (.d (.int 1)) (.d (.int a2)) S = .ok () (S.set n (wellOb cells a2 b)) := by simp only [setIx, h, wellOb]; rfl
theorem wset2 {b2 : Int} (h : S[n]? = some (wellOb cells a b)) : setIx (.ref n) (.d (.int 2)) (.d (.int b2)) S = .ok () (S.set n (wellOb cells a b2)) := by simp only [setIx, h, wellOb]; rfl
theorem shaped_ints {l : List Int} : SeqAt.shaped (.list (l.map .int)) = true := by
  have h : PyData.canLayAll0 (l.map .int) = true := canLayAll_iff.2 fun x hx => by
    obtain ⟨i, _, rfl⟩ := List.mem_map.1 hx; rfl
  have h2 : PyData.depthAll (l.map .int) ≤ 0 := depthAll_le fun x hx => by
    obtain ⟨i, _, rfl⟩ := List.mem_map.1 hx; exact Nat.le_refl 0
  simp only [SeqAt.shaped, PyData.canLay0, h, PyData.depth, Bool.true_and, decide_eq_true_eq]
  exact decide_eq_true (Nat.le_trans (Nat.succ_le_succ h2) (by decide : 1 ≤ 64))
theorem pow9 : opPow (.d (.int 10)) (.d (.int 9)) S = .ok (.d (.int 1000000000)) S := by
  rw [opPow_int ⟨by decide, by decide, by decide⟩]; rfl
theorem pow18 : opPow (.d (.int 10)) (.d (.int 18)) S = .ok (.d (.int 1000000000000000000)) S := by
  rw [opPow_int ⟨by decide, by decide, by decide⟩]; rfl
theorem cut1 {α : Type} (l : List α) : cut l (some 1) none = l.drop 1 := by
  have e : HT.sIx l.length 0 (some 1) = min 1 l.length := HT.sIx_nat _ _ 1
  simp only [cut, e, HT.sIx_none]
  rcases l with _ | ⟨x, l⟩
  · rfl
  · simp
theorem cutTo {α : Type} (l : List α) (k : Nat) : cut l none (some (k : Int)) = l.take k := by
  simp only [cut, HT.sIx_none, HT.sIx_nat, Nat.sub_zero, List.drop_zero]
  rcases Nat.le_total k l.length with h | h
  · rw [Nat.min_eq_left h]
  · rw [Nat.min_eq_right h, List.take_of_length_le h, List.take_of_length_le (Nat.le_refl _)]
theorem cutFrom {α : Type} (l : List α) (k : Nat) : cut l (some (k : Int)) none = l.drop k := by
  simp only [cut, HT.sIx_none, HT.sIx_nat]
  rw [List.take_of_length_le (by simp)]
  rcases Nat.le_total k l.length with h | h
  · rw [Nat.min_eq_left h]
  · rw [Nat.min_eq_right h, List.drop_of_length_le (Nat.le_refl _), List.drop_of_length_le h]
theorem set_self {S : Sto} {n : Nat} {o : Ob} (h : S[n]? = some o) : S.set n o = S := by
  apply List.ext_getElem?
  intro i
  rw [List.getElem?_set]
  split
  · rename_i e; subst e
    split
    · exact h.symm
    · rename_i g; rw [List.getElem?_eq_none (by omega)]
  · rfl
theorem drawA (h : S[n]? = some (wellOb cells a b)) (hc : cells.length ≤ 63) (hb0 : 0 ≤ b) (hb1 : b < 2147483647) {many : Int} : ∃ (c2 : List Int) (a2 b2 : Int) (w2 w3 : Option W), bDrawA [some (.ref n), some (.d (.int many)), none, none, none] S = .ok (.nx [some (.ref n), some (.d (.int many)), w2, w3, none]) (S.set n (wellOb c2 a2 b2)) ∧ c2.length ≤ 63 ∧ 0 ≤ b2 ∧ b2 < 2147483647 := by
  unfold bDrawA
  by_cases ha : a < 1000000000
  · cases cells with
    | nil =>
      refine ⟨[], a, b, none, none, ?_, hc, hb0, hb1⟩
      rw [set_self h]
      simp only [eVar_ap, eK_ap, aNil_ap, aCons_ap, eOp2_ap, eOp1_ap, eChain_ap, bOf_ap, bNot_ap, bAnd_ap, bOr_ap, eAnd_ap, eOr_ap, eNot_ap, eIf_ap, eTup_ap, eLst_ap, eLstM_ap, cNop_ap, cBreak_ap, cCont_ap, cSeq_ap, cExpr_ap, cSet_ap, cRet_ap, cRetN_ap, cIf_ap, cAsg_ap, cPar2_ap, cPar3_ap, bYes_ap, eCall_ap, oNone_ap, oSome_ap, eSl_ap, cFor_ap, eMtL_ap, aKw_ap, gNm_ap, gTp2, gTp3, gSb_ap, mkTup0, mkTup1, mkTup2, mkTup3, Out.bind, Out.ofO, exq, fin, callE_ap, List.getElem?_cons_succ, List.getElem?_cons_zero, List.set_cons_succ, List.set_cons_zero, List.map_cons, List.map_nil, List.replicate, List.cons_append, List.nil_append, List.length_cons, List.length_nil, Bool.not_true, Bool.not_false, if_true, if_false, ite_true, ite_false, reduceIte, Bool.false_eq_true, Bool.true_eq_false, Nat.reduceAdd, unD, Option.map_some, Nat.zero_le, Sh.sz1, Sh.sz2, Sh.sz3, Sh.sz4, Sh.sz5, Sh.sz6, Sh.sz7, Sh.sz8, Sh.sz9, Sh.sz10, Sh.sz11, Sh.sz12, Sh.sz13, Sh.sz14, Sh.sz15, Sh.sz16, Nat.reduceSub, Nat.reduceLeDiff, reduceCtorEq, Bool.and_true, Bool.true_and, Bool.and_false, Bool.false_and, Bool.or_true, Bool.or_false, Bool.true_or, Bool.false_or, well0 h, well1 h, pow9, opLt_int, ha, decide_true, opNe_sm (x := .list []) (y := .list []) rfl rfl, unD, Option.map_some, Nat.zero_le, show PyData.eqv (.list []) (.list []) = true from rfl]
    | cons c0 cr =>
      have e0 : atI (PyData.int c0 :: cr.map .int) 0 = some (.int c0) := atI_nat (n := 0) rfl
      have e1 : cut (PyData.int c0 :: cr.map .int) (some 1) none = cr.map .int := by rw [cut1]; rfl
      have h2 := set_at (o' := wellOb cr a b) h
      have m1 : CMul b 48271 := .inr ⟨by decide, by decide⟩
      have m2 : ∀ x, CMul x 69621 := fun x => .inr ⟨by decide, by decide⟩
      have m3 : ∀ x, CMul 2 x := fun x => .inl ⟨by decide, by decide⟩
      have sh := shaped_ints (l := c0 :: cr)
      have hl : cr.length ≤ 63 := by simp only [List.length_cons] at hc; omega
      by_cases hw : (1000000000000000000 : Int) ≤ 2 * (if c0 < 0 then -c0 else c0) + (if decide (c0 < 0) = true then 1 else 0)
      · refine ⟨cr, 2 * (if c0 < 0 then -c0 else c0) + (if decide (c0 < 0) = true then 1 else 0), b, some (.d (.int c0)), some (.d (.int (2 * (if c0 < 0 then -c0 else c0) + (if decide (c0 < 0) = true then 1 else 0)))), ?_, hl, hb0, hb1⟩
        rw [← List.set_set (a := wellOb cr a b)]
        simp only [eVar_ap, eK_ap, aNil_ap, aCons_ap, eOp2_ap, eOp1_ap, eChain_ap, bOf_ap, bNot_ap, bAnd_ap, bOr_ap, eAnd_ap, eOr_ap, eNot_ap, eIf_ap, eTup_ap, eLst_ap, eLstM_ap, cNop_ap, cBreak_ap, cCont_ap, cSeq_ap, cExpr_ap, cSet_ap, cRet_ap, cRetN_ap, cIf_ap, cAsg_ap, cPar2_ap, cPar3_ap, bYes_ap, eCall_ap, oNone_ap, oSome_ap, eSl_ap, cFor_ap, eMtL_ap, aKw_ap, gNm_ap, gTp2, gTp3, gSb_ap, mkTup0, mkTup1, mkTup2, mkTup3, Out.bind, Out.ofO, exq, fin, callE_ap, List.getElem?_cons_succ, List.getElem?_cons_zero, List.set_cons_succ, List.set_cons_zero, List.map_cons, List.map_nil, List.replicate, List.cons_append, List.nil_append, List.length_cons, List.length_nil, Bool.not_true, Bool.not_false, if_true, if_false, ite_true, ite_false, reduceIte, Bool.false_eq_true, Bool.true_eq_false, Nat.reduceAdd, unD, Option.map_some, Nat.zero_le, Sh.sz1, Sh.sz2, Sh.sz3, Sh.sz4, Sh.sz5, Sh.sz6, Sh.sz7, Sh.sz8, Sh.sz9, Sh.sz10, Sh.sz11, Sh.sz12, Sh.sz13, Sh.sz14, Sh.sz15, Sh.sz16, Nat.reduceSub, Nat.reduceLeDiff, reduceCtorEq, Bool.and_true, Bool.true_and, Bool.and_false, Bool.false_and, Bool.or_true, Bool.or_false, Bool.true_or, Bool.false_or, well0 h, well1 h, pow9, pow18, opLt_int, ha, decide_true, opNe_sm (x := .list (.int c0 :: cr.map .int)) (y := .list []) sh rfl, unD, Option.map_some, Nat.zero_le, show PyData.eqv (.list (PyData.int c0 :: cr.map .int)) (.list []) = false from rfl, opIx_list e0, opSl_list, e1, wset0 h,
          bAbs_int, opMul_int (m3 _), bInt_bool, opAdd_int, opInt_int, hw, wset1 h2]
      · refine ⟨cr, a, (b * 48271 + (2 * (if c0 < 0 then -c0 else c0) + (if decide (c0 < 0) = true then 1 else 0)) * 69621 + 17) % 2147483647, some (.d (.int c0)), some (.d (.int (2 * (if c0 < 0 then -c0 else c0) + (if decide (c0 < 0) = true then 1 else 0)))), ?_, hl, Int.emod_nonneg _ (by decide), Int.emod_lt_of_pos _ (by decide)⟩
        rw [← List.set_set (a := wellOb cr a b)]
        simp only [eVar_ap, eK_ap, aNil_ap, aCons_ap, eOp2_ap, eOp1_ap, eChain_ap, bOf_ap, bNot_ap, bAnd_ap, bOr_ap, eAnd_ap, eOr_ap, eNot_ap, eIf_ap, eTup_ap, eLst_ap, eLstM_ap, cNop_ap, cBreak_ap, cCont_ap, cSeq_ap, cExpr_ap, cSet_ap, cRet_ap, cRetN_ap, cIf_ap, cAsg_ap, cPar2_ap, cPar3_ap, bYes_ap, eCall_ap, oNone_ap, oSome_ap, eSl_ap, cFor_ap, eMtL_ap, aKw_ap, gNm_ap, gTp2, gTp3, gSb_ap, mkTup0, mkTup1, mkTup2, mkTup3, Out.bind, Out.ofO, exq, fin, callE_ap, List.getElem?_cons_succ, List.getElem?_cons_zero, List.set_cons_succ, List.set_cons_zero, List.map_cons, List.map_nil, List.replicate, List.cons_append, List.nil_append, List.length_cons, List.length_nil, Bool.not_true, Bool.not_false, if_true, if_false, ite_true, ite_false, reduceIte, Bool.false_eq_true, Bool.true_eq_false, Nat.reduceAdd, unD, Option.map_some, Nat.zero_le, Sh.sz1, Sh.sz2, Sh.sz3, Sh.sz4, Sh.sz5, Sh.sz6, Sh.sz7, Sh.sz8, Sh.sz9, Sh.sz10, Sh.sz11, Sh.sz12, Sh.sz13, Sh.sz14, Sh.sz15, Sh.sz16, Nat.reduceSub, Nat.reduceLeDiff, reduceCtorEq, Bool.and_true, Bool.true_and, Bool.and_false, Bool.false_and, Bool.or_true, Bool.or_false, Bool.true_or, Bool.false_or, well0 h, well1 h, pow9, pow18, opLt_int, ha, decide_true, decide_false, opNe_sm (x := .list (.int c0 :: cr.map .int)) (y := .list []) sh rfl, unD, Option.map_some, Nat.zero_le, show PyData.eqv (.list (PyData.int c0 :: cr.map .int)) (.list []) = false from rfl, opIx_list e0, opSl_list, e1, wset0 h,
          bAbs_int, opMul_int (m3 _), bInt_bool, bInt_int, opAdd_int, opInt_int, hw, well2 h2, opMul_int m1, opMul_int (m2 _), opMod_int (show (0 : Int) < 2147483647 by decide), wset2 h2]
  · refine ⟨cells, a, b, none, none, ?_, hc, hb0, hb1⟩
    rw [set_self h]
    simp only [eVar_ap, eK_ap, aNil_ap, aCons_ap, eOp2_ap, eOp1_ap, eChain_ap, bOf_ap, bNot_ap, bAnd_ap, bOr_ap, eAnd_ap, eOr_ap, eNot_ap, eIf_ap, eTup_ap, eLst_ap, eLstM_ap, cNop_ap, cBreak_ap, cCont_ap, cSeq_ap, cExpr_ap, cSet_ap, cRet_ap, cRetN_ap, cIf_ap, cAsg_ap, cPar2_ap, cPar3_ap, bYes_ap, eCall_ap, oNone_ap, oSome_ap, eSl_ap, cFor_ap, eMtL_ap, aKw_ap, gNm_ap, gTp2, gTp3, gSb_ap, mkTup0, mkTup1, mkTup2, mkTup3, Out.bind, Out.ofO, exq, fin, callE_ap, List.getElem?_cons_succ, List.getElem?_cons_zero, List.set_cons_succ, List.set_cons_zero, List.map_cons, List.map_nil, List.replicate, List.cons_append, List.nil_append, List.length_cons, List.length_nil, Bool.not_true, Bool.not_false, if_true, if_false, ite_true, ite_false, reduceIte, Bool.false_eq_true, Bool.true_eq_false, Nat.reduceAdd, unD, Option.map_some, Nat.zero_le, Sh.sz1, Sh.sz2, Sh.sz3, Sh.sz4, Sh.sz5, Sh.sz6, Sh.sz7, Sh.sz8, Sh.sz9, Sh.sz10, Sh.sz11, Sh.sz12, Sh.sz13, Sh.sz14, Sh.sz15, Sh.sz16, Nat.reduceSub, Nat.reduceLeDiff, reduceCtorEq, Bool.and_true, Bool.true_and, Bool.and_false, Bool.false_and, Bool.or_true, Bool.or_false, Bool.true_or, Bool.false_or, well0 h, well1 h, pow9, opLt_int, ha, decide_false]
/-- what a draw hands back, and what it leaves -/
theorem draw_ok {many : Int} (hW : Well S n) (h0 : 0 < many) (h1 : many < 2 ^ 62) : ∃ (k : Nat) (o : Ob), mDraw [.ref n, .d (.int many)] S = .ok (.d (.int k)) (S.set n o) ∧ (k : Int) < many ∧ Well (S.set n o) n := by
  obtain ⟨cells, a, b, h, hc, hb0, hb1⟩ := hW
  obtain ⟨c1, a1, b1, w2, w3, eA, hc1, hb0, hb1⟩ := drawA h hc hb0 hb1 (many := many)
  have h1' := set_at (o' := wellOb c1 a1 b1) h
  unfold mDraw defM bDraw
  have e2 : ([W.ref n, W.d (PyData.int many)].map some ++ List.replicate (5 - 2) none) = [some (W.ref n), some (.d (.int many)), none, none, none] := rfl
  rw [e2]
  obtain ⟨S1, hS1⟩ : ∃ S1, S1 = S.set n (wellOb c1 a1 b1) := ⟨_, rfl⟩
  have key : ∀ o, S.set n o = S1.set n o := fun o => by rw [hS1, List.set_set]
  rw [← hS1] at eA h1'
  simp only [List.length_cons, List.length_nil, if_true, cSeq, eA, Out.bind, bDrawB, key]
  by_cases ha : (1000000000 : Int) ≤ a1
  · have hd : CDivW a1 many := ⟨h0, by
      have : many.natAbs < 2 ^ 62 := by omega
      have := Nat.log2_lt (n := many.natAbs) (k := 62) (by omega) |>.2 this
      omega⟩
    have e : 0 ≤ a1 % many := Int.emod_nonneg _ (by omega)
    refine ⟨(a1 % many).toNat, wellOb c1 (a1 / many) b1, ?_, ?_, c1, _, _, set_at h1', hc1, hb0, hb1⟩
    · skip
      simp only [eVar_ap, eK_ap, aNil_ap, aCons_ap, eOp2_ap, eOp1_ap, eChain_ap, bOf_ap, bNot_ap, bAnd_ap, bOr_ap, eAnd_ap, eOr_ap, eNot_ap, eIf_ap, eTup_ap, eLst_ap, eLstM_ap, cNop_ap, cBreak_ap, cCont_ap, cSeq_ap, cExpr_ap, cSet_ap, cRet_ap, cRetN_ap, cIf_ap, cAsg_ap, cPar2_ap, cPar3_ap, bYes_ap, eCall_ap, oNone_ap, oSome_ap, eSl_ap, cFor_ap, eMtL_ap, aKw_ap, gNm_ap, gTp2, gTp3, gSb_ap, mkTup0, mkTup1, mkTup2, mkTup3, Out.bind, Out.ofO, exq, fin, callE_ap, List.getElem?_cons_succ, List.getElem?_cons_zero, List.set_cons_succ, List.set_cons_zero, List.map_cons, List.map_nil, List.replicate, List.cons_append, List.nil_append, List.length_cons, List.length_nil, Bool.not_true, Bool.not_false, if_true, if_false, ite_true, ite_false, reduceIte, Bool.false_eq_true, Bool.true_eq_false, Nat.reduceAdd, unD, Option.map_some, Nat.zero_le, Sh.sz1, Sh.sz2, Sh.sz3, Sh.sz4, Sh.sz5, Sh.sz6, Sh.sz7, Sh.sz8, Sh.sz9, Sh.sz10, Sh.sz11, Sh.sz12, Sh.sz13, Sh.sz14, Sh.sz15, Sh.sz16, Nat.reduceSub, Nat.reduceLeDiff, reduceCtorEq, Bool.and_true, Bool.true_and, Bool.and_false, Bool.false_and, Bool.or_true, Bool.or_false, Bool.true_or, Bool.false_or, well1 h1', pow9, opInt_int, ha, decide_true, bInt_int, opMod_int h0, opDiv_int hd, wset1 h1']
      rw [Int.toNat_of_nonneg e]
    · rw [Int.toNat_of_nonneg e]; exact Int.emod_lt_of_pos _ h0
  · have m1 : CMul b1 39373 := .inr ⟨by decide, by decide⟩
    have hd : CDivW ((b1 * 39373 + 101) % 2147483647) 89 := ⟨by decide, by decide⟩
    have e : 0 ≤ (b1 * 39373 + 101) % 2147483647 / 89 % many := Int.emod_nonneg _ (by omega)
    have hs := set_at (o' := wellOb c1 a1 ((b1 * 39373 + 101) % 2147483647)) h1'
    refine ⟨((b1 * 39373 + 101) % 2147483647 / 89 % many).toNat, wellOb c1 a1 ((b1 * 39373 + 101) % 2147483647), ?_, ?_, c1, _, _, set_at h1', hc1, Int.emod_nonneg _ (by decide), Int.emod_lt_of_pos _ (by decide)⟩
    · skip
      simp only [eVar_ap, eK_ap, aNil_ap, aCons_ap, eOp2_ap, eOp1_ap, eChain_ap, bOf_ap, bNot_ap, bAnd_ap, bOr_ap, eAnd_ap, eOr_ap, eNot_ap, eIf_ap, eTup_ap, eLst_ap, eLstM_ap, cNop_ap, cBreak_ap, cCont_ap, cSeq_ap, cExpr_ap, cSet_ap, cRet_ap, cRetN_ap, cIf_ap, cAsg_ap, cPar2_ap, cPar3_ap, bYes_ap, eCall_ap, oNone_ap, oSome_ap, eSl_ap, cFor_ap, eMtL_ap, aKw_ap, gNm_ap, gTp2, gTp3, gSb_ap, mkTup0, mkTup1, mkTup2, mkTup3, Out.bind, Out.ofO, exq, fin, callE_ap, List.getElem?_cons_succ, List.getElem?_cons_zero, List.set_cons_succ, List.set_cons_zero, List.map_cons, List.map_nil, List.replicate, List.cons_append, List.nil_append, List.length_cons, List.length_nil, Bool.not_true, Bool.not_false, if_true, if_false, ite_true, ite_false, reduceIte, Bool.false_eq_true, Bool.true_eq_false, Nat.reduceAdd, unD, Option.map_some, Nat.zero_le, Sh.sz1, Sh.sz2, Sh.sz3, Sh.sz4, Sh.sz5, Sh.sz6, Sh.sz7, Sh.sz8, Sh.sz9, Sh.sz10, Sh.sz11, Sh.sz12, Sh.sz13, Sh.sz14, Sh.sz15, Sh.sz16, Nat.reduceSub, Nat.reduceLeDiff, reduceCtorEq, Bool.and_true, Bool.true_and, Bool.and_false, Bool.false_and, Bool.or_true, Bool.or_false, Bool.true_or, Bool.false_or, well1 h1', pow9, opInt_int, ha, decide_false, bInt_int, well2 h1', opMul_int m1, opAdd_int, opMod_int (show (0 : Int) < 2147483647 by decide), wset2 h1', well2 hs, opDiv_int hd, opMod_int h0]
      rw [Int.toNat_of_nonneg e]
    · rw [Int.toNat_of_nonneg e]; exact Int.emod_lt_of_pos _ h0
theorem well_ok {ns : List Int} (hl : ns.length ≤ 63) : mWell [.fl (ns.map .int)] S = .ok (.ref S.length) (S ++ [wellOb ns 0 40507]) ∧ Well (S ++ [wellOb ns 0 40507]) S.length := by
  refine ⟨?_, ns, 0, 40507, by simp, hl, by decide, by decide⟩
  have e1 : cut (ns.map PyData.int) none (some 63) = ns.map .int := by
    rw [show (63 : Int) = ((63 : Nat) : Int) from rfl, cutTo, List.take_of_length_le (by simpa using hl)]
  unfold mWell defM bWell
  simp only [eVar_ap, eK_ap, aNil_ap, aCons_ap, eOp2_ap, eOp1_ap, eChain_ap, bOf_ap, bNot_ap, bAnd_ap, bOr_ap, eAnd_ap, eOr_ap, eNot_ap, eIf_ap, eTup_ap, eLst_ap, eLstM_ap, cNop_ap, cBreak_ap, cCont_ap, cSeq_ap, cExpr_ap, cSet_ap, cRet_ap, cRetN_ap, cIf_ap, cAsg_ap, cPar2_ap, cPar3_ap, bYes_ap, eCall_ap, oNone_ap, oSome_ap, eSl_ap, cFor_ap, eMtL_ap, aKw_ap, gNm_ap, gTp2, gTp3, gSb_ap, mkTup0, mkTup1, mkTup2, mkTup3, Out.bind, Out.ofO, exq, fin, callE_ap, List.getElem?_cons_succ, List.getElem?_cons_zero, List.set_cons_succ, List.set_cons_zero, List.map_cons, List.map_nil, List.replicate, List.cons_append, List.nil_append, List.length_cons, List.length_nil, Bool.not_true, Bool.not_false, if_true, if_false, ite_true, ite_false, reduceIte, Bool.false_eq_true, Bool.true_eq_false, Nat.reduceAdd, unD, Option.map_some, Nat.zero_le, Sh.sz1, Sh.sz2, Sh.sz3, Sh.sz4, Sh.sz5, Sh.sz6, Sh.sz7, Sh.sz8, Sh.sz9, Sh.sz10, Sh.sz11, Sh.sz12, Sh.sz13, Sh.sz14, Sh.sz15, Sh.sz16, Nat.reduceSub, Nat.reduceLeDiff, reduceCtorEq, Bool.and_true, Bool.true_and, Bool.and_false, Bool.false_and, Bool.or_true, Bool.or_false, Bool.true_or, Bool.false_or]
  rw [eLc_y ns (fun i => .d (.int i)) (fun i => .int i) (grd := fun _ => True) ?_ trivial (Nat.le_trans hl (by decide)) fun i _ => ?_]
  · simp only [eVar_ap, eK_ap, aNil_ap, aCons_ap, eOp2_ap, eOp1_ap, eChain_ap, bOf_ap, bNot_ap, bAnd_ap, bOr_ap, eAnd_ap, eOr_ap, eNot_ap, eIf_ap, eTup_ap, eLst_ap, eLstM_ap, cNop_ap, cBreak_ap, cCont_ap, cSeq_ap, cExpr_ap, cSet_ap, cRet_ap, cRetN_ap, cIf_ap, cAsg_ap, cPar2_ap, cPar3_ap, bYes_ap, eCall_ap, oNone_ap, oSome_ap, eSl_ap, cFor_ap, eMtL_ap, aKw_ap, gNm_ap, gTp2, gTp3, gSb_ap, mkTup0, mkTup1, mkTup2, mkTup3, Out.bind, Out.ofO, exq, fin, callE_ap, List.getElem?_cons_succ, List.getElem?_cons_zero, List.set_cons_succ, List.set_cons_zero, List.map_cons, List.map_nil, List.replicate, List.cons_append, List.nil_append, List.length_cons, List.length_nil, Bool.not_true, Bool.not_false, if_true, if_false, ite_true, ite_false, reduceIte, Bool.false_eq_true, Bool.true_eq_false, Nat.reduceAdd, unD, Option.map_some, Nat.zero_le, Sh.sz1, Sh.sz2, Sh.sz3, Sh.sz4, Sh.sz5, Sh.sz6, Sh.sz7, Sh.sz8, Sh.sz9, Sh.sz10, Sh.sz11, Sh.sz12, Sh.sz13, Sh.sz14, Sh.sz15, Sh.sz16, Nat.reduceSub, Nat.reduceLeDiff, reduceCtorEq, Bool.and_true, Bool.true_and, Bool.and_false, Bool.false_and, Bool.or_true, Bool.or_false, Bool.true_or, Bool.false_or, newCell, show 1 + 1 + 1 ≤ sizeLine from by decide]; rfl
  · rw [iSq_list (xs := ns.map .int)]
    · simp
    · simp only [eVar_ap, eK_ap, aNil_ap, aCons_ap, eOp2_ap, eOp1_ap, eChain_ap, bOf_ap, bNot_ap, bAnd_ap, bOr_ap, eAnd_ap, eOr_ap, eNot_ap, eIf_ap, eTup_ap, eLst_ap, eLstM_ap, cNop_ap, cBreak_ap, cCont_ap, cSeq_ap, cExpr_ap, cSet_ap, cRet_ap, cRetN_ap, cIf_ap, cAsg_ap, cPar2_ap, cPar3_ap, bYes_ap, eCall_ap, oNone_ap, oSome_ap, eSl_ap, cFor_ap, eMtL_ap, aKw_ap, gNm_ap, gTp2, gTp3, gSb_ap, mkTup0, mkTup1, mkTup2, mkTup3, Out.bind, Out.ofO, exq, fin, callE_ap, List.getElem?_cons_succ, List.getElem?_cons_zero, List.set_cons_succ, List.set_cons_zero, List.map_cons, List.map_nil, List.replicate, List.cons_append, List.nil_append, List.length_cons, List.length_nil, Bool.not_true, Bool.not_false, if_true, if_false, ite_true, ite_false, reduceIte, Bool.false_eq_true, Bool.true_eq_false, Nat.reduceAdd, unD, Option.map_some, Nat.zero_le, Sh.sz1, Sh.sz2, Sh.sz3, Sh.sz4, Sh.sz5, Sh.sz6, Sh.sz7, Sh.sz8, Sh.sz9, Sh.sz10, Sh.sz11, Sh.sz12, Sh.sz13, Sh.sz14, Sh.sz15, Sh.sz16, Nat.reduceSub, Nat.reduceLeDiff, reduceCtorEq, Bool.and_true, Bool.true_and, Bool.and_false, Bool.false_and, Bool.or_true, Bool.or_false, Bool.true_or, Bool.false_or, opSl_fl, e1]
  · exact ⟨[some (.fl (ns.map .int)), some (.d (.int i))], rfl, rfl⟩
end
end Sh
end

section
/-! Sh: more of how the plain functions compute: pairs, kinds, orders. -/
namespace Sh
open PySem PySem.Spec PyProof.Rows L2
open Classical

section
variable {S : Sto} {ρ : Rho} {xs ys : List PyData}
theorem zipW_map : zipW (xs.map .d) (ys.map .d) = (xs.zip ys).map fun p => W.d (.tuple [p.1, p.2]) := by
  unfold zipW
  rw [List.zipWith_map, List.zip, List.map_zipWith]
  rfl
theorem enumW_map : enumW (xs.map .d) = xs.zipIdx.map fun p => W.d (.tuple [.int (p.2 : Int), p.1]) := by
  apply List.ext_getElem?
  intro i
  unfold enumW
  rw [List.getElem?_zipWith, List.length_map, List.getElem?_map, List.getElem?_map, List.getElem?_zipIdx]
  by_cases h : i < xs.length
  · rw [List.getElem?_range h, List.getElem?_eq_getElem h]
    simp [mkTup, unD]
  · rw [List.getElem?_eq_none (l := List.range xs.length) (by simpa using h), List.getElem?_eq_none (l := xs) (by omega)]; rfl
theorem iZp_tt {ms : AM} (h : ms ρ S = .ok [.d (.tuple xs), .d (.tuple ys)] S) : iZp ms ρ S = .ok ⟨(xs.zip ys).map fun p => W.d (.tuple [p.1, p.2]), fun _ => True⟩ S := by
  simp only [iZp, h, Out.bind, seqW, zipW_map]
theorem iZp_ll {ms : AM} (h : ms ρ S = .ok [.d (.list xs), .d (.list ys)] S) : iZp ms ρ S = .ok ⟨(xs.zip ys).map fun p => W.d (.tuple [p.1, p.2]), fun _ => True⟩ S := by
  simp only [iZp, h, Out.bind, seqW, zipW_map]
theorem iZp_tl {ms : AM} (h : ms ρ S = .ok [.d (.tuple xs), .d (.list ys)] S) : iZp ms ρ S = .ok ⟨(xs.zip ys).map fun p => W.d (.tuple [p.1, p.2]), fun _ => True⟩ S := by
  simp only [iZp, h, Out.bind, seqW, zipW_map]
theorem iZp_lt {ms : AM} (h : ms ρ S = .ok [.d (.list xs), .d (.tuple ys)] S) : iZp ms ρ S = .ok ⟨(xs.zip ys).map fun p => W.d (.tuple [p.1, p.2]), fun _ => True⟩ S := by
  simp only [iZp, h, Out.bind, seqW, zipW_map]
theorem iEn_tup {ms : AM} (h : ms ρ S = .ok [.d (.tuple xs)] S) : iEn ms ρ S = .ok ⟨xs.zipIdx.map fun p => W.d (.tuple [.int (p.2 : Int), p.1]), fun _ => True⟩ S := by
  simp only [iEn, h, Out.bind, tupOf, enumW_map]
theorem iEn_list {ms : AM} (h : ms ρ S = .ok [.d (.list xs)] S) : iEn ms ρ S = .ok ⟨xs.zipIdx.map fun p => W.d (.tuple [.int (p.2 : Int), p.1]), fun _ => True⟩ S := by
  simp only [iEn, h, Out.bind, enumW_map]
end

/-! ### kinds -/
def isI : PyData → Bool
  | .int _ => true
  | _ => false
def isS : PyData → Bool
  | .str _ => true
  | _ => false
def isT : PyData → Bool
  | .tuple _ => true
  | _ => false
theorem isiInt (x : PyData) : (isiT (tyD x) "int" && !isiT (tyD x) "bool") = isI x := by cases x <;> rfl
theorem isiStr (x : PyData) : isiT (tyD x) "str" = isS x := by cases x <;> rfl
theorem isiTup (x : PyData) : isiT (tyD x) "tuple" = isT x := by cases x <;> rfl
theorem isI_iff {x : PyData} : isI x = true ↔ ∃ i, x = .int i := by cases x <;> simp [isI]
theorem isS_iff {x : PyData} : isS x = true ↔ ∃ i, x = .str i := by cases x <;> simp [isS]
theorem isT_iff {x : PyData} : isT x = true ↔ ∃ i, x = .tuple i := by cases x <;> simp [isT]
theorem opEq_sh {S : Sto} {n m : Nat} {x y : PyData} (hx : sm n x = true) (hy : sm m y = true) (hn : n ≤ 64 := by decide) (hm : m ≤ 64 := by decide) : opEq (.d x) (.d y) S = .ok (.d (.bool (PyData.eqv x y))) S := opEq_sm (sm_shaped hx hn) (sm_shaped hy hm)
theorem opNe_sh {S : Sto} {n m : Nat} {x y : PyData} (hx : sm n x = true) (hy : sm m y = true) (hn : n ≤ 64 := by decide) (hm : m ≤ 64 := by decide) : opNe (.d x) (.d y) S = .ok (.d (.bool (!PyData.eqv x y))) S := opNe_sm (sm_shaped hx hn) (sm_shaped hy hm)
theorem eqv_tnil {xs : List PyData} : PyData.eqv (.tuple xs) (.tuple []) = xs.isEmpty := by cases xs <;> rfl
theorem eqv_lnil {xs : List PyData} : PyData.eqv (.list xs) (.list []) = xs.isEmpty := by cases xs <;> rfl

/-! ### orders -/
def ltD : PyData → PyData → Bool
  | .int a, .int b => decide (a < b)
  | .str a, .str b => decide (a.cps.toList < b.cps.toList)
  | _, _ => false
def OneKind (xs : List PyData) : Prop := (∀ x ∈ xs, isS x = true) ∨ ∀ x ∈ xs, isI x = true
theorem opLt_D {S : Sto} {xs : List PyData} {x y : PyData} (h : OneKind xs) (hx : x ∈ xs) (hy : y ∈ xs) : opLt (.d x) (.d y) S = .ok (.d (.bool (ltD x y))) S := by
  rcases h with h | h
  · obtain ⟨a, rfl⟩ := isS_iff.1 (h x hx); obtain ⟨b, rfl⟩ := isS_iff.1 (h y hy); rfl
  · obtain ⟨a, rfl⟩ := isI_iff.1 (h x hx); obtain ⟨b, rfl⟩ := isI_iff.1 (h y hy); rfl
/-- each before the next one -/
def ascD (xs : List PyData) : Bool := (xs.zip xs.tail).all fun p => ltD p.1 p.2
theorem zip_tail {xs : List PyData} : xs.zip xs.tail = (List.range (xs.length - 1)).map fun k => (xs.getD k .none, xs.getD (k + 1) .none) := by
  apply List.ext_getElem
  · simp
  · intro i h1 h2
    simp only [List.length_zip, List.length_tail] at h1
    have e1 : i < xs.length := by omega
    have e2 : i + 1 < xs.length := by omega
    simp [List.getElem_zip, e1, e2]
theorem ascD_range {xs : List PyData} : ascD xs = (List.range (xs.length - 1)).all fun k => ltD (xs.getD k .none) (xs.getD (k + 1) .none) := by
  unfold ascD
  rw [zip_tail, List.all_map]
  rfl
theorem getD_mem {xs : List PyData} {k : Nat} (h : k < xs.length) : xs.getD k .none ∈ xs := by simp [h]
theorem atI_getD {xs : List PyData} {k : Nat} (h : k < xs.length) : atI xs (k : Int) = some (xs.getD k .none) := atI_nat (by simp [h])
theorem atI_getD' {xs : List PyData} {k : Nat} {i : Int} (e : i = (k : Int)) (h : k < xs.length) : atI xs i = some (xs.getD k .none) := e ▸ atI_getD h
/-- a sign in a text -/
def inS (c z : Str) : Bool := !(Builtin.Str.occurrences z c 0 z.length 1).isEmpty
theorem opIn_s {S : Sto} {c z : Str} : opIn false (.d (.str c)) (.d (.str z)) S = .ok (.d (.bool (inS c z))) S := by simp [opIn, inS]
theorem opNotIn_s {S : Sto} {c z : Str} : opIn true (.d (.str c)) (.d (.str z)) S = .ok (.d (.bool (!inS c z))) S := by simp [opIn, inS]
abbrev one (c : Nat) : Str := ⟨#[c]⟩
theorem len_le (h : n ≤ 1000) : n ≤ sizeLine := Nat.le_trans h (by decide)
theorem zipIdx_range {xs : List PyData} : xs.zipIdx = (List.range xs.length).map fun k => (xs.getD k .none, k) := by
  apply List.ext_getElem
  · simp
  · intro i h1 h2
    simp only [List.length_zipIdx] at h1
    simp [h1]

/-! ### loops -/
section
variable {α : Type} {mk : α → W} {grd : Sto → Prop} {g : GM} {body : SM} {tt : BM} {elt : EM} {ρ0 : Rho} {im : IM} {vs : List Nat}
/-- a walk that stops with an answer at the first that fails -/
theorem forL_all {S : Sto} {t : α → Bool} {w0 : W} {P : Rho → Prop} (hg : grd S) : ∀ (l : List α), (∀ x ∈ l, ∀ ρ, P ρ → ∃ ρ1, g (mk x) ρ S = .ok ρ1 S ∧ (t x = true → ∃ ρ2, (body ρ1 S = .ok (.nx ρ2) S ∨ body ρ1 S = .ok (.ct ρ2) S) ∧ P ρ2) ∧ (t x = false → body ρ1 S = .ok (.rt w0) S)) →
    ∀ ρ, P ρ → (l.all t = true → ∃ ρ', P ρ' ∧ forL grd g body (l.map mk) ρ S = .ok (.nx ρ') S) ∧ (l.all t = false → forL grd g body (l.map mk) ρ S = .ok (.rt w0) S)
  | [], _, ρ, hp => ⟨fun _ => ⟨ρ, hp, by simp [forL, hg]⟩, fun h => by simp at h⟩
  | x :: l, h, ρ, hp => by
    obtain ⟨ρ1, e1, ht, hf⟩ := h x (by simp) ρ hp
    have ih := forL_all hg l fun y hy => h y (by simp [hy])
    simp only [List.map_cons, forL, hg, if_true, e1, exq, Out.bind, List.all_cons]
    cases q : t x with
    | true =>
      obtain ⟨ρ2, e2, hp2⟩ := ht q
      simp only [Bool.true_and]
      rcases e2 with e2 | e2 <;> simp only [e2] <;> exact ih ρ2 hp2
    | false => simp only [hf q, Bool.false_and]; exact ⟨fun h => (nomatch h), fun _ => trivial⟩
/-- a walk that keeps to an invariant -/
theorem forL_inv {Inv : Rho → Sto → Prop} (hg : ∀ ρ S, Inv ρ S → grd S) : ∀ (l : List α), (∀ x ∈ l, ∀ ρ S, Inv ρ S → ∃ ρ1 S1, g (mk x) ρ S = .ok ρ1 S1 ∧ ∃ ρ2 S2, (body ρ1 S1 = .ok (.nx ρ2) S2 ∨ body ρ1 S1 = .ok (.ct ρ2) S2) ∧ Inv ρ2 S2) →
    ∀ ρ S, Inv ρ S → ∃ ρ' S', forL grd g body (l.map mk) ρ S = .ok (.nx ρ') S' ∧ Inv ρ' S'
  | [], _, ρ, S, hp => ⟨ρ, S, by simp [forL, hg ρ S hp], hp⟩
  | x :: l, h, ρ, S, hp => by
    obtain ⟨ρ1, S1, e1, ρ2, S2, e2, hp2⟩ := h x (by simp) ρ S hp
    obtain ⟨ρ', S', e3, hp3⟩ := forL_inv hg l (fun y hy => h y (by simp [hy])) ρ2 S2 hp2
    refine ⟨ρ', S', ?_, hp3⟩
    simp only [List.map_cons, forL, hg ρ S hp, if_true, e1, exq, Out.bind]
    rcases e2 with e2 | e2 <;> simp only [e2] <;> exact e3
/-- a list of what is made, the store changing -/
theorem lcL_inv {Inv : Sto → Prop} {Pe : PyData → Prop} (hg : ∀ S, Inv S → grd S) : ∀ (l : List α), (∀ x ∈ l, ∀ S, Inv S → ∃ ρ' S1, g (mk x) ρ0 S = .ok ρ' S1 ∧ ∃ y S3, elt ρ' S1 = .ok (.d y) S3 ∧ Pe y ∧ Inv S3) →
    ∀ S, Inv S → ∃ (ys : List PyData) (S' : Sto), lcL grd g bYes elt ρ0 (l.map mk) S = .ok (ys.map .d) S' ∧ Inv S' ∧ ys.length = l.length ∧ ∀ y ∈ ys, Pe y
  | [], _, S, hp => ⟨[], S, by simp [lcL, hg S hp], hp, rfl, fun _ h => nomatch h⟩
  | x :: l, h, S, hp => by
    obtain ⟨ρ', S1, e1, y, S3, e2, hy, hp2⟩ := h x (by simp) S hp
    obtain ⟨ys, S', e3, hp3, hl, ha⟩ := lcL_inv hg l (fun y hy => h y (by simp [hy])) S3 hp2
    refine ⟨y :: ys, S', ?_, hp3, by simp [hl], ?_⟩
    · simp only [List.map_cons, lcL, hg S hp, if_true, e1, Out.bindB, bYes, e2, e3]
    · intro z hz
      rcases List.mem_cons.1 hz with rfl | hz
      · exact hy
      · exact ha z hz
/-- a list of what is chosen, the store changing -/
theorem lcL_flt {Inv : Sto → Prop} (f : α → PyData) (hg : ∀ S, Inv S → grd S) : ∀ (l : List α), (∀ x ∈ l, ∀ S, Inv S → ∃ ρ' S1, g (mk x) ρ0 S = .ok ρ' S1 ∧ ∃ b S2, tt ρ' S1 = .ok b S2 ∧ Inv S2 ∧ (b = true → elt ρ' S2 = .ok (.d (f x)) S2)) →
    ∀ S, Inv S → ∃ (l' : List α) (S' : Sto), l'.Sublist l ∧ lcL grd g tt elt ρ0 (l.map mk) S = .ok ((l'.map f).map .d) S' ∧ Inv S'
  | [], _, S, hp => ⟨[], S, .slnil, by simp [lcL, hg S hp], hp⟩
  | x :: l, h, S, hp => by
    obtain ⟨ρ', S1, e1, b, S2, e2, hp2, hb⟩ := h x (by simp) S hp
    obtain ⟨l', S', hs, e3, hp3⟩ := lcL_flt f hg l (fun y hy => h y (by simp [hy])) S2 hp2
    cases b with
    | true => exact ⟨x :: l', S', hs.cons₂ x, by simp only [List.map_cons, lcL, hg S hp, if_true, e1, Out.bindB, e2, hb rfl, e3], hp3⟩
    | false => exact ⟨l', S', hs.cons x, by simp only [List.map_cons, lcL, hg S hp, if_true, e1, Out.bindB, e2, Bool.false_eq_true, if_false, e3], hp3⟩
theorem eLc_inv {Inv : Sto → Prop} {Pe : PyData → Prop} {ρ : Rho} {S S1 : Sto} (l : List α) (him : im ρ S = .ok ⟨l.map mk, grd⟩ S1) (hz : l.length ≤ sizeLine) (hp : Inv S1) (hg : ∀ S, Inv S → grd S)
    (h : ∀ x ∈ l, ∀ S, Inv S → ∃ ρ' S1, g (mk x) (wipeR ρ vs) S = .ok ρ' S1 ∧ ∃ y S3, elt ρ' S1 = .ok (.d y) S3 ∧ Pe y ∧ Inv S3) : ∃ (ys : List PyData) (S' : Sto), eLc im g bYes elt vs ρ S = .ok (.d (.list ys)) S' ∧ Inv S' ∧ ys.length = l.length ∧ ∀ y ∈ ys, Pe y := by
  obtain ⟨ys, S', e, hp', hl, ha⟩ := lcL_inv hg l h S1 hp
  exact ⟨ys, S', by simp only [eLc, him, Out.bind, List.length_map, hz, if_true, e, Out.bindB, unD_map, Option.map_some, Out.ofO], hp', hl, ha⟩
theorem eLc_flt {Inv : Sto → Prop} {ρ : Rho} {S S1 : Sto} (f : α → PyData) (l : List α) (him : im ρ S = .ok ⟨l.map mk, grd⟩ S1) (hz : l.length ≤ sizeLine) (hp : Inv S1) (hg : ∀ S, Inv S → grd S)
    (h : ∀ x ∈ l, ∀ S, Inv S → ∃ ρ' S1, g (mk x) (wipeR ρ vs) S = .ok ρ' S1 ∧ ∃ b S2, tt ρ' S1 = .ok b S2 ∧ Inv S2 ∧ (b = true → elt ρ' S2 = .ok (.d (f x)) S2)) : ∃ (l' : List α) (S' : Sto), l'.Sublist l ∧ eLc im g tt elt vs ρ S = .ok (.d (.list (l'.map f))) S' ∧ Inv S' := by
  obtain ⟨l', S', hs, e, hp'⟩ := lcL_flt f hg l h S1 hp
  exact ⟨l', S', hs, by simp only [eLc, him, Out.bind, List.length_map (as := l), hz, if_true, e, Out.bindB, unD_map, Option.map_some, Out.ofO], hp'⟩
end
theorem forL_invN {α : Type} {mk : α → W} {grd : Sto → Prop} {g : GM} {body : SM} {Inv : Nat → Rho → Sto → Prop} (hg : ∀ k ρ S, Inv k ρ S → grd S) : ∀ (l : List α) (k : Nat), (∀ x ∈ l, ∀ j ρ S, j < k + l.length → Inv j ρ S → ∃ ρ1 S1, g (mk x) ρ S = .ok ρ1 S1 ∧ ∃ ρ2 S2, (body ρ1 S1 = .ok (.nx ρ2) S2 ∨ body ρ1 S1 = .ok (.ct ρ2) S2) ∧ Inv (j + 1) ρ2 S2) →
    ∀ ρ S, Inv k ρ S → ∃ ρ' S', forL grd g body (l.map mk) ρ S = .ok (.nx ρ') S' ∧ Inv (k + l.length) ρ' S'
  | [], k, _, ρ, S, hp => ⟨ρ, S, by simp [forL, hg k ρ S hp], hp⟩
  | x :: l, k, h, ρ, S, hp => by
    obtain ⟨ρ1, S1, e1, ρ2, S2, e2, hp2⟩ := h x (by simp) k ρ S (by simp) hp
    have el : k + (x :: l).length = k + 1 + l.length := by rw [List.length_cons, Nat.add_comm l.length, ← Nat.add_assoc]
    obtain ⟨ρ', S', e3, hp3⟩ := forL_invN hg l (k + 1) (fun y hy j ρ S hj => h y (by simp [hy]) j ρ S (by rw [el]; exact hj)) ρ2 S2 hp2
    refine ⟨ρ', S', ?_, by rw [el]; exact hp3⟩
    simp only [List.map_cons, forL, hg k ρ S hp, if_true, e1, exq, Out.bind]
    rcases e2 with e2 | e2 <;> simp only [e2] <;> exact e3
/-- items of small depth, not many -/
def Sq (n k : Nat) (xs : List PyData) : Prop := xs.length ≤ k ∧ ∀ x ∈ xs, sm n x = true
section
variable {n k j : Nat} {xs ys : List PyData} {x : PyData}
theorem Sq.nil : Sq n k [] := ⟨Nat.zero_le _, fun _ h => nomatch h⟩
theorem Sq.cons (h : sm n x = true) (h2 : Sq n k xs) : Sq n (k + 1) (x :: xs) := ⟨Nat.succ_le_succ h2.1, fun y hy => (List.mem_cons.1 hy).elim (fun e => e ▸ h) (h2.2 y)⟩
theorem Sq.one (h : sm n x = true) : Sq n 1 [x] := Sq.cons h .nil
theorem Sq.app (h : Sq n k xs) (h2 : Sq n j ys) : Sq n (k + j) (xs ++ ys) := ⟨by rw [List.length_append]; exact Nat.add_le_add h.1 h2.1, fun y hy => (List.mem_append.1 hy).elim (h.2 y) (h2.2 y)⟩
theorem Sq.cut {lo hi : Option Int} (h : Sq n k xs) : Sq n k (cut xs lo hi) := ⟨by unfold Sh.cut; rw [List.length_take, List.length_drop]; have := h.1; omega, fun y hy => h.2 y (List.mem_of_mem_drop (List.mem_of_mem_take hy))⟩
theorem Sq.rev (h : Sq n k xs) : Sq n k xs.reverse := ⟨by simpa using h.1, fun y hy => h.2 y (by simpa using hy)⟩
theorem Sq.le (h : Sq n k xs) (hk : k ≤ j) : Sq n j xs := ⟨Nat.le_trans h.1 hk, h.2⟩
theorem Sq.up {m : Nat} (h : Sq n k xs) (hn : n ≤ m) : Sq m k xs := ⟨h.1, fun x hx => sm_mono (h.2 x hx) hn⟩
theorem Sq.tup (h : Sq n k xs) (hk : k ≤ 1000 := by decide) : sm (n + 1) (.tuple xs) = true := sm_tup.2 ⟨Nat.le_trans h.1 hk, h.2⟩
theorem Sq.lst (h : Sq n k xs) (hk : k ≤ 1000 := by decide) : sm (n + 1) (.list xs) = true := sm_list.2 ⟨Nat.le_trans h.1 hk, h.2⟩
theorem Sq.len (h : Sq n k xs) (hk : k ≤ 1000 := by decide) : xs.length ≤ sizeLine := len_le (Nat.le_trans h.1 hk)
/-- an item by its place -/
theorem atI_mem {i : Nat} (h : i < xs.length) : ∃ d ∈ xs, atI xs (i : Int) = some d := ⟨_, getD_mem h, atI_getD h⟩
end
theorem mAppend_at {S : Sto} {n : Nat} {ws : List W} {y : W} (h : S[n]? = some (.lst ws)) (hl : ws.length < sizeLine) : mAppend (.ref n) [y] S = .ok (.d .none) (S.set n (.lst (ws ++ [y]))) := by simp [mAppend, h, hl]
theorem isL_at {S : Sto} {n : Nat} {ws : List W} (h : S[n]? = some (.lst ws)) : isL S (.ref n) = true := by simp [isL, h]
theorem isL_list {S : Sto} {xs : List PyData} : isL S (.d (.list xs)) = true := rfl
theorem Well.set {S : Sto} {n c : Nat} {o : Ob} (h : Well S n) (hc : c ≠ n) : Well (S.set c o) n := by
  obtain ⟨cells, a, b, h, r⟩ := h
  exact ⟨cells, a, b, by rw [List.getElem?_set_ne hc]; exact h, r⟩
theorem Well.snoc {S : Sto} {n : Nat} {o : Ob} (h : Well S n) : Well (S ++ [o]) n := by
  obtain ⟨cells, a, b, h, r⟩ := h
  refine ⟨cells, a, b, ?_, r⟩
  rw [List.getElem?_append_left]
  · exact h
  · rcases Nat.lt_or_ge n S.length with g | g
    · exact g
    · rw [List.getElem?_eq_none g] at h; cases h
theorem Well.lt {S : Sto} {n : Nat} (h : Well S n) : n < S.length := by
  obtain ⟨cells, a, b, h, r⟩ := h
  rcases Nat.lt_or_ge n S.length with g | g
  · exact g
  · rw [List.getElem?_eq_none g] at h; cases h
/-- pairs of neighbours in an ascending row of numbers -/
theorem ascD_ints : ∀ {l : List Nat}, l.Pairwise (· < ·) → ascD (l.map fun (k : Nat) => PyData.int (k : Int)) = true
  | [], _ => rfl
  | [_], _ => rfl
  | a :: b :: l, h => by
    have h1 : a < b := (List.pairwise_cons.1 h).1 b (by simp)
    have ih := ascD_ints (l := b :: l) (List.pairwise_cons.1 h).2
    simp only [ascD, List.map_cons, List.tail_cons, List.zip_cons_cons, List.all_cons, Bool.and_eq_true] at ih ⊢
    exact ⟨by simp [ltD]; omega, ih⟩
/-- the well lies in cell n, whatever else -/
theorem draw_any {S : Sto} {n : Nat} {many : Int} (hW : Well S n) (h0 : 0 < many) (h1 : many < 2 ^ 62) : ∃ (k : Nat) (S' : Sto), mDraw [.ref n, .d (.int many)] S = .ok (.d (.int k)) S' ∧ (k : Int) < many ∧ Well S' n ∧ S'.length = S.length ∧ ∀ j, j ≠ n → S'[j]? = S[j]? := by
  obtain ⟨k, o, e, hk, hW⟩ := draw_ok hW h0 h1
  exact ⟨k, _, e, hk, hW, by simp, fun j hj => by rw [List.getElem?_set_ne (Ne.symm hj)]⟩
end Sh
end

section
/-! Sh: own exceptions raised; try with several clauses. -/
namespace Sh
open PySem PySem.Spec PyProof.Rows L2
open Classical

/-- raise X('m') of an own class without an __init__ of its own -/
def cRaise (n : Str) : SM := fun ρ S => .ok (.ex ⟨n, none⟩ ρ) S
/-- what of a class is known to raise it -/
structure Rsb (X : Cx) (x : Str) (C : Addr) : Prop where
  g : X.mg x = some (.ref C)
  x : ∃ bmB B newId initId, ExcBaseFacts B newId initId bmB ∧ PySem.W.excIn X.K C bmB newId = true
  k : PySem.W.keepIn X.K (.ref C) = true
  r : Raises X (.ref C)
theorem sm_raise {X : Cx} {E : EX} {W : WX} {x m : Str} {C : Addr} {j : Nat} {p p2 p3 pos : Pos} (hc : X.calm = true) (tk : Tk X E W) (h : Rsb X x C) (hg : Gl X x) (hdb : (x == ("__debug__" : Str)) = false := by decide) :
    SS X E (.Raise (some (.Call (.Name x p) [.Constant (.str m) j p2] [] p3)) none pos) (cRaise x) := by
  obtain ⟨g, ⟨bmB, B, newId, initId, F, q⟩, k, r⟩ := h
  refine PS.le (ps_raise hc tk.tk (pmk_own (j := j) (p := p) (p2 := p2) (pos := p3) (m := m) F q g k r hg hdb)) fun D σ H h => ?_
  obtain ⟨F', ι, S, ρ, R, rs, h⟩ := h
  exact tk.lk _ _ _ _ _ g (h.ok R σ none rs rfl)

/-- an except suite raises nothing -/
def noEx : Out Fl → Out Fl
  | .ok (.ex _ _) _ => .bad
  | o => o
def catchL (sub : Str → Str → Option Bool) (e : Exn) (ρ : Rho) (S : Sto) : List (Str × SM) → Out Fl
  | [] => .ok (.ex e ρ) S
  | (n, h) :: r => match sub e.cls n with
    | some true => noEx (h ρ S)
    | some false => catchL sub e ρ S r
    | none => .bad
def cTry (sub : Str → Str → Option Bool) (body : SM) (hs : List (Str × SM)) : SM := fun ρ S => (body ρ S).bind fun fl S1 => match fl with
  | .ex e ρ1 => catchL sub e ρ1 S1 hs
  | o => .ok o S1
/-- the clauses of a try -/
inductive SHds (X : Cx) (sub : Str → Str → Option Bool) : List ExceptHandler → List (Str × SM) → Prop
  | nil : SHds X sub [] []
  | cons {x : Str} {c : Value} {h : SM} {b₀ : Stmt} {suite : List Stmt} {np pos' : Pos} {hds : List ExceptHandler} {l : List (Str × SM)} (hc : Names X x c) (hx : ∀ n b C, sub n x = some b → X.mg n = some (.ref C) → PySem.W.exmOne X.K (.ref C) c = some b)
      (hs : ∀ (a : Addr) (pn : List (Addr × Obj)), SSs (X.suite a pn) E0x (b₀ :: suite) h) (r : SHds X sub hds l) : SHds X sub (.ExceptHandler (some (.Name x np)) none (b₀ :: suite) pos' :: hds) ((x, h) :: l)
/-- the wish of a try's body -/
def EW (mg : Str → Option Value) (W : WX) : EX := fun σ n d H => ∀ C, mg n = some (.ref C) → W (.ref C) d σ H
theorem sm_try {X : Cx} {E : EX} {Wo : WX} {sub : Str → Str → Option Bool} {body : List Stmt} {h₀ : ExceptHandler} {hds : List ExceptHandler} {m : SM} {l : List (Str × SM)} {pos : Pos} (hs : X.stack = X.env :: X.outer) (hf : X.env.frame = some X.env.locals) (tk : Tk X E Wo)
    (hb : ∀ (W : WX) (pn : List (Addr × Obj)) (xe : Value → Shared → Prop), Tk (X.tr pn xe) (EW X.mg W) W → PassesOwn (model X.prog X.w) X.A X.env xe → SSs (X.tr pn xe) (EW X.mg W) body m)
    (hh : SHds X sub (h₀ :: hds) l) : SS X E (.Try body (h₀ :: hds) [] [] pos) (cTry sub m l) := by
  have key : ∀ {hds : List ExceptHandler} {l : List (Str × SM)}, SHds X sub hds l → ∃ l', HdsOk X hds l' ∧ ∀ {e : Exn} {ρ1 : Rho} {S1 : Sto} {D : Ends} {F1 : FS} {ι1 : List Addr} {H1 : Hp}, Rel X.K F1 ι1 S1 H1 → Post X.K XF F1 ι1 H1 (catchL sub e ρ1 S1 l) (fun F' ι' H' fl _ => PFl X.K E D F' ι' H' fl) →
      ∀ σ' dx, RS X.K F1 ι1 H1 ρ1 σ' → ER X.K F1 ι1 H1 e dx → ∀ C, X.mg e.cls = some (.ref C) → wMany X.K Wo D l' (.ref C) dx σ' H1 := by
    intro hds l hh
    induction hh with
    | nil => exact ⟨[], .nil, fun R h σ' dx rs er C hC => tk.lk _ _ _ _ _ hC (h.ok R σ' dx rs er)⟩
    | @cons x c h b₀ suite np pos' hds l hc hx hs r ih =>
      obtain ⟨l', hl, ih⟩ := ih
      refine ⟨(c, fun _ _ _ D σ H => tS X.K E0x h D σ H) :: l', .cons hc (fun a oe cls d pn _ _ => hs a _) hl, ?_⟩
      intro e ρ1 S1 D F1 ι1 H1 R h1 σ' dx rs er C hC
      unfold catchL at h1
      cases q : sub e.cls x with
      | none => rw [q] at h1; exact h1.elim
      | some b =>
        rw [q] at h1
        refine ⟨b, hx _ _ _ q hC, fun hb a ha => ?_, fun hb => ?_⟩
        · subst hb
          refine ⟨F1, ι1, S1, ρ1, R, rs, ?_⟩
          simp only at h1
          cases qh : h ρ1 S1 with
          | bad => rw [qh] at h1; exact h1.elim
          | exc e2 S2 => rw [qh] at h1; exact h1
          | ok fl S2 =>
            rw [qh] at h1
            cases fl <;> first | exact h1 | exact h1.elim
        · subst hb
          exact ih R h1 σ' dx rs er C hC
  obtain ⟨l', hl, kk⟩ := key hh
  refine PS.le (ps_try_many (tb := fun W => tS X.K (EW X.mg W) m) hs hf tk.tk (fun W pn xe tk' po => hb W pn xe ⟨tk', fun n C d σ H hm h => h C hm⟩ po) hl) fun D σ H h => ?_
  obtain ⟨F, ι, S, ρ, R, rs, h⟩ := h
  refine ⟨F, ι, S, ρ, R, rs, h.bind.imp fun F1 ι1 H1 fl S1 x1 R1 h => ?_⟩
  cases fl with
  | nx ρ1 => exact h.ok R1
  | rt w => exact h.ok R1
  | bk ρ1 => exact h.ok R1
  | ct ρ1 => exact h.ok R1
  | ex e ρ1 => exact fun σ' dx rs' er C hC => kk R1 h σ' dx rs' er C hC
end Sh
end

section
/-! Sh: isinstance with two classes, name op= e, max and min of a list, a mirror that is nowhere told. -/
namespace Sh
open PySem PySem.Spec PyProof.Rows L2
open Classical

section
variable {X : Cx} {E : EX} {pos p p2 p3 p4 : Pos} {e : Expr} {m : EM}
def opIsi2 (T U : String) : Op1 := fun x S => match tyW S x with
  | some t => .ok (.d (.bool (isiT t T || isiT t U))) S
  | none => .bad
theorem s_isi2 {T U : String} {Tn Un : Str} {j : Nat} (hk : ∀ t ∈ ["NoneType", "bool", "int", "str", "list", "tuple"], kitB t T = some (isiT t T)) (hk2 : ∀ t ∈ ["NoneType", "bool", "int", "str", "list", "tuple"], kitB t U = some (isiT t U))
    (hm : X.mg "isinstance" = none) (hmT : X.mg Tn = none) (hmU : X.mg Un = none) (hv : bootBuiltins Tn = some (.type T)) (hv2 : bootBuiltins Un = some (.type U)) (ha : SE X E e m)
    (hg : Gl X "isinstance" := by rfl) (hgT : Gl X Tn := by rfl) (hgU : Gl X Un := by rfl) (hT1 : Tn ≠ "__name__" := by decide) (hT2 : (Tn == ("__debug__" : Str)) = false := by decide) (hU1 : Un ≠ "__name__" := by decide) (hU2 : (Un == ("__debug__" : Str)) = false := by decide)
    (he : starEach [e, .Tuple [.Name Tn p2, .Name Un p3] j p4] X.env = (false, eval e X.env) :: starEach [.Tuple [.Name Tn p2, .Name Un p3] j p4] X.env := by rfl) (he2 : starEach [.Tuple [.Name Tn p2, .Name Un p3] j p4] X.env = (false, eval (.Tuple [.Name Tn p2, .Name Un p3] j p4) X.env) :: starEach [] X.env := by rfl)
    (he3 : starEach [.Name Tn p2, .Name Un p3] X.env = (false, eval (.Name Tn p2) X.env) :: starEach [.Name Un p3] X.env := by rfl) (he4 : starEach [.Name Un p3] X.env = (false, eval (.Name Un p3) X.env) :: starEach [] X.env := by rfl)
    (hpl : (backTo pos (starEach [.Tuple [.Name Tn p2, .Name Un p3] j p4] X.env)).any (·.1) = false := by rfl) :
    SE X E (.Call (.Name "isinstance" p) [e, .Tuple [.Name Tn p2, .Name Un p3] j p4] [] pos) (eOp1 (opIsi2 T U) m) := by
  refine PE.le (pe_callB call_isiT hg hm (by decide +kernel) (pa_cons ha (pa_cons (pe_tup (pa_cons (pe_bltn hgT hmT hv (v := .ty T) rfl hT1 hT2) (pa_cons (pe_bltn hgU hmU hv2 (v := .ty U) rfl hU1 hU2) pa_nil he4) he3)) pa_nil he2) he) (by decide) (by decide) he hpl) fun σ H Q h => ?_
  obtain ⟨F, ι, S, ρ, R, rs, h⟩ := h
  refine ⟨F, ι, S, ρ, R, rs, h.bind.imp fun F1 ι1 H1 w S1 x1 R1 h v r => ?_⟩
  unfold opIsi2 at h
  split at h
  · rename_i t q
    refine ⟨by show 2 ≤ sizeLine; decide, fun tp n => ?_⟩
    have x2 := Ext.frz (F := F1) (ι := ι1) (o := .tup [V.ty T, V.ty U]) n
    have R2 := R1.frz (o := .tup [V.ty T, V.ty U]) n
    obtain ⟨ty, hm⟩ := (r.ext x2).tyx R2 q
    refine ⟨v, tp, [.ty T, .ty U], _, [.type T, .type U], isiT t T || isiT t U, rfl, upd_same, .cons (.ty T) (.cons (.ty U) .nil), ty, ?_, (h.ext x2).ok R2 _ (.d (.bl _))⟩
    refine kitAny_cons (kit_ty (hk t hm)) (fun hb => kitAny_cons (kit_ty (hk2 t hm)) (fun hb2 => ?_) fun hb2 => ?_) fun hb => by rw [hb]; rfl
    · rw [hb, hb2]; exact kitAny_nil
    · rw [hb2, Bool.or_true]
  · exact h.elim
end

/-! ### name op= e, of numbers -/
def cAug (i : Nat) (f : Op2) (m : EM) : SM := fun ρ S => match ρ[i]? with
  | some (some w) => exq ρ (m ρ S) fun y S1 => exq ρ (f w y S1) fun z S2 => .ok (.nx (ρ.set i (some z))) S2
  | _ => .bad
def opAddI : Op2 := fun x y S => match x, y with
  | .d (.int a), .d (.int b) => .ok (.d (.int (a + b))) S
  | _, _ => .bad
noncomputable def opMulI : Op2 := fun x y S => match x, y with
  | .d (.int a), .d (.int b) => if CMul a b then .ok (.d (.int (a * b))) S else .bad
  | _, _ => .bad
section
variable {X : Cx} {E : EX} {pos pos' : Pos} {e : Expr} {m : EM}
theorem sm_aug (i : Nat) {x : Str} {op : Operator} {r : R2} {f : Op2} (hN : X.N.Nodup) (ho : OpR X (inplaceOp op) r) (hf : Ok2 X r f) (h : SE X E e m) (hi : X.N[i]? = some x := by rfl) (hx : Loc X.env.scope x := by first | exact Or.inl rfl | exact Or.inr rfl) (hq : X.fn x = true ∨ X.env.scope.names.lookup x = some .local := by first | exact .inl rfl | exact .inr rfl) :
    SS X E (.AugAssign (.Name x pos') op e pos) (cAug i f m) := by
  have hp : PIp X op (fun x y H Q => r x y H Q) := fun pins s σ H x y v u Q I r1 r2 q => ho pins s σ H x y v u Q I r1 r2 q
  refine PS.le (ps_aug hN hi hx h hp hq) fun D σ H h => ?_
  obtain ⟨F, ι, S, ρ, R, rs, h⟩ := h
  unfold cAug at h
  split at h
  · rename_i w ew
    obtain ⟨v, e1, rv⟩ := rs.2 i w ew
    refine ⟨v, e1, F, ι, S, ρ, R, rs, (h.exq rs).imp fun F1 ι1 H1 y S1 x1 R1 h u ru => ?_⟩
    refine hf (E σ) F1 ι1 S1 H1 w y v u _ R1 (rv.ext x1) ru ?_
    refine (h.exq (rs.ext x1)).imp fun F2 ι2 H2 z S2 x2 R2 h z' rz => ?_
    exact h.ok R2 _ (((rs.ext x1).ext x2).set rz i)
  · exact h.elim
theorem ok_addI : Ok2 X (rI0 fun i j => .int (i + j)) opAddI := by
  intro E F ι S H x y v u Q R rx ry h
  unfold opAddI at h
  split at h
  · obtain rfl := rx.int_of; obtain rfl := ry.int_of
    exact ⟨_, _, rfl, rfl, h.ok R _ (.d (.int _))⟩
  · exact h.elim
theorem ok_subI : Ok2 X (rI0 fun i j => .int (i - j)) opSub := by
  intro E F ι S H x y v u Q R rx ry h
  unfold opSub at h
  split at h
  · obtain rfl := rx.int_of; obtain rfl := ry.int_of
    exact ⟨_, _, rfl, rfl, h.ok R _ (.d (.int _))⟩
  · exact h.elim
theorem ok_mulI : Ok2 X (rI CMul fun i j => .int (i * j)) opMulI := by
  intro E F ι S H x y v u Q R rx ry h
  unfold opMulI at h
  split at h
  · obtain rfl := rx.int_of; obtain rfl := ry.int_of
    split at h
    · rename_i hc; exact ⟨_, _, rfl, rfl, hc, h.ok R _ (.d (.int _))⟩
    · exact h.elim
  · exact h.elim
theorem ok_divI : Ok2 X (rI CDivW fun i j => .int (i / j)) opDiv := by
  intro E F ι S H x y v u Q R rx ry h
  unfold opDiv at h
  split at h
  · obtain rfl := rx.int_of; obtain rfl := ry.int_of
    split at h
    · rename_i hc; exact ⟨_, _, rfl, rfl, hc, h.ok R _ (.d (.int _))⟩
    · exact h.elim
  · exact h.elim
theorem sm_augAdd (i : Nat) {x : Str} (hN : X.N.Nodup) (h : SE X E e m) (hi : X.N[i]? = some x := by rfl) (hx : Loc X.env.scope x := by first | exact Or.inl rfl | exact Or.inr rfl) (hq : X.fn x = true ∨ X.env.scope.names.lookup x = some .local := by first | exact .inl rfl | exact .inr rfl) : SS X E (.AugAssign (.Name x pos') .Add e pos) (cAug i opAddI m) := sm_aug i hN iop_add ok_addI h hi hx hq
theorem sm_augSub (i : Nat) {x : Str} (hN : X.N.Nodup) (h : SE X E e m) (hi : X.N[i]? = some x := by rfl) (hx : Loc X.env.scope x := by first | exact Or.inl rfl | exact Or.inr rfl) (hq : X.fn x = true ∨ X.env.scope.names.lookup x = some .local := by first | exact .inl rfl | exact .inr rfl) : SS X E (.AugAssign (.Name x pos') .Sub e pos) (cAug i opSub m) := sm_aug i hN iop_sub ok_subI h hi hx hq
theorem sm_augMul (i : Nat) {x : Str} (hN : X.N.Nodup) (h : SE X E e m) (hi : X.N[i]? = some x := by rfl) (hx : Loc X.env.scope x := by first | exact Or.inl rfl | exact Or.inr rfl) (hq : X.fn x = true ∨ X.env.scope.names.lookup x = some .local := by first | exact .inl rfl | exact .inr rfl) : SS X E (.AugAssign (.Name x pos') .Mult e pos) (cAug i opMulI m) := sm_aug i hN iop_mul ok_mulI h hi hx hq
theorem sm_augDiv (i : Nat) {x : Str} (hN : X.N.Nodup) (h : SE X E e m) (hi : X.N[i]? = some x := by rfl) (hx : Loc X.env.scope x := by first | exact Or.inl rfl | exact Or.inr rfl) (hq : X.fn x = true ∨ X.env.scope.names.lookup x = some .local := by first | exact .inl rfl | exact .inr rfl) : SS X E (.AugAssign (.Name x pos') .FloorDiv e pos) (cAug i opDiv m) := sm_aug i hN iop_fdivW ok_divI h hi hx hq
end

/-! ### max(xs), min(xs) of a list of numbers -/
def maxI : List Int → Int
  | [] => 0
  | [x] => x
  | x :: r => if maxI r ≤ x then x else maxI r
def minI : List Int → Int
  | [] => 0
  | [x] => x
  | x :: r => if x ≤ minI r then x else minI r
theorem maxI_spec : ∀ {l : List Int}, l ≠ [] → maxI l ∈ l ∧ ∀ y ∈ l, y ≤ maxI l
  | [], h => absurd rfl h
  | [x], _ => by simp [maxI]
  | x :: y :: r, _ => by
    obtain ⟨h1, h2⟩ := maxI_spec (l := y :: r) (by simp)
    have e : maxI (x :: y :: r) = if maxI (y :: r) ≤ x then x else maxI (y :: r) := rfl
    rw [e]
    split
    · rename_i hl
      refine ⟨by simp, fun z hz => ?_⟩
      rcases List.mem_cons.1 hz with rfl | hz
      · exact Int.le_refl _
      · exact Int.le_trans (h2 z hz) hl
    · rename_i hl
      refine ⟨List.mem_cons_of_mem _ h1, fun z hz => ?_⟩
      rcases List.mem_cons.1 hz with rfl | hz
      · omega
      · exact h2 z hz
theorem minI_spec : ∀ {l : List Int}, l ≠ [] → minI l ∈ l ∧ ∀ y ∈ l, minI l ≤ y
  | [], h => absurd rfl h
  | [x], _ => by simp [minI]
  | x :: y :: r, _ => by
    obtain ⟨h1, h2⟩ := minI_spec (l := y :: r) (by simp)
    have e : minI (x :: y :: r) = if x ≤ minI (y :: r) then x else minI (y :: r) := rfl
    rw [e]
    split
    · rename_i hl
      refine ⟨by simp, fun z hz => ?_⟩
      rcases List.mem_cons.1 hz with rfl | hz
      · exact Int.le_refl _
      · exact Int.le_trans hl (h2 z hz)
    · rename_i hl
      refine ⟨List.mem_cons_of_mem _ h1, fun z hz => ?_⟩
      rcases List.mem_cons.1 hz with rfl | hz
      · omega
      · exact h2 z hz
def bMax : CF := fun ws S => match ws with
  | [.d (.list xs)] => match intsD xs with
    | some bs => if bs = [] then .bad else .ok (.d (.int (maxI bs))) S
    | none => .bad
  | _ => .bad
def bMin : CF := fun ws S => match ws with
  | [.d (.list xs)] => match intsD xs with
    | some bs => if bs = [] then .bad else .ok (.d (.int (minI bs))) S
    | none => .bad
  | _ => .bad
section
variable {X : Cx} {E : EX} {pos p : Pos} {e : Expr} {ms : AM}
theorem ok_max : OkC X (rMax X.K) bMax := by
  intro E F ι S H ws vs Q R r h
  unfold bMax at h
  split at h
  · cases r with | cons r1 r2 => cases r2 with | nil =>
    obtain ⟨a, us, rfl, st, rr⟩ := r1.lst_of
    split at h
    · rename_i bs q
      rw [intsD_eq q] at rr
      obtain rfl := rr.ints
      split at h
      · exact h.elim
      · rename_i hne
        refine ⟨a, bs, rfl, st.now, List.length_pos_iff.2 hne, fun m hm hy => ?_⟩
        obtain ⟨s1, s2⟩ := maxI_spec hne
        have : maxI bs = m := Int.le_antisymm (hy _ s1) (s2 m hm)
        subst this
        exact h.ok R _ (.d (.int _))
    · exact h.elim
  · exact h.elim
theorem ok_min : OkC X (rMin X.K) bMin := by
  intro E F ι S H ws vs Q R r h
  unfold bMin at h
  split at h
  · cases r with | cons r1 r2 => cases r2 with | nil =>
    obtain ⟨a, us, rfl, st, rr⟩ := r1.lst_of
    split at h
    · rename_i bs q
      rw [intsD_eq q] at rr
      obtain rfl := rr.ints
      split at h
      · exact h.elim
      · rename_i hne
        refine ⟨a, bs, rfl, st.now, List.length_pos_iff.2 hne, fun m hm hy => ?_⟩
        obtain ⟨s1, s2⟩ := minI_spec hne
        have : minI bs = m := Int.le_antisymm (s2 m hm) (hy _ s1)
        subst this
        exact h.ok R _ (.d (.int _))
    · exact h.elim
  · exact h.elim
theorem s_max (hc : X.calm = true) (hm : X.mg "max" = none) (ha : SA X E [e] ms) (hg : Gl X "max" := by rfl) (he : starEach [e] X.env = (false, eval e X.env) :: starEach [] X.env := by rfl) (hpl : (backTo pos (starEach [] X.env)).any (·.1) = false := by rfl) : SE X E (.Call (.Name "max" p) [e] [] pos) (eCall bMax ms) :=
  s_callB (cr_max hc) ok_max hm ha (by decide +kernel) hg (by decide) (by decide) he hpl
theorem s_min (hc : X.calm = true) (hm : X.mg "min" = none) (ha : SA X E [e] ms) (hg : Gl X "min" := by rfl) (he : starEach [e] X.env = (false, eval e X.env) :: starEach [] X.env := by rfl) (hpl : (backTo pos (starEach [] X.env)).any (·.1) = false := by rfl) : SE X E (.Call (.Name "min" p) [e] [] pos) (eCall bMin ms) :=
  s_callB (cr_min hc) ok_min hm ha (by decide +kernel) hg (by decide) (by decide) he hpl
end

/-! ### a def that calls itself: told by depth -/
def badM : FM := fun _ _ => .bad
theorem fn_bad {P : Program} {w : World} {K : PySem.W.Frag} {mg : Str → Option Value} {base : Heap} {CX : CXT} {k : Nat} {f : Addr} {fd : FuncData} {ps : List Str} {n : Nat} : FnOk P w K mg base CX k f fd ps (spM K mg n badM) :=
  ⟨fun vs H Q E h => by obtain ⟨F, ι, S, ws, R, r, hl, h⟩ := h; exact h.elim, fun _ _ _ _ _ _ _ _ _ _ _ _ _ h => by obtain ⟨F, ι, S, ws, R, r, hl, h⟩ := h; exact h.elim⟩
end Sh
end

section
/-! Sh: a comprehension with two fors. -/
namespace Sh
open PySem PySem.Spec PyProof.Rows L2
open Classical

noncomputable def lc2L (grd : Sto → Prop) (g : GM) (tt : BM) (im1 : IM) (g1 : GM) (tt1 : BM) (elt : EM) (vs1 : List Nat) (ρ : Rho) : List W → Sto → Out (List W)
  | [] => fun S => if grd S then .ok [] S else .bad
  | w :: ws => fun S => if grd S then (g w ρ S).bindB fun ρ1 S1 => (tt ρ1 S1).bindB fun b S2 =>
      if b = true then (im1 ρ1 S2).bindB fun its1 S3 => (lcL its1.grd g1 tt1 elt (wipeR ρ1 vs1) its1.items S3).bindB fun r1 S4 => (lc2L grd g tt im1 g1 tt1 elt vs1 ρ ws S4).bindB fun r2 S5 => .ok (r1 ++ r2) S5
      else lc2L grd g tt im1 g1 tt1 elt vs1 ρ ws S2
    else .bad
termination_by structural l => l
noncomputable def eLc2 (im : IM) (g : GM) (tt : BM) (im1 : IM) (g1 : GM) (tt1 : BM) (elt : EM) (vs vs1 : List Nat) : EM := fun ρ S => (im ρ S).bind fun its S1 =>
  (lc2L its.grd g tt im1 g1 tt1 elt vs1 (wipeR ρ vs) its.items S1).bindB fun ws S2 => if ws.length ≤ sizeLine then .ofO S2 ((unD ws).map fun xs => .d (.list xs)) else .bad
/-- the inner walk, some items being there already -/
theorem lc_in {K : PySem.W.Frag} {F0 F : FS} {ι0 ι : List Addr} {S S' : Sto} {H0 H : Hp} {ρ : Rho} {σ : L2.St} {J : It} {its : Its} {g : GM} {tt : BM} {elt : EM} {vs : List Nat} {D : Addr} {Qd : Hp → Prop} {ws0 r0 : List W} {us0 : List V}
    (x0 : Ext F0 ι0 H0 F ι H) (nD : H0 D = none) (R : Rel K F ι S H) (rs : RS K F ι H ρ σ) (ok : IterOk K J F ι H its) (nI : D ∉ ι) (nF : ¬ F D) (hD : H D = some (.lst us0)) (rw0 : RWs K F ι H ws0 us0) (hl : (ws0 ++ r0).length ≤ sizeLine)
    (h : lcL its.grd g tt elt (wipeR ρ vs) its.items S = .ok r0 S')
    (hq : ∀ F' ι' H' us, Ext F0 ι0 H0 F' ι' H' → Wk F ι H F' ι' H' → Rel K F' ι' S' H' → D ∉ ι' → ¬ F' D → H' D = some (.lst us) → RWs K F' ι' H' (ws0 ++ r0) us → Qd H') :
    ∃ Wi : Nat → Nat → Hp → Prop, (∃ m, Wi 0 m H) ∧ ∀ i m H, Wi i m H →
      (J.stop i H ∧ Qd H) ∨ (J.go i H ∧ ∃ Nx : Hp → Prop, (∀ H', Nx H' → ∃ m', m' < m ∧ Wi (i + 1) m' H') ∧ ∀ x H', J.yld i H x H' → tGc K vs g x (L2.wipe σ vs) H' fun σ2 H2 => L2.wipe σ2 vs = L2.wipe σ vs ∧ tB K E0x tt σ2 H2 fun b H3 =>
        if b = true then tE K E0x elt σ2 H3 fun y H4 => ∃ acc, H4 D = some (.lst acc) ∧ acc.length < sizeLine ∧ Nx (upd H4 D (.lst (acc ++ [y]))) else Nx H3) := by
  let P : Nat → Hp → Prop := fun i H' => ∃ F' ι' S1 ws us r, Ext F0 ι0 H0 F' ι' H' ∧ Wk F ι H F' ι' H' ∧ Rel K F' ι' S1 H' ∧ D ∉ ι' ∧ ¬ F' D ∧ RS K F' ι' H' (wipeR ρ vs) (L2.wipe σ vs) ∧ H' D = some (.lst us) ∧ RWs K F' ι' H' ws us ∧
    lcL its.grd g tt elt (wipeR ρ vs) (its.items.drop i) S1 = .ok r S' ∧ ws ++ r = ws0 ++ r0
  refine ⟨fun i m H => m = its.items.length - i ∧ i ≤ its.items.length ∧ P i H, ⟨its.items.length, by simp, Nat.zero_le _, F, ι, S, ws0, us0, r0, x0, Wk.refl, R, nI, nF, rs.wipe vs, hD, rw0, h, rfl⟩, ?_⟩
  rintro i m H2 ⟨rfl, hi, F', ι', S1, ws, us, r, x', w', R', nI', nF', rs', hD, rw', e1, e2⟩
  by_cases hlt : i < its.items.length
  · rw [List.drop_eq_getElem_cons hlt] at e1
    unfold lcL at e1
    split at e1
    · rename_i hg'
      obtain ⟨ρ1, S2, q1, e1⟩ := Out.bindB_ok e1
      obtain ⟨b, S3, q2, e1⟩ := Out.bindB_ok e1
      have okk := (ok i F' ι' S1 H2 w' R' hg').2 _ (List.getElem?_eq_getElem hlt)
      refine .inr ⟨okk.1, P (i + 1), fun H' p => ⟨its.items.length - (i + 1), by omega, rfl, hlt, p⟩, fun x H3 y => ?_⟩
      obtain ⟨F3, x3, R3, r3⟩ := okk.2 x H3 y
      have D2 : H2 D ≠ none := by rw [hD]; simp
      refine ⟨F3, ι', S1, wipeR ρ vs, _, R3, rs'.ext x3, r3, ?_⟩
      rw [q1]
      intro F4 ι4 H4 x4 R4 σ4 rs4 ew
      have x24 := x3.trans x4
      refine ⟨ew.trans (by rw [wipe_wipe]), F4, ι4, S2, ρ1, R4, rs4, ?_⟩
      rw [q2]
      intro F5 ι5 H5 x5 R5
      have x25 := x24.trans x5
      cases b with
      | false =>
        simp only [Bool.false_eq_true, if_false] at e1 ⊢
        exact ⟨F5, ι5, S3, ws, us, r, x'.trans x25, w'.trans x25.toWk, R5, x25.notI nI' D2, x25.notF nF' D2, rs'.ext x25, x25.keep D _ hD nI', rw'.ext x25, e1, e2⟩
      | true =>
        simp only [if_true] at e1 ⊢
        obtain ⟨yy, S4, q3, e1⟩ := Out.bindB_ok e1
        obtain ⟨r', S5, q4, e1⟩ := Out.bindB_ok e1
        refine ⟨F5, ι5, S3, ρ1, R5, rs4.ext x5, ?_⟩
        rw [q3]
        intro F6 ι6 H6 x6 R6 v rv
        have x26 := x25.trans x6
        have nI6 := x26.notI nI' D2
        have nF6 := x26.notF nF' D2
        have hl6 := rw'.length
        cases e1
        have hlen : ws.length < sizeLine := by
          have := congrArg List.length e2
          rw [List.length_append, List.length_cons] at this
          omega
        refine ⟨us, x26.keep D _ hD nI', by omega, F6, ι6, S4, ws ++ [yy], us ++ [v], r', (x'.trans x26).wr0 nD, (w'.trans x26.toWk).trans (Wk.wr0 nF6), R6.wr0 nF6 nI6, nI6, nF6, (rs'.ext x26).wk (Wk.wr0 nF6), upd_same, ((rw'.ext x26).append (.cons rv .nil)).wk (Wk.wr0 nF6), q4, ?_⟩
        rw [← e2]; simp
    · cases e1
  · have e : i = its.items.length := by omega
    subst e
    rw [List.drop_length] at e1
    unfold lcL at e1
    split at e1
    · rename_i hg'
      cases e1
      rw [List.append_nil] at e2
      subst e2
      exact .inl ⟨(ok _ F' ι' _ H2 w' R' hg').1 rfl, hq F' ι' H2 us x' w' R' nI' nF' hD rw'⟩
    · cases e1
theorem lc2_run {K : PySem.W.Frag} {F : FS} {ι : List Addr} {S S' : Sto} {H : Hp} {ρ : Rho} {σ : L2.St} {J : It} {its : Its} {g g1 : GM} {tt tt1 : BM} {im1 : IM} {elt : EM} {vs vs1 : List Nat} {D : Addr} {Qd : Hp → Prop} {wsE : List W}
    (R : Rel K F ι S H) (rs : RS K F ι H ρ σ) (ok : IterOk K J F ι H its) (hE : wsE.length ≤ sizeLine) (nD : H D = none)
    (h : lc2L its.grd g tt im1 g1 tt1 elt vs1 (wipeR ρ vs) its.items S = .ok wsE S')
    (hq : ∀ F' ι' H' us, Ext F ι H F' ι' H' → Rel K F' ι' S' H' → D ∉ ι' → ¬ F' D → H' D = some (.lst us) → RWs K F' ι' H' wsE us → Qd H') :
    ∃ Wi : Nat → Nat → Hp → Prop, (∃ m, Wi 0 m (upd H D (.lst []))) ∧ ∀ i m H, Wi i m H →
      (J.stop i H ∧ Qd H) ∨ (J.go i H ∧ ∃ Nx : Hp → Prop, (∀ H', Nx H' → ∃ m', m' < m ∧ Wi (i + 1) m' H') ∧ ∀ x H', J.yld i H x H' → tGc K vs g x (L2.wipe σ vs) H' fun σ2 H2 => L2.wipe σ2 vs = L2.wipe σ vs ∧ tB K E0x tt σ2 H2 fun b H3 =>
        if b = true then tI K E0x im1 σ2 H3 fun J1 H4 => ∃ W1 : Nat → Nat → Hp → Prop, (∃ m, W1 0 m H4) ∧ ∀ j k H, W1 j k H →
          (J1.stop j H ∧ Nx H) ∨ (J1.go j H ∧ ∃ Nx1 : Hp → Prop, (∀ H', Nx1 H' → ∃ k', k' < k ∧ W1 (j + 1) k' H') ∧ ∀ x H', J1.yld j H x H' → tGc K vs1 g1 x (L2.wipe σ2 vs1) H' fun σ3 H5 => L2.wipe σ3 vs1 = L2.wipe σ2 vs1 ∧ tB K E0x tt1 σ3 H5 fun b H6 =>
            if b = true then tE K E0x elt σ3 H6 fun y H7 => ∃ acc, H7 D = some (.lst acc) ∧ acc.length < sizeLine ∧ Nx1 (upd H7 D (.lst (acc ++ [y]))) else Nx1 H6)
        else Nx H3) := by
  have nF : ¬ F D := fun f => R.ft D f nD
  have nI : D ∉ ι := fun f => R.there f nD
  let P : Nat → Hp → Prop := fun i H' => ∃ F' ι' S1 ws us r, Ext F ι H F' ι' H' ∧ Rel K F' ι' S1 H' ∧ D ∉ ι' ∧ ¬ F' D ∧ RS K F' ι' H' (wipeR ρ vs) (L2.wipe σ vs) ∧ H' D = some (.lst us) ∧ RWs K F' ι' H' ws us ∧
    lc2L its.grd g tt im1 g1 tt1 elt vs1 (wipeR ρ vs) (its.items.drop i) S1 = .ok r S' ∧ ws ++ r = wsE
  refine ⟨fun i m H => m = its.items.length - i ∧ i ≤ its.items.length ∧ P i H, ⟨its.items.length, by simp, Nat.zero_le _, F, ι, S, [], [], wsE, Ext.lay nD, R.wr0 nF nI, nI, nF, (rs.wipe vs).wk (Wk.wr0 nF), upd_same, .nil, h, rfl⟩, ?_⟩
  rintro i m H2 ⟨rfl, hi, F', ι', S1, ws, us, r, x', R', nI', nF', rs', hD, rw', e1, e2⟩
  by_cases hlt : i < its.items.length
  · rw [List.drop_eq_getElem_cons hlt] at e1
    unfold lc2L at e1
    split at e1
    · rename_i hg'
      obtain ⟨ρ1, S2, q1, e1⟩ := Out.bindB_ok e1
      obtain ⟨b, S3, q2, e1⟩ := Out.bindB_ok e1
      have okk := (ok i F' ι' S1 H2 x'.toWk R' hg').2 _ (List.getElem?_eq_getElem hlt)
      refine .inr ⟨okk.1, P (i + 1), fun H' p => ⟨its.items.length - (i + 1), by omega, rfl, hlt, p⟩, fun x H3 y => ?_⟩
      obtain ⟨F3, x3, R3, r3⟩ := okk.2 x H3 y
      have D2 : H2 D ≠ none := by rw [hD]; simp
      refine ⟨F3, ι', S1, wipeR ρ vs, _, R3, rs'.ext x3, r3, ?_⟩
      rw [q1]
      intro F4 ι4 H4 x4 R4 σ4 rs4 ew
      have x24 := x3.trans x4
      refine ⟨ew.trans (by rw [wipe_wipe]), F4, ι4, S2, ρ1, R4, rs4, ?_⟩
      rw [q2]
      intro F5 ι5 H5 x5 R5
      have x25 := x24.trans x5
      cases b with
      | false =>
        simp only [Bool.false_eq_true, if_false] at e1 ⊢
        exact ⟨F5, ι5, S3, ws, us, r, x'.trans x25, R5, x25.notI nI' D2, x25.notF nF' D2, rs'.ext x25, x25.keep D _ hD nI', rw'.ext x25, e1, e2⟩
      | true =>
        simp only [if_true] at e1 ⊢
        obtain ⟨its1, S4, q3, e1⟩ := Out.bindB_ok e1
        obtain ⟨r1, S5, q4, e1⟩ := Out.bindB_ok e1
        obtain ⟨r2, S6, q5, e1⟩ := Out.bindB_ok e1
        cases e1
        refine ⟨F5, ι5, S3, ρ1, R5, rs4.ext x5, ?_⟩
        rw [q3]
        intro F6 ι6 H6 x6 R6 J1 ok1
        have x26 := x25.trans x6
        have nI6 := x26.notI nI' D2
        have nF6 := x26.notF nF' D2
        have hlen : (ws ++ r1).length ≤ sizeLine := by
          have := congrArg List.length e2
          simp only [List.length_append] at this ⊢
          omega
        refine lc_in (x'.trans x26) nD R6 ((rs4.ext x5).ext x6) ok1 nI6 nF6 (x26.keep D _ hD nI') (rw'.ext x26) hlen q4 fun F' ι' H' us' xx ww RR nII nFF hDD rww => ?_
        exact ⟨F', ι', S5, ws ++ r1, us', r2, xx, RR, nII, nFF, (rs'.ext x26).wk ww, hDD, rww, q5, by rw [← e2, List.append_assoc]⟩
    · cases e1
  · have e : i = its.items.length := by omega
    subst e
    rw [List.drop_length] at e1
    unfold lc2L at e1
    split at e1
    · rename_i hg'
      cases e1
      rw [List.append_nil] at e2
      subst e2
      exact .inl ⟨(ok _ F' ι' _ H2 x'.toWk R' hg').1 rfl, hq F' ι' H2 us x' R' nI' nF' hD rw'⟩
    · cases e1
section
variable {X : Cx} {E : EX} {elt tg it tg1 it1 : Expr} {ifs ifs1 : List Expr} {scope : Scope} {own : List (Str × Nat)} {vs1 : List Nat} {pos spos : Pos} {im im1 : IM} {g g1 : GM} {tt tt1 : BM} {m : EM}
theorem lc2_read {K : PySem.W.Frag} {σ : L2.St} {H : Hp} {Q : VK} {vs : List Nat} (h : tE K E (eLc2 im g tt im1 g1 tt1 m vs vs1) σ H Q) : tLc2 (tI K E im) (tGc K vs g) (tB K E0x tt) (tI K E0x im1) (tGc K vs1 g1) (tB K E0x tt1) (tE K E0x m) vs vs1 σ H Q := by
  obtain ⟨F, ι, S, ρ, R, rs, h⟩ := h
  refine ⟨F, ι, S, ρ, R, rs, h.bind.imp fun F1 ι1 H1 its S1 x1 R1 h J ok D nD => ?_⟩
  cases q : lc2L its.grd g tt im1 g1 tt1 m vs1 (wipeR ρ vs) its.items S1 with
  | ok ws S2 =>
    rw [q] at h
    have h' : Post K (E σ) F1 ι1 H1 (if ws.length ≤ sizeLine then Out.ofO S2 ((unD ws).map fun xs => W.d (.list xs)) else .bad) _ := h
    split at h'
    · rename_i hz
      refine lc2_run R1 (rs.ext x1) ok hz nD q fun F' ι' H' us x R' nI nF hD rw' => ?_
      obtain ⟨w, e, h⟩ := Post.ofO h'
      cases q2 : unD ws with
      | none => rw [q2] at e; cases e
      | some xs =>
        rw [q2] at e; cases e
        rw [unD_eq q2] at rw' hz
        have hn : H' D ≠ none := by rw [hD]; simp
        refine h _ _ _ (x.adoptF nD) (R'.adoptF nI hn) _ (.d (.lst (.mk' ?_ (.inl rfl) hD) (rw'.toD.wk (Wk.adoptF (ι := ι')))))
        rw [← rw'.toD.length]; simpa using hz
    · exact h'.elim
  | exc e S2 => rw [q] at h; exact h.elim
  | bad => rw [q] at h; exact h.elim
theorem s_lc2 (hc : X.calm = true) (hN : X.N.Nodup) (ok : BlkOk X.N X.env.scope scope own) (hv : ∀ i ∈ vs1, i ∈ own.map (·.2)) (hi : SI X E tg it im)
    (hg : ∀ (s : Shared) (H : Hp) (C : Addr) (cl : List (Str × Addr)) (fp : List Addr), SGc (X.blk s H scope (compEnvC scope cl C X.env) fp) (own.map (·.2)) tg g) (ht : ∀ (s : Shared) (H : Hp) (C : Addr) (cl : List (Str × Addr)) (fp : List Addr), STs (X.blk s H scope (compEnvC scope cl C X.env) fp) ifs tt)
    (hi1 : ∀ (s : Shared) (H : Hp) (C : Addr) (cl : List (Str × Addr)) (fp : List Addr), SI (X.blk s H scope (compEnvC scope cl C X.env) fp) E0x tg1 it1 im1)
    (hg1 : ∀ (s : Shared) (H : Hp) (C : Addr) (cl : List (Str × Addr)) (fp : List Addr), SGc (X.blk s H scope (compEnvC scope cl C X.env) fp) vs1 tg1 g1) (ht1 : ∀ (s : Shared) (H : Hp) (C : Addr) (cl : List (Str × Addr)) (fp : List Addr), STs (X.blk s H scope (compEnvC scope cl C X.env) fp) ifs1 tt1)
    (he : ∀ (s : Shared) (H : Hp) (C : Addr) (cl : List (Str × Addr)) (fp : List Addr), SE (X.blk s H scope (compEnvC scope cl C X.env) fp) E0x elt m) (hs : ∀ x, foldedSetIterable it X.env x = pure x := by intro _; rfl) (hs1 : ∀ env x, foldedSetIterable it1 env x = pure x := by intro _ _; rfl) :
    SE X E (.ListComp elt [⟨tg, it, ifs, 0⟩, ⟨tg1, it1, ifs1, 0⟩] scope pos) (eLc2 im g tt im1 g1 tt1 m (own.map (·.2)) vs1) :=
  PE.le (pe_lc2 (g := tGc X.K (own.map fun p : Str × Nat => p.2) g) (tt := tB X.K E0x tt) (wi1 := tI X.K E0x im1) (g1 := tGc X.K vs1 g1) (tt1 := tB X.K E0x tt1) (te := tE X.K E0x m) hc hN hi ok hv hg ht hi1 hg1 ht1 he hs hs1) fun σ H Q h => lc2_read h
theorem sm_setLc2 (i : Nat) {y : Str} {py : Pos} (hc : X.calm = true) (hN : X.N.Nodup) (ok : BlkOk X.N X.env.scope scope own) (hv : ∀ i ∈ vs1, i ∈ own.map (·.2)) (hi : SI X E tg it im)
    (hg : ∀ (s : Shared) (H : Hp) (C : Addr) (cl : List (Str × Addr)) (fp : List Addr), SGc (X.blk s H scope (compEnvC scope cl C X.env) fp) (own.map (·.2)) tg g) (ht : ∀ (s : Shared) (H : Hp) (C : Addr) (cl : List (Str × Addr)) (fp : List Addr), STs (X.blk s H scope (compEnvC scope cl C X.env) fp) ifs tt)
    (hi1 : ∀ (s : Shared) (H : Hp) (C : Addr) (cl : List (Str × Addr)) (fp : List Addr), SI (X.blk s H scope (compEnvC scope cl C X.env) fp) E0x tg1 it1 im1)
    (hg1 : ∀ (s : Shared) (H : Hp) (C : Addr) (cl : List (Str × Addr)) (fp : List Addr), SGc (X.blk s H scope (compEnvC scope cl C X.env) fp) vs1 tg1 g1) (ht1 : ∀ (s : Shared) (H : Hp) (C : Addr) (cl : List (Str × Addr)) (fp : List Addr), STs (X.blk s H scope (compEnvC scope cl C X.env) fp) ifs1 tt1)
    (he : ∀ (s : Shared) (H : Hp) (C : Addr) (cl : List (Str × Addr)) (fp : List Addr), SE (X.blk s H scope (compEnvC scope cl C X.env) fp) E0x elt m) (hy : X.N[i]? = some y := by rfl) (hyl : X.env.scope.names.lookup y = some .local := by rfl)
    (hsw : swapsWith (.ListComp elt [⟨tg, it, ifs, 0⟩, ⟨tg1, it1, ifs1, 0⟩] scope pos) (some (.Name y py)) spos.line X.env = pure true := by rfl) (hs : ∀ x, foldedSetIterable it X.env x = pure x := by intro _; rfl) (hs1 : ∀ env x, foldedSetIterable it1 env x = pure x := by intro _ _; rfl) :
    SS X E (.Assign [.Name y py] (.ListComp elt [⟨tg, it, ifs, 0⟩, ⟨tg1, it1, ifs1, 0⟩] scope pos) spos) (cSet i (eLc2 im g tt im1 g1 tt1 m (own.map (·.2)) vs1)) := by
  refine PS.le (ps_setLc2 (g := tGc X.K (own.map fun p : Str × Nat => p.2) g) (tt := tB X.K E0x tt) (wi1 := tI X.K E0x im1) (g1 := tGc X.K vs1 g1) (tt1 := tB X.K E0x tt1) (te := tE X.K E0x m) hc hN hy hyl hsw hi ok hv hg ht hi1 hg1 ht1 he hs hs1) fun D σ H h => ?_
  obtain ⟨F, ι, S, ρ, R, rs, h⟩ := h
  exact lc2_read (E := E) ⟨F, ι, S, ρ, R, rs, (h.exq rs).imp fun F1 ι1 H1 w S1 x1 R1 h v r => h.ok R1 _ ((rs.ext x1).set r i)⟩
end
end Sh
namespace Sh
open PySem PySem.Spec PyProof.Rows L2
/-! ### exception classes of a program, told by name -/
structure Rsk (K : PySem.W.Frag) (mg : Str → Option Value) (x : Str) (C : Addr) : Prop where
  g : mg x = some (.ref C)
  x : PySem.W.excIn K C [.type "ValueError", .type "Exception", .type "BaseException", .type "object"] "ValueError.__new__" = true
  k : PySem.W.keepIn K (.ref C) = true
  b : PySem.W.subIn K (.ref C) (.type "BaseException") = some true
  t : PySem.W.typeIn K (.ref C) = some (.type "type")
  i : PySem.W.isClsIn K C = true
theorem Rsk.rsb {X : Cx} {x : Str} {C : Addr} (h : Rsk X.K X.mg x C) : Rsb X x C := ⟨h.g, ⟨_, _, _, _, PySem.F.excBase_ValueError, h.x⟩, h.k, raises_own h.b h.t⟩
theorem Rsk.exm {K : PySem.W.Frag} {mg : Str → Option Value} {x y : Str} {S C : Addr} {b : Bool} (h : Rsk K mg x S) (h2 : Rsk K mg y C) (h4 : PySem.W.subIn K (.ref S) (.ref C) = some b) : PySem.W.exmOne K (.ref S) (.ref C) = some b := by
  have e1 : (PySem.W.subIn K (.ref C) (.type "BaseException") == some true) = true := by rw [h2.b] <;> rfl
  have e2 : ((PySem.W.clsIn K C).isSome && PySem.W.typeIn K (.ref C) == some (.type "type")) = true := by
    have h2' : (PySem.W.clsIn K C).isSome = true := h2.i
    rw [h2', h2.t] <;> rfl
  show (if (PySem.W.subIn K (.ref C) (.type "BaseException") == some true) = true then (if ((PySem.W.clsIn K C).isSome && PySem.W.typeIn K (.ref C) == some (.type "type")) = true then PySem.W.subIn K (.ref S) (.ref C) else none) else none) = some b
  rw [if_pos e1, if_pos e2]
  exact h4
def subL : List (Str × Str × Bool) → Str → Str → Option Bool
  | [], _, _ => none
  | (x, y, r) :: t, a, b => if a = x ∧ b = y then some r else subL t a b
inductive Hxs (K : PySem.W.Frag) (mg : Str → Option Value) (c : Value) (x : Str) : List (Str × Str × Bool) → Prop
  | nil : Hxs K mg c x []
  | hit {n : Str} {r : Bool} {C : Addr} {l : List (Str × Str × Bool)} : mg n = some (.ref C) → PySem.W.exmOne K (.ref C) c = some r → Hxs K mg c x l → Hxs K mg c x ((n, x, r) :: l)
  | skip {n y : Str} {r : Bool} {l : List (Str × Str × Bool)} : y ≠ x → Hxs K mg c x l → Hxs K mg c x ((n, y, r) :: l)
theorem Hxs.hx {K : PySem.W.Frag} {mg : Str → Option Value} {c : Value} {x : Str} : ∀ {l : List (Str × Str × Bool)}, Hxs K mg c x l → ∀ n b C, subL l n x = some b → mg n = some (.ref C) → PySem.W.exmOne K (.ref C) c = some b
  | _, .nil, _, _, _, h, _ => nomatch h
  | _, .hit h1 h2 r, n, b, C, h, hm => by
    unfold subL at h
    split at h
    · rename_i e
      cases h
      rw [← e.1, hm] at h1
      cases h1
      exact h2
    · exact r.hx n b C h hm
  | _, .skip hy r, n, b, C, h, hm => by
    unfold subL at h
    split at h
    · rename_i e; exact absurd e.2.symm hy
    · exact r.hx n b C h hm
theorem names_own {X : Cx} {x : Str} {C : Addr} (hg : Gl X x) (hm : X.mg x = some (.ref C)) (hd : (x == ("__debug__" : Str)) = false := by decide) : Names X x (.ref C) := ⟨hg, hd, .inl hm⟩
end Sh
end

section
/-! Sh: the jug of the laws, and what is taken from it; the number of draws is counted. -/
namespace Sh
open PySem PySem.Spec PyProof.Rows L2
open Classical

noncomputable def bJug : SM := cRet (eLstM (aCons (eCall bList (aCons (eVar 0) aNil)) (aCons (eInt 0) (aCons (eInt 0) aNil))))
noncomputable def mJug : FM := defM 1 1 bJug
noncomputable def bTakeR : SM := cSeq (cIf (bOf (eOp2 (opLt) (eVar 3) (eOp2 opPow (eInt 10) (eInt 18)))) (cSet 3 (eOp2 opMod (eCall bInt (aCons (eOp2 opPow (eOp2 opAdd (eOp2 opAdd (eOp2 opMul (eVar 3) (eInt 2654435761)) (eOp2 opMul (eVar 2) (eInt 40503))) (eInt 977)) (eInt 3)) aNil)) (eInt 618970019642690137449562111))) (cNop)) (cSeq (cAsg (eOp2 opAdd (eVar 2) (eInt 1)) (gSb setIx (eVar 0) (eInt 1))) (cAsg (eVar 3) (gSb setIx (eVar 0) (eInt 2))))
noncomputable def bTakeA : SM := cIf (bOf (eOp2 (opEq) (eOp2 opIx (eVar 0) (eInt 2)) (eInt 0))) (cSeq (cSet 2 (eOp2 opIx (eVar 0) (eInt 1))) (cSeq (cSet 3 (eOp2 opAdd (eOp2 opMul (eInt 3) (eVar 2)) (eInt 5))) (cSeq (cIf (bOf (eOp2 (opLt) (eVar 2) (eCall bLen (aCons (eOp2 opIx (eVar 0) (eInt 0)) aNil)))) (cSet 3 (eOp2 opAdd (eOp2 opMul (eInt 2) (eCall bAbs (aCons (eOp2 opIx (eOp2 opIx (eVar 0) (eInt 0)) (eVar 2)) aNil))) (eCall bInt (aCons (eOp2 (opLt) (eOp2 opIx (eOp2 opIx (eVar 0) (eInt 0)) (eVar 2)) (eInt 0)) aNil)))) (cNop)) bTakeR))) (cNop)
noncomputable def bTakeB : SM := (cSeq (cSet 4 (eOp2 opMod (eCall bInt (aCons (eOp2 opIx (eVar 0) (eInt 2)) aNil)) (eVar 1))) (cSeq (cAsg (eOp2 opDiv (eOp2 opIx (eVar 0) (eInt 2)) (eVar 1)) (gSb setIx (eVar 0) (eInt 2))) (cRet (eVar 4))))
noncomputable def bTake : SM := cSeq bTakeA bTakeB
noncomputable def mTake : FM := defM 5 2 bTake
def jugOb (cells : List Int) (a : Nat) (b : Int) : Ob := .lst [.d (.list (cells.map .int)), .d (.int (a : Int)), .d (.int b)]
/-- a jug lies in cell n; at most c were taken -/
def Jug (S : Sto) (n c : Nat) : Prop := ∃ cells a b, S[n]? = some (jugOb cells a b) ∧ cells.length ≤ 63 ∧ a ≤ c ∧ 0 ≤ b
theorem Jug.mono {S : Sto} {n c d : Nat} (h : Jug S n c) (hd : c ≤ d) : Jug S n d := by
  obtain ⟨cells, a, b, h, h1, h2, h3⟩ := h
  exact ⟨cells, a, b, h, h1, Nat.le_trans h2 hd, h3⟩
section
variable {S : Sto} {n : Nat} {cells : List Int} {a : Nat} {b : Int}
theorem jug0 (h : S[n]? = some (jugOb cells a b)) : opIx (.ref n) (.d (.int 0)) S = .ok (.d (.list (cells.map .int))) S := opIx_ref h rfl
theorem jug1 (h : S[n]? = some (jugOb cells a b)) : opIx (.ref n) (.d (.int 1)) S = .ok (.d (.int (a : Int))) S := opIx_ref h rfl
theorem jug2 (h : S[n]? = some (jugOb cells a b)) : opIx (.ref n) (.d (.int 2)) S = .ok (.d (.int b)) S := opIx_ref h rfl
theorem jset1 (h : S[n]? = some (jugOb cells a b)) : setIx (.ref n) (.d (.int 1)) (.d (.int ((a : Int) + 1))) S = .ok () (S.set n (jugOb cells (a + 1) b)) := by simp only [setIx, h, jugOb]; rfl
theorem jset2 {b2 : Int} (h : S[n]? = some (jugOb cells a b)) : setIx (.ref n) (.d (.int 2)) (.d (.int b2)) S = .ok () (S.set n (jugOb cells a b2)) := by simp only [setIx, h, jugOb]; rfl
theorem pow3 {x : Int} (h0 : 0 ≤ x) (h1 : x < 2 ^ 200) : opPow (.d (.int x)) (.d (.int 3)) S = .ok (.d (.int (x ^ 3))) S := by
  refine opPow_intW ⟨by decide, ?_⟩
  have : x.natAbs.log2 ≤ 200 := by
    rcases Nat.eq_zero_or_pos x.natAbs with e | e
    · rw [e]; decide
    · have := (Nat.log2_lt (n := x.natAbs) (k := 200) (by omega)).2 (by omega)
      omega
  omega
theorem takeR (h : S[n]? = some (jugOb cells a b)) (ha : a < 2 ^ 40) {many x : Int} (hx : 0 ≤ x) : ∃ (b2 : Int) (w3 : Option W), bTakeR [some (.ref n), some (.d (.int many)), some (.d (.int (a : Int))), some (.d (.int x)), none] S
    = .ok (.nx [some (.ref n), some (.d (.int many)), some (.d (.int (a : Int))), w3, none]) (S.set n (jugOb cells (a + 1) b2)) ∧ 0 ≤ b2 := by
  have h2 : (S.set n (jugOb cells (a + 1) b))[n]? = some (jugOb cells (a + 1) b) := set_at h
  have m1 : ∀ x, CMul x 2654435761 := fun x => .inr ⟨by decide, by decide⟩
  have m2 : ∀ x, CMul x 40503 := fun x => .inr ⟨by decide, by decide⟩
  unfold bTakeR
  by_cases hs : x < 1000000000000000000
  · refine ⟨(x * 2654435761 + (a : Int) * 40503 + 977) ^ 3 % 618970019642690137449562111, some (.d (.int ((x * 2654435761 + (a : Int) * 40503 + 977) ^ 3 % 618970019642690137449562111))), ?_, Int.emod_nonneg _ (by decide)⟩
    rw [← List.set_set (a := jugOb cells (a + 1) b)]
    simp only [eVar_ap, eK_ap, aNil_ap, aCons_ap, eOp2_ap, eOp1_ap, eChain_ap, bOf_ap, bNot_ap, bAnd_ap, bOr_ap, eAnd_ap, eOr_ap, eNot_ap, eIf_ap, eTup_ap, eLst_ap, eLstM_ap, cNop_ap, cBreak_ap, cCont_ap, cSeq_ap, cExpr_ap, cSet_ap, cRet_ap, cRetN_ap, cIf_ap, cAsg_ap, cPar2_ap, cPar3_ap, bYes_ap, eCall_ap, oNone_ap, oSome_ap, eSl_ap, cFor_ap, eMtL_ap, aKw_ap, gNm_ap, gTp2, gTp3, gSb_ap, mkTup0, mkTup1, mkTup2, mkTup3, Out.bind, Out.ofO, exq, fin, callE_ap, List.getElem?_cons_succ, List.getElem?_cons_zero, List.set_cons_succ, List.set_cons_zero, List.map_cons, List.map_nil, List.replicate, List.cons_append, List.nil_append, List.length_cons, List.length_nil, Bool.not_true, Bool.not_false, if_true, if_false, ite_true, ite_false, reduceIte, Bool.false_eq_true, Bool.true_eq_false, Nat.reduceAdd, unD, Option.map_some, Nat.zero_le, Sh.sz1, Sh.sz2, Sh.sz3, Sh.sz4, Sh.sz5, Sh.sz6, Sh.sz7, Sh.sz8, Sh.sz9, Sh.sz10, Sh.sz11, Sh.sz12, Sh.sz13, Sh.sz14, Sh.sz15, Sh.sz16, Nat.reduceSub, Nat.reduceLeDiff, reduceCtorEq, Bool.and_true, Bool.true_and, Bool.and_false, Bool.false_and, Bool.or_true, Bool.or_false, Bool.true_or, Bool.false_or, opLt_int, pow18, hs, decide_true, opMul_int (m1 x), opMul_int (m2 a), opAdd_int, pow3 (x := x * 2654435761 + (a : Int) * 40503 + 977) (by omega) (by omega), bInt_int, opMod_int (show (0 : Int) < 618970019642690137449562111 by decide), jset1 h, jset2 h2]
  · refine ⟨x, some (.d (.int x)), ?_, hx⟩
    rw [← List.set_set (a := jugOb cells (a + 1) b)]
    simp only [eVar_ap, eK_ap, aNil_ap, aCons_ap, eOp2_ap, eOp1_ap, eChain_ap, bOf_ap, bNot_ap, bAnd_ap, bOr_ap, eAnd_ap, eOr_ap, eNot_ap, eIf_ap, eTup_ap, eLst_ap, eLstM_ap, cNop_ap, cBreak_ap, cCont_ap, cSeq_ap, cExpr_ap, cSet_ap, cRet_ap, cRetN_ap, cIf_ap, cAsg_ap, cPar2_ap, cPar3_ap, bYes_ap, eCall_ap, oNone_ap, oSome_ap, eSl_ap, cFor_ap, eMtL_ap, aKw_ap, gNm_ap, gTp2, gTp3, gSb_ap, mkTup0, mkTup1, mkTup2, mkTup3, Out.bind, Out.ofO, exq, fin, callE_ap, List.getElem?_cons_succ, List.getElem?_cons_zero, List.set_cons_succ, List.set_cons_zero, List.map_cons, List.map_nil, List.replicate, List.cons_append, List.nil_append, List.length_cons, List.length_nil, Bool.not_true, Bool.not_false, if_true, if_false, ite_true, ite_false, reduceIte, Bool.false_eq_true, Bool.true_eq_false, Nat.reduceAdd, unD, Option.map_some, Nat.zero_le, Sh.sz1, Sh.sz2, Sh.sz3, Sh.sz4, Sh.sz5, Sh.sz6, Sh.sz7, Sh.sz8, Sh.sz9, Sh.sz10, Sh.sz11, Sh.sz12, Sh.sz13, Sh.sz14, Sh.sz15, Sh.sz16, Nat.reduceSub, Nat.reduceLeDiff, reduceCtorEq, Bool.and_true, Bool.true_and, Bool.and_false, Bool.false_and, Bool.or_true, Bool.or_false, Bool.true_or, Bool.false_or, opLt_int, pow18, hs, decide_false, opAdd_int, jset1 h, jset2 h2]
theorem takeA {c : Nat} (h : S[n]? = some (jugOb cells a b)) (ha : a ≤ c) (hb : 0 ≤ b) (hL : c < 2 ^ 40) {many : Int} : ∃ (a2 : Nat) (b2 : Int) (w2 w3 : Option W), bTakeA [some (.ref n), some (.d (.int many)), none, none, none] S = .ok (.nx [some (.ref n), some (.d (.int many)), w2, w3, none]) (S.set n (jugOb cells a2 b2)) ∧ a2 ≤ c + 1 ∧ 0 ≤ b2 := by
  unfold bTakeA
  by_cases hz : b = 0
  · subst hz
    have m3 : CMul 3 (a : Int) := .inl ⟨by decide, by decide⟩
    have m4 : ∀ x, CMul 2 x := fun x => .inl ⟨by decide, by decide⟩
    by_cases hl : a < cells.length
    · have e0 : atI (cells.map PyData.int) (a : Int) = some (.int cells[a]) := atI_nat (by simp [hl])
      generalize cells[a] = y at e0
      obtain ⟨b2, w3, e, hb2⟩ := takeR h (by omega) (many := many) (x := 2 * (if y < 0 then -y else y) + (if decide (y < 0) = true then 1 else 0)) (by split <;> split <;> omega)
      refine ⟨a + 1, b2, some (.d (.int (a : Int))), w3, ?_, by omega, hb2⟩
      simp only [eVar_ap, eK_ap, aNil_ap, aCons_ap, eOp2_ap, eOp1_ap, eChain_ap, bOf_ap, bNot_ap, bAnd_ap, bOr_ap, eAnd_ap, eOr_ap, eNot_ap, eIf_ap, eTup_ap, eLst_ap, eLstM_ap, cNop_ap, cBreak_ap, cCont_ap, cSeq_ap, cExpr_ap, cSet_ap, cRet_ap, cRetN_ap, cIf_ap, cAsg_ap, cPar2_ap, cPar3_ap, bYes_ap, eCall_ap, oNone_ap, oSome_ap, eSl_ap, cFor_ap, eMtL_ap, aKw_ap, gNm_ap, gTp2, gTp3, gSb_ap, mkTup0, mkTup1, mkTup2, mkTup3, Out.bind, Out.ofO, exq, fin, callE_ap, List.getElem?_cons_succ, List.getElem?_cons_zero, List.set_cons_succ, List.set_cons_zero, List.map_cons, List.map_nil, List.replicate, List.cons_append, List.nil_append, List.length_cons, List.length_nil, Bool.not_true, Bool.not_false, if_true, if_false, ite_true, ite_false, reduceIte, Bool.false_eq_true, Bool.true_eq_false, Nat.reduceAdd, unD, Option.map_some, Nat.zero_le, Sh.sz1, Sh.sz2, Sh.sz3, Sh.sz4, Sh.sz5, Sh.sz6, Sh.sz7, Sh.sz8, Sh.sz9, Sh.sz10, Sh.sz11, Sh.sz12, Sh.sz13, Sh.sz14, Sh.sz15, Sh.sz16, Nat.reduceSub, Nat.reduceLeDiff, reduceCtorEq, Bool.and_true, Bool.true_and, Bool.and_false, Bool.false_and, Bool.or_true, Bool.or_false, Bool.true_or, Bool.false_or, jug0 h, jug1 h, jug2 h, opEq_int, show ((0 : Int) == 0) = true from rfl, opMul_int m3, opAdd_int, bLen_list, List.length_map, opLt_int, show decide ((a : Int) < (cells.length : Int)) = true from decide_eq_true (by omega), opIx_list e0, bAbs_int, opMul_int (m4 _), bInt_bool, e]
    · obtain ⟨b2, w3, e, hb2⟩ := takeR h (by omega) (many := many) (x := 3 * (a : Int) + 5) (by omega)
      refine ⟨a + 1, b2, some (.d (.int (a : Int))), w3, ?_, by omega, hb2⟩
      simp only [eVar_ap, eK_ap, aNil_ap, aCons_ap, eOp2_ap, eOp1_ap, eChain_ap, bOf_ap, bNot_ap, bAnd_ap, bOr_ap, eAnd_ap, eOr_ap, eNot_ap, eIf_ap, eTup_ap, eLst_ap, eLstM_ap, cNop_ap, cBreak_ap, cCont_ap, cSeq_ap, cExpr_ap, cSet_ap, cRet_ap, cRetN_ap, cIf_ap, cAsg_ap, cPar2_ap, cPar3_ap, bYes_ap, eCall_ap, oNone_ap, oSome_ap, eSl_ap, cFor_ap, eMtL_ap, aKw_ap, gNm_ap, gTp2, gTp3, gSb_ap, mkTup0, mkTup1, mkTup2, mkTup3, Out.bind, Out.ofO, exq, fin, callE_ap, List.getElem?_cons_succ, List.getElem?_cons_zero, List.set_cons_succ, List.set_cons_zero, List.map_cons, List.map_nil, List.replicate, List.cons_append, List.nil_append, List.length_cons, List.length_nil, Bool.not_true, Bool.not_false, if_true, if_false, ite_true, ite_false, reduceIte, Bool.false_eq_true, Bool.true_eq_false, Nat.reduceAdd, unD, Option.map_some, Nat.zero_le, Sh.sz1, Sh.sz2, Sh.sz3, Sh.sz4, Sh.sz5, Sh.sz6, Sh.sz7, Sh.sz8, Sh.sz9, Sh.sz10, Sh.sz11, Sh.sz12, Sh.sz13, Sh.sz14, Sh.sz15, Sh.sz16, Nat.reduceSub, Nat.reduceLeDiff, reduceCtorEq, Bool.and_true, Bool.true_and, Bool.and_false, Bool.false_and, Bool.or_true, Bool.or_false, Bool.true_or, Bool.false_or, jug0 h, jug1 h, jug2 h, opEq_int, show ((0 : Int) == 0) = true from rfl, opMul_int m3, opAdd_int, bLen_list, List.length_map, opLt_int, show decide ((a : Int) < (cells.length : Int)) = false from decide_eq_false (by omega), e]
  · refine ⟨a, b, none, none, ?_, by omega, hb⟩
    rw [set_self h]
    simp only [eVar_ap, eK_ap, aNil_ap, aCons_ap, eOp2_ap, eOp1_ap, eChain_ap, bOf_ap, bNot_ap, bAnd_ap, bOr_ap, eAnd_ap, eOr_ap, eNot_ap, eIf_ap, eTup_ap, eLst_ap, eLstM_ap, cNop_ap, cBreak_ap, cCont_ap, cSeq_ap, cExpr_ap, cSet_ap, cRet_ap, cRetN_ap, cIf_ap, cAsg_ap, cPar2_ap, cPar3_ap, bYes_ap, eCall_ap, oNone_ap, oSome_ap, eSl_ap, cFor_ap, eMtL_ap, aKw_ap, gNm_ap, gTp2, gTp3, gSb_ap, mkTup0, mkTup1, mkTup2, mkTup3, Out.bind, Out.ofO, exq, fin, callE_ap, List.getElem?_cons_succ, List.getElem?_cons_zero, List.set_cons_succ, List.set_cons_zero, List.map_cons, List.map_nil, List.replicate, List.cons_append, List.nil_append, List.length_cons, List.length_nil, Bool.not_true, Bool.not_false, if_true, if_false, ite_true, ite_false, reduceIte, Bool.false_eq_true, Bool.true_eq_false, Nat.reduceAdd, unD, Option.map_some, Nat.zero_le, Sh.sz1, Sh.sz2, Sh.sz3, Sh.sz4, Sh.sz5, Sh.sz6, Sh.sz7, Sh.sz8, Sh.sz9, Sh.sz10, Sh.sz11, Sh.sz12, Sh.sz13, Sh.sz14, Sh.sz15, Sh.sz16, Nat.reduceSub, Nat.reduceLeDiff, reduceCtorEq, Bool.and_true, Bool.true_and, Bool.and_false, Bool.false_and, Bool.or_true, Bool.or_false, Bool.true_or, Bool.false_or, jug2 h, opEq_int, show (b == 0) = false by simp [hz]]
/-- what is taken, and what is left -/
theorem take_ok {c : Nat} {many : Int} (hJ : Jug S n c) (hL : c < 2 ^ 40) (h0 : 0 < many) (h1 : many < 2 ^ 62) : ∃ (k : Nat) (o : Ob), mTake [.ref n, .d (.int many)] S = .ok (.d (.int k)) (S.set n o) ∧ (k : Int) < many ∧ Jug (S.set n o) n (c + 1) := by
  obtain ⟨cells, a, b, h, hc, ha, hb⟩ := hJ
  obtain ⟨a1, b1, w2, w3, eA, ha1, hb1⟩ := takeA h ha hb hL (many := many)
  have h1' := set_at (o' := jugOb cells a1 b1) h
  unfold mTake defM bTake
  rw [show ([W.ref n, W.d (PyData.int many)].map some ++ List.replicate (5 - 2) none) = [some (W.ref n), some (.d (.int many)), none, none, none] from rfl]
  obtain ⟨S1, hS1⟩ : ∃ S1, S1 = S.set n (jugOb cells a1 b1) := ⟨_, rfl⟩
  have key : ∀ o, S.set n o = S1.set n o := fun o => by rw [hS1, List.set_set]
  rw [← hS1] at eA h1'
  simp only [List.length_cons, List.length_nil, if_true, cSeq, eA, Out.bind, bTakeB, key]
  have hd : CDivW b1 many := ⟨h0, by
    have : many.natAbs < 2 ^ 62 := by omega
    have := Nat.log2_lt (n := many.natAbs) (k := 62) (by omega) |>.2 this
    omega⟩
  have e : 0 ≤ b1 % many := Int.emod_nonneg _ (by omega)
  refine ⟨(b1 % many).toNat, jugOb cells a1 (b1 / many), ?_, ?_, cells, _, _, set_at h1', hc, ha1, Int.ediv_nonneg hb1 (by omega)⟩
  · simp only [eVar_ap, eK_ap, aNil_ap, aCons_ap, eOp2_ap, eOp1_ap, eChain_ap, bOf_ap, bNot_ap, bAnd_ap, bOr_ap, eAnd_ap, eOr_ap, eNot_ap, eIf_ap, eTup_ap, eLst_ap, eLstM_ap, cNop_ap, cBreak_ap, cCont_ap, cSeq_ap, cExpr_ap, cSet_ap, cRet_ap, cRetN_ap, cIf_ap, cAsg_ap, cPar2_ap, cPar3_ap, bYes_ap, eCall_ap, oNone_ap, oSome_ap, eSl_ap, cFor_ap, eMtL_ap, aKw_ap, gNm_ap, gTp2, gTp3, gSb_ap, mkTup0, mkTup1, mkTup2, mkTup3, Out.bind, Out.ofO, exq, fin, callE_ap, List.getElem?_cons_succ, List.getElem?_cons_zero, List.set_cons_succ, List.set_cons_zero, List.map_cons, List.map_nil, List.replicate, List.cons_append, List.nil_append, List.length_cons, List.length_nil, Bool.not_true, Bool.not_false, if_true, if_false, ite_true, ite_false, reduceIte, Bool.false_eq_true, Bool.true_eq_false, Nat.reduceAdd, unD, Option.map_some, Nat.zero_le, Sh.sz1, Sh.sz2, Sh.sz3, Sh.sz4, Sh.sz5, Sh.sz6, Sh.sz7, Sh.sz8, Sh.sz9, Sh.sz10, Sh.sz11, Sh.sz12, Sh.sz13, Sh.sz14, Sh.sz15, Sh.sz16, Nat.reduceSub, Nat.reduceLeDiff, reduceCtorEq, Bool.and_true, Bool.true_and, Bool.and_false, Bool.false_and, Bool.or_true, Bool.or_false, Bool.true_or, Bool.false_or, jug2 h1', bInt_int, opMod_int h0, opDiv_int hd, jset2 h1']
    rw [Int.toNat_of_nonneg e]
  · rw [Int.toNat_of_nonneg e]; exact Int.emod_lt_of_pos _ h0
theorem take_any {c : Nat} {many : Int} (hJ : Jug S n c) (hL : c < 2 ^ 40) (h0 : 0 < many) (h1 : many < 2 ^ 62) : ∃ (k : Nat) (S' : Sto), mTake [.ref n, .d (.int many)] S = .ok (.d (.int k)) S' ∧ (k : Int) < many ∧ Jug S' n (c + 1) ∧ S'.length = S.length ∧ ∀ j, j ≠ n → S'[j]? = S[j]? := by
  obtain ⟨k, o, e, hk, hW⟩ := take_ok hJ hL h0 h1
  exact ⟨k, _, e, hk, hW, by simp, fun j hj => by rw [List.getElem?_set_ne (Ne.symm hj)]⟩
theorem jug_ok {ns : List Int} (hl : ns.length ≤ 63) : mJug [.fl (ns.map .int)] S = .ok (.ref S.length) (S ++ [jugOb ns 0 0]) ∧ Jug (S ++ [jugOb ns 0 0]) S.length 0 := by
  refine ⟨?_, ns, 0, 0, by simp, hl, Nat.le_refl _, Int.le_refl _⟩
  unfold mJug defM bJug
  simp only [eVar_ap, eK_ap, aNil_ap, aCons_ap, eOp2_ap, eOp1_ap, eChain_ap, bOf_ap, bNot_ap, bAnd_ap, bOr_ap, eAnd_ap, eOr_ap, eNot_ap, eIf_ap, eTup_ap, eLst_ap, eLstM_ap, cNop_ap, cBreak_ap, cCont_ap, cSeq_ap, cExpr_ap, cSet_ap, cRet_ap, cRetN_ap, cIf_ap, cAsg_ap, cPar2_ap, cPar3_ap, bYes_ap, eCall_ap, oNone_ap, oSome_ap, eSl_ap, cFor_ap, eMtL_ap, aKw_ap, gNm_ap, gTp2, gTp3, gSb_ap, mkTup0, mkTup1, mkTup2, mkTup3, Out.bind, Out.ofO, exq, fin, callE_ap, List.getElem?_cons_succ, List.getElem?_cons_zero, List.set_cons_succ, List.set_cons_zero, List.map_cons, List.map_nil, List.replicate, List.cons_append, List.nil_append, List.length_cons, List.length_nil, Bool.not_true, Bool.not_false, if_true, if_false, ite_true, ite_false, reduceIte, Bool.false_eq_true, Bool.true_eq_false, Nat.reduceAdd, unD, Option.map_some, Nat.zero_le, Sh.sz1, Sh.sz2, Sh.sz3, Sh.sz4, Sh.sz5, Sh.sz6, Sh.sz7, Sh.sz8, Sh.sz9, Sh.sz10, Sh.sz11, Sh.sz12, Sh.sz13, Sh.sz14, Sh.sz15, Sh.sz16, Nat.reduceSub, Nat.reduceLeDiff, reduceCtorEq, Bool.and_true, Bool.true_and, Bool.and_false, Bool.false_and, Bool.or_true, Bool.or_false, Bool.true_or, Bool.false_or, bList, newCell]
  rfl
end
/-- a list of what is made, the store changing, the draws counted -/
theorem lcL_invN {α : Type} {mk : α → W} {grd : Sto → Prop} {g : GM} {elt : EM} {ρ0 : Rho} {Inv : Nat → Sto → Prop} {Pe : PyData → Prop} (hg : ∀ k S, Inv k S → grd S) : ∀ (l : List α) (k : Nat), (∀ x ∈ l, ∀ j S, j < k + l.length → Inv j S → ∃ ρ' S1, g (mk x) ρ0 S = .ok ρ' S1 ∧ ∃ y S3, elt ρ' S1 = .ok (.d y) S3 ∧ Pe y ∧ Inv (j + 1) S3) →
    ∀ S, Inv k S → ∃ (ys : List PyData) (S' : Sto), lcL grd g bYes elt ρ0 (l.map mk) S = .ok (ys.map .d) S' ∧ Inv (k + l.length) S' ∧ ys.length = l.length ∧ ∀ y ∈ ys, Pe y
  | [], k, _, S, hp => ⟨[], S, by simp [lcL, hg k S hp], hp, rfl, fun _ h => nomatch h⟩
  | x :: l, k, h, S, hp => by
    obtain ⟨ρ', S1, e1, y, S3, e2, hy, hp2⟩ := h x (by simp) k S (by simp) hp
    have el : k + (x :: l).length = k + 1 + l.length := by rw [List.length_cons, Nat.add_comm l.length, ← Nat.add_assoc]
    obtain ⟨ys, S', e3, hp3, hl, ha⟩ := lcL_invN hg l (k + 1) (fun y hy j S hj => h y (by simp [hy]) j S (by rw [el]; exact hj)) S3 hp2
    refine ⟨y :: ys, S', ?_, by rw [el]; exact hp3, by simp [hl], ?_⟩
    · simp only [List.map_cons, lcL, hg k S hp, if_true, e1, Out.bindB, bYes, e2, e3]
    · intro z hz
      rcases List.mem_cons.1 hz with rfl | hz
      · exact hy
      · exact ha z hz
end Sh
end

section
/-! Sh: the laws' own equality (tuples, numbers, texts, None) says True of a thing and itself. -/
namespace Sh
open PySem PySem.Spec PyProof.Rows L2
open Classical

noncomputable def qSame (r : FM) : EM := eLc (iRg1 (eCall bLen (aCons (eVar 1) aNil))) (gNm 2) (bNot (bOf (eCall (callP r) (aCons (eOp2 opIx (eVar 0) (eVar 2)) (aCons (eOp2 opIx (eVar 1) (eVar 2)) aNil))))) (eVar 2) [2]
noncomputable def bSame (r : FM) : SM := cSeq (cIf (bOr (bOf (eOp2 (opIsN) (eVar 1) (eNon))) (bOf (eOp2 (opIsN) (eVar 0) (eNon)))) (cRet (eAnd (eOp2 (opIsN) (eVar 0) (eNon)) (eOp2 (opIsN) (eVar 1) (eNon)))) (cNop)) (cSeq (cIf (bOf (eOp1 (opIsi "tuple") (eVar 1))) (cSeq (cIf (bOr (bNot (bOf (eOp1 (opIsi "tuple") (eVar 0)))) (bOf (eOp2 (opNe) (eCall bLen (aCons (eVar 0) aNil)) (eCall bLen (aCons (eVar 1) aNil))))) (cRet (eBl false)) (cNop)) (cRet (eOp2 (opEq) (qSame r) (eLst aNil)))) (cNop)) (cSeq (cIf (bOr (bOf (eOp2 (opNe) (eOp1 (opIsi "bool") (eVar 0)) (eOp1 (opIsi "bool") (eVar 1)))) (bOf (eOp2 (opNe) (eOp1 (opIsi "str") (eVar 0)) (eOp1 (opIsi "str") (eVar 1))))) (cRet (eBl false)) (cNop)) (cRet (eAnd (eOp1 (opIsi2 "int" "str") (eVar 0)) (eOp2 (opEq) (eVar 0) (eVar 1))))))
noncomputable def mSame : Nat → FM
  | 0 => badM
  | n + 1 => defM 3 2 (bSame (mSame n))
/-- tuples of numbers, truth values, texts, None, to the depth n -/
def tm : Nat → PyData → Bool
  | 0, x => leafOk x
  | n + 1, .tuple xs => decide (xs.length ≤ 1000) && xs.all (tm n)
  | _ + 1, x => leafOk x
theorem tm_tup {n : Nat} {xs : List PyData} : tm (n + 1) (.tuple xs) = true ↔ xs.length ≤ 1000 ∧ ∀ x ∈ xs, tm n x = true := by simp [tm]
theorem tm_leaf {n : Nat} {x : PyData} (h : leafOk x = true) : tm n x = true := by
  cases n with
  | zero => exact h
  | succ n => cases x <;> first | exact h | cases h
theorem opIsN_d {S : Sto} {x : PyData} : opIsN (.d x) (.d .none) S = .ok (.d (.bool (isNone x))) S := rfl
theorem opIsi2_d {S : Sto} {T U : String} {x : PyData} : opIsi2 T U (.d x) S = .ok (.d (.bool (isiT (tyD x) T || isiT (tyD x) U))) S := rfl
theorem opNe_bool {S : Sto} {a b : Bool} : opNe (.d (.bool a)) (.d (.bool b)) S = .ok (.d (.bool (!(a == b)))) S := if_pos ⟨rfl, rfl⟩
theorem opEq_bool {S : Sto} {a b : Bool} : opEq (.d (.bool a)) (.d (.bool b)) S = .ok (.d (.bool (a == b))) S := if_pos ⟨rfl, rfl⟩
theorem same_leaf {n : Nat} {x : PyData} {S : Sto} (h : leafOk x = true) : mSame (n + 1) [.d x, .d x] S = .ok (.d (.bool true)) S := by
  unfold mSame defM bSame
  simp only [eVar_ap, eK_ap, aNil_ap, aCons_ap, eOp2_ap, eOp1_ap, eChain_ap, bOf_ap, bNot_ap, bAnd_ap, bOr_ap, eAnd_ap, eOr_ap, eNot_ap, eIf_ap, eTup_ap, eLst_ap, eLstM_ap, cNop_ap, cBreak_ap, cCont_ap, cSeq_ap, cExpr_ap, cSet_ap, cRet_ap, cRetN_ap, cIf_ap, cAsg_ap, cPar2_ap, cPar3_ap, bYes_ap, eCall_ap, oNone_ap, oSome_ap, eSl_ap, cFor_ap, eMtL_ap, aKw_ap, gNm_ap, gTp2, gTp3, gSb_ap, mkTup0, mkTup1, mkTup2, mkTup3, Out.bind, Out.ofO, exq, fin, callE_ap, List.getElem?_cons_succ, List.getElem?_cons_zero, List.set_cons_succ, List.set_cons_zero, List.map_cons, List.map_nil, List.replicate, List.cons_append, List.nil_append, List.length_cons, List.length_nil, Bool.not_true, Bool.not_false, if_true, if_false, ite_true, ite_false, reduceIte, Bool.false_eq_true, Bool.true_eq_false, Nat.reduceAdd, unD, Option.map_some, Nat.zero_le, Sh.sz1, Sh.sz2, Sh.sz3, Sh.sz4, Sh.sz5, Sh.sz6, Sh.sz7, Sh.sz8, Sh.sz9, Sh.sz10, Sh.sz11, Sh.sz12, Sh.sz13, Sh.sz14, Sh.sz15, Sh.sz16, Nat.reduceSub, Nat.reduceLeDiff, reduceCtorEq, Bool.and_true, Bool.true_and, Bool.and_false, Bool.false_and, Bool.or_true, Bool.or_false, Bool.true_or, Bool.false_or, opIsN_d]
  cases x with
  | list xs => cases h
  | tuple xs => cases h
  | dict xs => cases h
  | none => simp only [isNone]; try simp only [eVar_ap, eK_ap, aNil_ap, aCons_ap, eOp2_ap, eOp1_ap, eChain_ap, bOf_ap, bNot_ap, bAnd_ap, bOr_ap, eAnd_ap, eOr_ap, eNot_ap, eIf_ap, eTup_ap, eLst_ap, eLstM_ap, cNop_ap, cBreak_ap, cCont_ap, cSeq_ap, cExpr_ap, cSet_ap, cRet_ap, cRetN_ap, cIf_ap, cAsg_ap, cPar2_ap, cPar3_ap, bYes_ap, eCall_ap, oNone_ap, oSome_ap, eSl_ap, cFor_ap, eMtL_ap, aKw_ap, gNm_ap, gTp2, gTp3, gSb_ap, mkTup0, mkTup1, mkTup2, mkTup3, Out.bind, Out.ofO, exq, fin, callE_ap, List.getElem?_cons_succ, List.getElem?_cons_zero, List.set_cons_succ, List.set_cons_zero, List.map_cons, List.map_nil, List.replicate, List.cons_append, List.nil_append, List.length_cons, List.length_nil, Bool.not_true, Bool.not_false, if_true, if_false, ite_true, ite_false, reduceIte, Bool.false_eq_true, Bool.true_eq_false, Nat.reduceAdd, unD, Option.map_some, Nat.zero_le, Sh.sz1, Sh.sz2, Sh.sz3, Sh.sz4, Sh.sz5, Sh.sz6, Sh.sz7, Sh.sz8, Sh.sz9, Sh.sz10, Sh.sz11, Sh.sz12, Sh.sz13, Sh.sz14, Sh.sz15, Sh.sz16, Nat.reduceSub, Nat.reduceLeDiff, reduceCtorEq, Bool.and_true, Bool.true_and, Bool.and_false, Bool.false_and, Bool.or_true, Bool.or_false, Bool.true_or, Bool.false_or]
  | bool b =>
    simp only [isNone]
    simp only [eVar_ap, eK_ap, aNil_ap, aCons_ap, eOp2_ap, eOp1_ap, eChain_ap, bOf_ap, bNot_ap, bAnd_ap, bOr_ap, eAnd_ap, eOr_ap, eNot_ap, eIf_ap, eTup_ap, eLst_ap, eLstM_ap, cNop_ap, cBreak_ap, cCont_ap, cSeq_ap, cExpr_ap, cSet_ap, cRet_ap, cRetN_ap, cIf_ap, cAsg_ap, cPar2_ap, cPar3_ap, bYes_ap, eCall_ap, oNone_ap, oSome_ap, eSl_ap, cFor_ap, eMtL_ap, aKw_ap, gNm_ap, gTp2, gTp3, gSb_ap, mkTup0, mkTup1, mkTup2, mkTup3, Out.bind, Out.ofO, exq, fin, callE_ap, List.getElem?_cons_succ, List.getElem?_cons_zero, List.set_cons_succ, List.set_cons_zero, List.map_cons, List.map_nil, List.replicate, List.cons_append, List.nil_append, List.length_cons, List.length_nil, Bool.not_true, Bool.not_false, if_true, if_false, ite_true, ite_false, reduceIte, Bool.false_eq_true, Bool.true_eq_false, Nat.reduceAdd, unD, Option.map_some, Nat.zero_le, Sh.sz1, Sh.sz2, Sh.sz3, Sh.sz4, Sh.sz5, Sh.sz6, Sh.sz7, Sh.sz8, Sh.sz9, Sh.sz10, Sh.sz11, Sh.sz12, Sh.sz13, Sh.sz14, Sh.sz15, Sh.sz16, Nat.reduceSub, Nat.reduceLeDiff, reduceCtorEq, Bool.and_true, Bool.true_and, Bool.and_false, Bool.false_and, Bool.or_true, Bool.or_false, Bool.true_or, Bool.false_or, opIsi_d, show isiT (tyD (.bool b)) "tuple" = false from rfl, opNe_bool, beq_self_eq_true, opIsi2_d, opEq_bool, show (isiT (tyD (.bool b)) "int" || isiT (tyD (.bool b)) "str") = true from rfl]
  | int i =>
    simp only [isNone]
    simp only [eVar_ap, eK_ap, aNil_ap, aCons_ap, eOp2_ap, eOp1_ap, eChain_ap, bOf_ap, bNot_ap, bAnd_ap, bOr_ap, eAnd_ap, eOr_ap, eNot_ap, eIf_ap, eTup_ap, eLst_ap, eLstM_ap, cNop_ap, cBreak_ap, cCont_ap, cSeq_ap, cExpr_ap, cSet_ap, cRet_ap, cRetN_ap, cIf_ap, cAsg_ap, cPar2_ap, cPar3_ap, bYes_ap, eCall_ap, oNone_ap, oSome_ap, eSl_ap, cFor_ap, eMtL_ap, aKw_ap, gNm_ap, gTp2, gTp3, gSb_ap, mkTup0, mkTup1, mkTup2, mkTup3, Out.bind, Out.ofO, exq, fin, callE_ap, List.getElem?_cons_succ, List.getElem?_cons_zero, List.set_cons_succ, List.set_cons_zero, List.map_cons, List.map_nil, List.replicate, List.cons_append, List.nil_append, List.length_cons, List.length_nil, Bool.not_true, Bool.not_false, if_true, if_false, ite_true, ite_false, reduceIte, Bool.false_eq_true, Bool.true_eq_false, Nat.reduceAdd, unD, Option.map_some, Nat.zero_le, Sh.sz1, Sh.sz2, Sh.sz3, Sh.sz4, Sh.sz5, Sh.sz6, Sh.sz7, Sh.sz8, Sh.sz9, Sh.sz10, Sh.sz11, Sh.sz12, Sh.sz13, Sh.sz14, Sh.sz15, Sh.sz16, Nat.reduceSub, Nat.reduceLeDiff, reduceCtorEq, Bool.and_true, Bool.true_and, Bool.and_false, Bool.false_and, Bool.or_true, Bool.or_false, Bool.true_or, Bool.false_or, opIsi_d, show isiT (tyD (.int i)) "tuple" = false from rfl, opNe_bool, beq_self_eq_true, opIsi2_d, opEq_int, show (isiT (tyD (.int i)) "int" || isiT (tyD (.int i)) "str") = true from rfl]
  | str z =>
    simp only [isNone]
    simp only [eVar_ap, eK_ap, aNil_ap, aCons_ap, eOp2_ap, eOp1_ap, eChain_ap, bOf_ap, bNot_ap, bAnd_ap, bOr_ap, eAnd_ap, eOr_ap, eNot_ap, eIf_ap, eTup_ap, eLst_ap, eLstM_ap, cNop_ap, cBreak_ap, cCont_ap, cSeq_ap, cExpr_ap, cSet_ap, cRet_ap, cRetN_ap, cIf_ap, cAsg_ap, cPar2_ap, cPar3_ap, bYes_ap, eCall_ap, oNone_ap, oSome_ap, eSl_ap, cFor_ap, eMtL_ap, aKw_ap, gNm_ap, gTp2, gTp3, gSb_ap, mkTup0, mkTup1, mkTup2, mkTup3, Out.bind, Out.ofO, exq, fin, callE_ap, List.getElem?_cons_succ, List.getElem?_cons_zero, List.set_cons_succ, List.set_cons_zero, List.map_cons, List.map_nil, List.replicate, List.cons_append, List.nil_append, List.length_cons, List.length_nil, Bool.not_true, Bool.not_false, if_true, if_false, ite_true, ite_false, reduceIte, Bool.false_eq_true, Bool.true_eq_false, Nat.reduceAdd, unD, Option.map_some, Nat.zero_le, Sh.sz1, Sh.sz2, Sh.sz3, Sh.sz4, Sh.sz5, Sh.sz6, Sh.sz7, Sh.sz8, Sh.sz9, Sh.sz10, Sh.sz11, Sh.sz12, Sh.sz13, Sh.sz14, Sh.sz15, Sh.sz16, Nat.reduceSub, Nat.reduceLeDiff, reduceCtorEq, Bool.and_true, Bool.true_and, Bool.and_false, Bool.false_and, Bool.or_true, Bool.or_false, Bool.true_or, Bool.false_or, opIsi_d, show isiT (tyD (.str z)) "tuple" = false from rfl, opNe_bool, beq_self_eq_true, opIsi2_d, show (isiT (tyD (.str z)) "int" || isiT (tyD (.str z)) "str") = true from rfl, opEq_sh (x := .str z) (y := .str z) (n := 0) (m := 0) (sm_leaf h) (sm_leaf h), PyData.eqv]
theorem same_self : ∀ {n : Nat} {x : PyData} {S : Sto}, tm n x = true → mSame (n + 1) [.d x, .d x] S = .ok (.d (.bool true)) S := by
  intro n
  induction n with
  | zero => exact fun h => same_leaf h
  | succ n ih =>
    intro x S h
    cases x with
    | tuple xs =>
      have h := tm_tup.1 h
      rw [show mSame (n + 1 + 1) = defM 3 2 (bSame (mSame (n + 1))) from rfl]
      unfold defM bSame
      simp only [eVar_ap, eK_ap, aNil_ap, aCons_ap, eOp2_ap, eOp1_ap, eChain_ap, bOf_ap, bNot_ap, bAnd_ap, bOr_ap, eAnd_ap, eOr_ap, eNot_ap, eIf_ap, eTup_ap, eLst_ap, eLstM_ap, cNop_ap, cBreak_ap, cCont_ap, cSeq_ap, cExpr_ap, cSet_ap, cRet_ap, cRetN_ap, cIf_ap, cAsg_ap, cPar2_ap, cPar3_ap, bYes_ap, eCall_ap, oNone_ap, oSome_ap, eSl_ap, cFor_ap, eMtL_ap, aKw_ap, gNm_ap, gTp2, gTp3, gSb_ap, mkTup0, mkTup1, mkTup2, mkTup3, Out.bind, Out.ofO, exq, fin, callE_ap, List.getElem?_cons_succ, List.getElem?_cons_zero, List.set_cons_succ, List.set_cons_zero, List.map_cons, List.map_nil, List.replicate, List.cons_append, List.nil_append, List.length_cons, List.length_nil, Bool.not_true, Bool.not_false, if_true, if_false, ite_true, ite_false, reduceIte, Bool.false_eq_true, Bool.true_eq_false, Nat.reduceAdd, unD, Option.map_some, Nat.zero_le, Sh.sz1, Sh.sz2, Sh.sz3, Sh.sz4, Sh.sz5, Sh.sz6, Sh.sz7, Sh.sz8, Sh.sz9, Sh.sz10, Sh.sz11, Sh.sz12, Sh.sz13, Sh.sz14, Sh.sz15, Sh.sz16, Nat.reduceSub, Nat.reduceLeDiff, reduceCtorEq, Bool.and_true, Bool.true_and, Bool.and_false, Bool.false_and, Bool.or_true, Bool.or_false, Bool.true_or, Bool.false_or, opIsN_d, isNone, opIsi_d, show isiT (tyD (.tuple xs)) "tuple" = true from rfl, bLen_tup, opNe_int, beq_self_eq_true]
      have e : qSame (mSame (n + 1)) [some (.d (.tuple xs)), some (.d (.tuple xs)), none] S = .ok (.d (.list [])) S := by
        unfold qSame
        rw [eLc_d (List.range xs.length) (fun (k : Nat) => .d (.int (k : Int))) (fun k => .int (k : Int)) (fun _ => false) (grd := fun _ => True) (iRg1_nat (by simp only [eVar_ap, eK_ap, aNil_ap, aCons_ap, eOp2_ap, eOp1_ap, eChain_ap, bOf_ap, bNot_ap, bAnd_ap, bOr_ap, eAnd_ap, eOr_ap, eNot_ap, eIf_ap, eTup_ap, eLst_ap, eLstM_ap, cNop_ap, cBreak_ap, cCont_ap, cSeq_ap, cExpr_ap, cSet_ap, cRet_ap, cRetN_ap, cIf_ap, cAsg_ap, cPar2_ap, cPar3_ap, bYes_ap, eCall_ap, oNone_ap, oSome_ap, eSl_ap, cFor_ap, eMtL_ap, aKw_ap, gNm_ap, gTp2, gTp3, gSb_ap, mkTup0, mkTup1, mkTup2, mkTup3, Out.bind, Out.ofO, exq, fin, callE_ap, List.getElem?_cons_succ, List.getElem?_cons_zero, List.set_cons_succ, List.set_cons_zero, List.map_cons, List.map_nil, List.replicate, List.cons_append, List.nil_append, List.length_cons, List.length_nil, Bool.not_true, Bool.not_false, if_true, if_false, ite_true, ite_false, reduceIte, Bool.false_eq_true, Bool.true_eq_false, Nat.reduceAdd, unD, Option.map_some, Nat.zero_le, Sh.sz1, Sh.sz2, Sh.sz3, Sh.sz4, Sh.sz5, Sh.sz6, Sh.sz7, Sh.sz8, Sh.sz9, Sh.sz10, Sh.sz11, Sh.sz12, Sh.sz13, Sh.sz14, Sh.sz15, Sh.sz16, Nat.reduceSub, Nat.reduceLeDiff, reduceCtorEq, Bool.and_true, Bool.true_and, Bool.and_false, Bool.false_and, Bool.or_true, Bool.or_false, Bool.true_or, Bool.false_or, bLen_tup]) (by omega)) trivial (by rw [List.length_range]; exact len_le h.1) fun k hk => ?_]
        · rw [List.filter_eq_nil_iff.2 (by simp)]; rfl
        · rw [List.mem_range] at hk
          refine ⟨_, rfl, ?_, fun h => (nomatch h)⟩
          simp only [eVar_ap, eK_ap, aNil_ap, aCons_ap, eOp2_ap, eOp1_ap, eChain_ap, bOf_ap, bNot_ap, bAnd_ap, bOr_ap, eAnd_ap, eOr_ap, eNot_ap, eIf_ap, eTup_ap, eLst_ap, eLstM_ap, cNop_ap, cBreak_ap, cCont_ap, cSeq_ap, cExpr_ap, cSet_ap, cRet_ap, cRetN_ap, cIf_ap, cAsg_ap, cPar2_ap, cPar3_ap, bYes_ap, eCall_ap, oNone_ap, oSome_ap, eSl_ap, cFor_ap, eMtL_ap, aKw_ap, gNm_ap, gTp2, gTp3, gSb_ap, mkTup0, mkTup1, mkTup2, mkTup3, Out.bind, Out.ofO, exq, fin, callE_ap, List.getElem?_cons_succ, List.getElem?_cons_zero, List.set_cons_succ, List.set_cons_zero, List.map_cons, List.map_nil, List.replicate, List.cons_append, List.nil_append, List.length_cons, List.length_nil, Bool.not_true, Bool.not_false, if_true, if_false, ite_true, ite_false, reduceIte, Bool.false_eq_true, Bool.true_eq_false, Nat.reduceAdd, unD, Option.map_some, Nat.zero_le, Sh.sz1, Sh.sz2, Sh.sz3, Sh.sz4, Sh.sz5, Sh.sz6, Sh.sz7, Sh.sz8, Sh.sz9, Sh.sz10, Sh.sz11, Sh.sz12, Sh.sz13, Sh.sz14, Sh.sz15, Sh.sz16, Nat.reduceSub, Nat.reduceLeDiff, reduceCtorEq, Bool.and_true, Bool.true_and, Bool.and_false, Bool.false_and, Bool.or_true, Bool.or_false, Bool.true_or, Bool.false_or, wipeR, opIx_tup (atI_getD (xs := xs) hk)]
          rw [callP_d (ih (S := []) (h.2 _ (getD_mem hk)))]
          simp only [eVar_ap, eK_ap, aNil_ap, aCons_ap, eOp2_ap, eOp1_ap, eChain_ap, bOf_ap, bNot_ap, bAnd_ap, bOr_ap, eAnd_ap, eOr_ap, eNot_ap, eIf_ap, eTup_ap, eLst_ap, eLstM_ap, cNop_ap, cBreak_ap, cCont_ap, cSeq_ap, cExpr_ap, cSet_ap, cRet_ap, cRetN_ap, cIf_ap, cAsg_ap, cPar2_ap, cPar3_ap, bYes_ap, eCall_ap, oNone_ap, oSome_ap, eSl_ap, cFor_ap, eMtL_ap, aKw_ap, gNm_ap, gTp2, gTp3, gSb_ap, mkTup0, mkTup1, mkTup2, mkTup3, Out.bind, Out.ofO, exq, fin, callE_ap, List.getElem?_cons_succ, List.getElem?_cons_zero, List.set_cons_succ, List.set_cons_zero, List.map_cons, List.map_nil, List.replicate, List.cons_append, List.nil_append, List.length_cons, List.length_nil, Bool.not_true, Bool.not_false, if_true, if_false, ite_true, ite_false, reduceIte, Bool.false_eq_true, Bool.true_eq_false, Nat.reduceAdd, unD, Option.map_some, Nat.zero_le, Sh.sz1, Sh.sz2, Sh.sz3, Sh.sz4, Sh.sz5, Sh.sz6, Sh.sz7, Sh.sz8, Sh.sz9, Sh.sz10, Sh.sz11, Sh.sz12, Sh.sz13, Sh.sz14, Sh.sz15, Sh.sz16, Nat.reduceSub, Nat.reduceLeDiff, reduceCtorEq, Bool.and_true, Bool.true_and, Bool.and_false, Bool.false_and, Bool.or_true, Bool.or_false, Bool.true_or, Bool.false_or]
      simp only [eVar_ap, eK_ap, aNil_ap, aCons_ap, eOp2_ap, eOp1_ap, eChain_ap, bOf_ap, bNot_ap, bAnd_ap, bOr_ap, eAnd_ap, eOr_ap, eNot_ap, eIf_ap, eTup_ap, eLst_ap, eLstM_ap, cNop_ap, cBreak_ap, cCont_ap, cSeq_ap, cExpr_ap, cSet_ap, cRet_ap, cRetN_ap, cIf_ap, cAsg_ap, cPar2_ap, cPar3_ap, bYes_ap, eCall_ap, oNone_ap, oSome_ap, eSl_ap, cFor_ap, eMtL_ap, aKw_ap, gNm_ap, gTp2, gTp3, gSb_ap, mkTup0, mkTup1, mkTup2, mkTup3, Out.bind, Out.ofO, exq, fin, callE_ap, List.getElem?_cons_succ, List.getElem?_cons_zero, List.set_cons_succ, List.set_cons_zero, List.map_cons, List.map_nil, List.replicate, List.cons_append, List.nil_append, List.length_cons, List.length_nil, Bool.not_true, Bool.not_false, if_true, if_false, ite_true, ite_false, reduceIte, Bool.false_eq_true, Bool.true_eq_false, Nat.reduceAdd, unD, Option.map_some, Nat.zero_le, Sh.sz1, Sh.sz2, Sh.sz3, Sh.sz4, Sh.sz5, Sh.sz6, Sh.sz7, Sh.sz8, Sh.sz9, Sh.sz10, Sh.sz11, Sh.sz12, Sh.sz13, Sh.sz14, Sh.sz15, Sh.sz16, Nat.reduceSub, Nat.reduceLeDiff, reduceCtorEq, Bool.and_true, Bool.true_and, Bool.and_false, Bool.false_and, Bool.or_true, Bool.or_false, Bool.true_or, Bool.false_or, e, opEq_sh (x := .list []) (y := .list []) (n := 1) (m := 1) rfl rfl, eqv_lnil, List.isEmpty_nil]
    | list xs => cases h
    | dict xs => cases h
    | none => exact same_leaf h
    | bool b => exact same_leaf h
    | int i => exact same_leaf h
    | str z => exact same_leaf h
end Sh
end

section
/-! Wn: the package's first judges (numbers, names, indexes, mates, tables), computed. A law's own mirrors are these by rfl. -/
namespace Wn
open PySem PySem.Spec PyProof.Rows L2 Sh
open Classical
noncomputable def b_is_int : SM := cRet (eAnd (eOp1 (opIsi "int") (eVar 0)) (eNot (eOp1 (opIsi "bool") (eVar 0))))
noncomputable def m_is_int : FM := defM 1 1 b_is_int
noncomputable def b_is_row : SM := cRet (eAnd (eOp1 (opIsi "tuple") (eVar 0)) (eChain (opLe) (opLe) (eVar 1) (eCall bLen (aCons (eVar 0) aNil)) (eVar 2)))
noncomputable def m_is_row : FM := defM 3 3 b_is_row
noncomputable def b_is_ascending : SM := cRet (eCall bAll (aCons (eLc (iZp (aCons (eVar 0) (aCons (eSl (eVar 0) (oSome (eInt 1)) oNone) aNil))) (gTp 2 (gsCons (gNm 1) (gsCons (gNm 2) (gsNil)))) (bYes) (eOp2 (opLt) (eVar 1) (eVar 2)) [1, 2]) aNil))
noncomputable def m_is_ascending : FM := defM 3 1 b_is_ascending
noncomputable def b_is_low_name : SM := cSeq (cIf (bOr (bNot (bOf (eOp1 (opIsi "str") (eVar 0)))) (bNot (bOf (eChain (opLe) (opLe) (eInt 1) (eCall bLen (aCons (eVar 0) aNil)) (eK (.d (.int 10))))))) (cRet (eBl false)) (cNop)) (cRet (eAnd (eOp2 (opIn false) (eOp2 opIx (eVar 0) (eInt 0)) (eK (.d (.str "abcdefghijklmnopqrstuvwxyz")))) (eCall bAll (aCons (eLc (iSq (eVar 0)) (gNm 1) (bYes) (eOp2 (opIn false) (eVar 1) (eK (.d (.str "abcdefghijklmnopqrstuvwxyz0123456789")))) [1]) aNil))))
noncomputable def m_is_low_name : FM := defM 2 1 b_is_low_name
noncomputable def b_within : SM := cRet (eAnd (eCall (callP m_is_int) (aCons (eVar 0) aNil)) (eChain (opLe) (opLe) (eVar 1) (eVar 0) (eVar 2)))
noncomputable def m_within : FM := defM 3 3 b_within
noncomputable def b_are_facts_of_any_size : SM := cRet (eAnd (eOp1 (opIsi "tuple") (eVar 0)) (eAnd (eCall bAll (aCons (eLc (iSq (eVar 0)) (gNm 1) (bYes) (eCall (callP m_is_low_name) (aCons (eVar 1) aNil)) [1]) aNil)) (eCall (callP m_is_ascending) (aCons (eVar 0) aNil))))
noncomputable def m_are_facts_of_any_size : FM := defM 2 1 b_are_facts_of_any_size
noncomputable def b_are_indexes : SM := cRet (eAnd (eOp1 (opIsi "tuple") (eVar 0)) (eAnd (eCall bAll (aCons (eLc (iSq (eVar 0)) (gNm 2) (bYes) (eCall (callP m_within) (aCons (eVar 2) (aCons (eInt 0) (aCons (eOp2 opSub (eVar 1) (eInt 1)) aNil)))) [2]) aNil)) (eCall (callP m_is_ascending) (aCons (eVar 0) aNil))))
noncomputable def m_are_indexes : FM := defM 3 2 b_are_indexes
noncomputable def b_are_mates : SM := cSeq (cIf (bOr (bNot (bOf (eCall (callP m_is_row) (aCons (eVar 0) (aCons (eVar 1) (aCons (eVar 1) aNil)))))) (bNot (bOf (eCall bAll (aCons (eLc (iSq (eVar 0)) (gNm 2) (bYes) (eCall (callP m_within) (aCons (eVar 2) (aCons (eInt 0) (aCons (eOp2 opSub (eVar 1) (eInt 1)) aNil)))) [2]) aNil))))) (cRet (eBl false)) (cNop)) (cRet (eCall bAll (aCons (eLc (iEn (aCons (eVar 0) aNil)) (gTp 2 (gsCons (gNm 2) (gsCons (gNm 3) (gsNil)))) (bYes) (eAnd (eOp2 (opLe) (eVar 3) (eVar 2)) (eOp2 (opEq) (eOp2 opIx (eVar 0) (eVar 3)) (eVar 3))) [2, 3]) aNil)))
noncomputable def m_are_mates : FM := defM 4 2 b_are_mates
noncomputable def b_is_table_of_any_size : SM := cSeq (cIf (bOr (bNot (bOf (eCall (callP m_is_row) (aCons (eVar 0) (aCons (eInt 3) (aCons (eInt 3) aNil)))))) (bNot (bOf (eCall (callP m_are_facts_of_any_size) (aCons (eOp2 opIx (eVar 0) (eInt 0)) aNil))))) (cRet (eBl false)) (cNop)) (cSeq (cAsg (eVar 0) (gTp 3 (gsCons (gNm 1) (gsCons (gNm 2) (gsCons (gNm 3) (gsNil)))))) (cSeq (cIf (bOr (bNot (bOf (eOp1 (opIsi "tuple") (eVar 2)))) (bOr (bOf (eOp2 (opEq) (eVar 2) (eTup aNil))) (bNot (bOf (eCall bAll (aCons (eLc (iSq (eVar 2)) (gNm 5) (bYes) (eCall (callP m_are_indexes) (aCons (eVar 5) (aCons (eCall bLen (aCons (eVar 1) aNil)) aNil))) [5]) aNil)))))) (cRet (eBl false)) (cNop)) (cRet (eAnd (eOp1 (opIsi "tuple") (eVar 3)) (eAnd (eOp2 (opNe) (eVar 3) (eTup aNil)) (eCall bAll (aCons (eLc (iSq (eVar 3)) (gNm 4) (bYes) (eCall (callP m_are_mates) (aCons (eVar 4) (aCons (eCall bLen (aCons (eVar 2) aNil)) aNil))) [4]) aNil)))))))
noncomputable def m_is_table_of_any_size : FM := defM 6 1 b_is_table_of_any_size
noncomputable def b_is_table : SM := cSeq (cIf (bNot (bOf (eCall (callP m_is_table_of_any_size) (aCons (eVar 0) aNil)))) (cRet (eBl false)) (cNop)) (cRet (eAnd (eOp2 (opLe) (eCall bLen (aCons (eOp2 opIx (eVar 0) (eInt 0)) aNil)) (eK (.d (.int 6)))) (eAnd (eOp2 (opLe) (eCall bLen (aCons (eOp2 opIx (eVar 0) (eInt 1)) aNil)) (eK (.d (.int 16)))) (eOp2 (opLe) (eCall bLen (aCons (eOp2 opIx (eVar 0) (eInt 2)) aNil)) (eK (.d (.int 4)))))))
noncomputable def m_is_table : FM := defM 1 1 b_is_table
abbrev letters : Str := "abcdefghijklmnopqrstuvwxyz"
abbrev signs : Str := "abcdefghijklmnopqrstuvwxyz0123456789"
section
variable {S : Sto} {x : PyData} {xs : List PyData}
theorem is_int_ok : m_is_int [.d x] S = .ok (.d (.bool (isI x))) S := by
  unfold m_is_int defM b_is_int
  simp only [eVar_ap, eK_ap, aNil_ap, aCons_ap, eOp2_ap, eOp1_ap, eChain_ap, bOf_ap, bNot_ap, bAnd_ap, bOr_ap, eAnd_ap, eOr_ap, eNot_ap, eIf_ap, eTup_ap, eLst_ap, eLstM_ap, cNop_ap, cBreak_ap, cCont_ap, cSeq_ap, cExpr_ap, cSet_ap, cRet_ap, cRetN_ap, cIf_ap, cAsg_ap, cPar2_ap, cPar3_ap, bYes_ap, eCall_ap, oNone_ap, oSome_ap, eSl_ap, cFor_ap, eMtL_ap, aKw_ap, gNm_ap, gTp2, gTp3, gSb_ap, mkTup0, mkTup1, mkTup2, mkTup3, Out.bind, Out.ofO, exq, fin, callE_ap, List.getElem?_cons_succ, List.getElem?_cons_zero, List.set_cons_succ, List.set_cons_zero, List.map_cons, List.map_nil, List.replicate, List.cons_append, List.nil_append, List.length_cons, List.length_nil, Bool.not_true, Bool.not_false, if_true, if_false, ite_true, ite_false, reduceIte, Bool.false_eq_true, Bool.true_eq_false, Nat.reduceAdd, unD, Option.map_some, Nat.zero_le, Sh.sz1, Sh.sz2, Sh.sz3, Sh.sz4, Sh.sz5, Sh.sz6, Sh.sz7, Sh.sz8, Sh.sz9, Sh.sz10, Sh.sz11, Sh.sz12, Sh.sz13, Sh.sz14, Sh.sz15, Sh.sz16, Nat.reduceSub, Nat.reduceLeDiff, reduceCtorEq, Bool.and_true, Bool.true_and, Bool.and_false, Bool.false_and, Bool.or_true, Bool.or_false, Bool.true_or, Bool.false_or, opIsi_d]
  rw [← isiInt x]
  cases isiT (tyD x) "int" <;> simp only [Bool.true_and, Bool.false_and]
def inR (x : PyData) (lo hi : Int) : Bool := match x with
  | .int i => decide (lo ≤ i) && decide (i ≤ hi)
  | _ => false
theorem within_ok {lo hi : Int} : m_within [.d x, .d (.int lo), .d (.int hi)] S = .ok (.d (.bool (inR x lo hi))) S := by
  unfold m_within defM b_within
  simp only [eVar_ap, eK_ap, aNil_ap, aCons_ap, eOp2_ap, eOp1_ap, eChain_ap, bOf_ap, bNot_ap, bAnd_ap, bOr_ap, eAnd_ap, eOr_ap, eNot_ap, eIf_ap, eTup_ap, eLst_ap, eLstM_ap, cNop_ap, cBreak_ap, cCont_ap, cSeq_ap, cExpr_ap, cSet_ap, cRet_ap, cRetN_ap, cIf_ap, cAsg_ap, cPar2_ap, cPar3_ap, bYes_ap, eCall_ap, oNone_ap, oSome_ap, eSl_ap, cFor_ap, eMtL_ap, aKw_ap, gNm_ap, gTp2, gTp3, gSb_ap, mkTup0, mkTup1, mkTup2, mkTup3, Out.bind, Out.ofO, exq, fin, callE_ap, List.getElem?_cons_succ, List.getElem?_cons_zero, List.set_cons_succ, List.set_cons_zero, List.map_cons, List.map_nil, List.replicate, List.cons_append, List.nil_append, List.length_cons, List.length_nil, Bool.not_true, Bool.not_false, if_true, if_false, ite_true, ite_false, reduceIte, Bool.false_eq_true, Bool.true_eq_false, Nat.reduceAdd, unD, Option.map_some, Nat.zero_le, Sh.sz1, Sh.sz2, Sh.sz3, Sh.sz4, Sh.sz5, Sh.sz6, Sh.sz7, Sh.sz8, Sh.sz9, Sh.sz10, Sh.sz11, Sh.sz12, Sh.sz13, Sh.sz14, Sh.sz15, Sh.sz16, Nat.reduceSub, Nat.reduceLeDiff, reduceCtorEq, Bool.and_true, Bool.true_and, Bool.and_false, Bool.false_and, Bool.or_true, Bool.or_false, Bool.true_or, Bool.false_or, callP_d is_int_ok]
  cases x <;> simp only [isI, inR] <;> try simp only [eVar_ap, eK_ap, aNil_ap, aCons_ap, eOp2_ap, eOp1_ap, eChain_ap, bOf_ap, bNot_ap, bAnd_ap, bOr_ap, eAnd_ap, eOr_ap, eNot_ap, eIf_ap, eTup_ap, eLst_ap, eLstM_ap, cNop_ap, cBreak_ap, cCont_ap, cSeq_ap, cExpr_ap, cSet_ap, cRet_ap, cRetN_ap, cIf_ap, cAsg_ap, cPar2_ap, cPar3_ap, bYes_ap, eCall_ap, oNone_ap, oSome_ap, eSl_ap, cFor_ap, eMtL_ap, aKw_ap, gNm_ap, gTp2, gTp3, gSb_ap, mkTup0, mkTup1, mkTup2, mkTup3, Out.bind, Out.ofO, exq, fin, callE_ap, List.getElem?_cons_succ, List.getElem?_cons_zero, List.set_cons_succ, List.set_cons_zero, List.map_cons, List.map_nil, List.replicate, List.cons_append, List.nil_append, List.length_cons, List.length_nil, Bool.not_true, Bool.not_false, if_true, if_false, ite_true, ite_false, reduceIte, Bool.false_eq_true, Bool.true_eq_false, Nat.reduceAdd, unD, Option.map_some, Nat.zero_le, Sh.sz1, Sh.sz2, Sh.sz3, Sh.sz4, Sh.sz5, Sh.sz6, Sh.sz7, Sh.sz8, Sh.sz9, Sh.sz10, Sh.sz11, Sh.sz12, Sh.sz13, Sh.sz14, Sh.sz15, Sh.sz16, Nat.reduceSub, Nat.reduceLeDiff, reduceCtorEq, Bool.and_true, Bool.true_and, Bool.and_false, Bool.false_and, Bool.or_true, Bool.or_false, Bool.true_or, Bool.false_or]
  rename_i i
  simp only [eVar_ap, eK_ap, aNil_ap, aCons_ap, eOp2_ap, eOp1_ap, eChain_ap, bOf_ap, bNot_ap, bAnd_ap, bOr_ap, eAnd_ap, eOr_ap, eNot_ap, eIf_ap, eTup_ap, eLst_ap, eLstM_ap, cNop_ap, cBreak_ap, cCont_ap, cSeq_ap, cExpr_ap, cSet_ap, cRet_ap, cRetN_ap, cIf_ap, cAsg_ap, cPar2_ap, cPar3_ap, bYes_ap, eCall_ap, oNone_ap, oSome_ap, eSl_ap, cFor_ap, eMtL_ap, aKw_ap, gNm_ap, gTp2, gTp3, gSb_ap, mkTup0, mkTup1, mkTup2, mkTup3, Out.bind, Out.ofO, exq, fin, callE_ap, List.getElem?_cons_succ, List.getElem?_cons_zero, List.set_cons_succ, List.set_cons_zero, List.map_cons, List.map_nil, List.replicate, List.cons_append, List.nil_append, List.length_cons, List.length_nil, Bool.not_true, Bool.not_false, if_true, if_false, ite_true, ite_false, reduceIte, Bool.false_eq_true, Bool.true_eq_false, Nat.reduceAdd, unD, Option.map_some, Nat.zero_le, Sh.sz1, Sh.sz2, Sh.sz3, Sh.sz4, Sh.sz5, Sh.sz6, Sh.sz7, Sh.sz8, Sh.sz9, Sh.sz10, Sh.sz11, Sh.sz12, Sh.sz13, Sh.sz14, Sh.sz15, Sh.sz16, Nat.reduceSub, Nat.reduceLeDiff, reduceCtorEq, Bool.and_true, Bool.true_and, Bool.and_false, Bool.false_and, Bool.or_true, Bool.or_false, Bool.true_or, Bool.false_or, opInt_int]
  cases h : decide (lo ≤ i) <;> simp only [eVar_ap, eK_ap, aNil_ap, aCons_ap, eOp2_ap, eOp1_ap, eChain_ap, bOf_ap, bNot_ap, bAnd_ap, bOr_ap, eAnd_ap, eOr_ap, eNot_ap, eIf_ap, eTup_ap, eLst_ap, eLstM_ap, cNop_ap, cBreak_ap, cCont_ap, cSeq_ap, cExpr_ap, cSet_ap, cRet_ap, cRetN_ap, cIf_ap, cAsg_ap, cPar2_ap, cPar3_ap, bYes_ap, eCall_ap, oNone_ap, oSome_ap, eSl_ap, cFor_ap, eMtL_ap, aKw_ap, gNm_ap, gTp2, gTp3, gSb_ap, mkTup0, mkTup1, mkTup2, mkTup3, Out.bind, Out.ofO, exq, fin, callE_ap, List.getElem?_cons_succ, List.getElem?_cons_zero, List.set_cons_succ, List.set_cons_zero, List.map_cons, List.map_nil, List.replicate, List.cons_append, List.nil_append, List.length_cons, List.length_nil, Bool.not_true, Bool.not_false, if_true, if_false, ite_true, ite_false, reduceIte, Bool.false_eq_true, Bool.true_eq_false, Nat.reduceAdd, unD, Option.map_some, Nat.zero_le, Sh.sz1, Sh.sz2, Sh.sz3, Sh.sz4, Sh.sz5, Sh.sz6, Sh.sz7, Sh.sz8, Sh.sz9, Sh.sz10, Sh.sz11, Sh.sz12, Sh.sz13, Sh.sz14, Sh.sz15, Sh.sz16, Nat.reduceSub, Nat.reduceLeDiff, reduceCtorEq, Bool.and_true, Bool.true_and, Bool.and_false, Bool.false_and, Bool.or_true, Bool.or_false, Bool.true_or, Bool.false_or, h]
def rowOk (x : PyData) (lo hi : Int) : Bool := match x with
  | .tuple xs => decide (lo ≤ xs.length) && decide ((xs.length : Int) ≤ hi)
  | _ => false
theorem rowOk_n {n : Nat} : rowOk (.tuple xs) n n = decide (xs.length = n) := by
  rw [Bool.eq_iff_iff]; simp [rowOk]; omega
theorem is_row_ok {lo hi : Int} : m_is_row [.d x, .d (.int lo), .d (.int hi)] S = .ok (.d (.bool (rowOk x lo hi))) S := by
  unfold m_is_row defM b_is_row
  simp only [eVar_ap, eK_ap, aNil_ap, aCons_ap, eOp2_ap, eOp1_ap, eChain_ap, bOf_ap, bNot_ap, bAnd_ap, bOr_ap, eAnd_ap, eOr_ap, eNot_ap, eIf_ap, eTup_ap, eLst_ap, eLstM_ap, cNop_ap, cBreak_ap, cCont_ap, cSeq_ap, cExpr_ap, cSet_ap, cRet_ap, cRetN_ap, cIf_ap, cAsg_ap, cPar2_ap, cPar3_ap, bYes_ap, eCall_ap, oNone_ap, oSome_ap, eSl_ap, cFor_ap, eMtL_ap, aKw_ap, gNm_ap, gTp2, gTp3, gSb_ap, mkTup0, mkTup1, mkTup2, mkTup3, Out.bind, Out.ofO, exq, fin, callE_ap, List.getElem?_cons_succ, List.getElem?_cons_zero, List.set_cons_succ, List.set_cons_zero, List.map_cons, List.map_nil, List.replicate, List.cons_append, List.nil_append, List.length_cons, List.length_nil, Bool.not_true, Bool.not_false, if_true, if_false, ite_true, ite_false, reduceIte, Bool.false_eq_true, Bool.true_eq_false, Nat.reduceAdd, unD, Option.map_some, Nat.zero_le, Sh.sz1, Sh.sz2, Sh.sz3, Sh.sz4, Sh.sz5, Sh.sz6, Sh.sz7, Sh.sz8, Sh.sz9, Sh.sz10, Sh.sz11, Sh.sz12, Sh.sz13, Sh.sz14, Sh.sz15, Sh.sz16, Nat.reduceSub, Nat.reduceLeDiff, reduceCtorEq, Bool.and_true, Bool.true_and, Bool.and_false, Bool.false_and, Bool.or_true, Bool.or_false, Bool.true_or, Bool.false_or, opIsi_d, isiTup]
  cases x <;> simp only [isT, rowOk] <;> try simp only [eVar_ap, eK_ap, aNil_ap, aCons_ap, eOp2_ap, eOp1_ap, eChain_ap, bOf_ap, bNot_ap, bAnd_ap, bOr_ap, eAnd_ap, eOr_ap, eNot_ap, eIf_ap, eTup_ap, eLst_ap, eLstM_ap, cNop_ap, cBreak_ap, cCont_ap, cSeq_ap, cExpr_ap, cSet_ap, cRet_ap, cRetN_ap, cIf_ap, cAsg_ap, cPar2_ap, cPar3_ap, bYes_ap, eCall_ap, oNone_ap, oSome_ap, eSl_ap, cFor_ap, eMtL_ap, aKw_ap, gNm_ap, gTp2, gTp3, gSb_ap, mkTup0, mkTup1, mkTup2, mkTup3, Out.bind, Out.ofO, exq, fin, callE_ap, List.getElem?_cons_succ, List.getElem?_cons_zero, List.set_cons_succ, List.set_cons_zero, List.map_cons, List.map_nil, List.replicate, List.cons_append, List.nil_append, List.length_cons, List.length_nil, Bool.not_true, Bool.not_false, if_true, if_false, ite_true, ite_false, reduceIte, Bool.false_eq_true, Bool.true_eq_false, Nat.reduceAdd, unD, Option.map_some, Nat.zero_le, Sh.sz1, Sh.sz2, Sh.sz3, Sh.sz4, Sh.sz5, Sh.sz6, Sh.sz7, Sh.sz8, Sh.sz9, Sh.sz10, Sh.sz11, Sh.sz12, Sh.sz13, Sh.sz14, Sh.sz15, Sh.sz16, Nat.reduceSub, Nat.reduceLeDiff, reduceCtorEq, Bool.and_true, Bool.true_and, Bool.and_false, Bool.false_and, Bool.or_true, Bool.or_false, Bool.true_or, Bool.false_or]
  rename_i xs
  simp only [eVar_ap, eK_ap, aNil_ap, aCons_ap, eOp2_ap, eOp1_ap, eChain_ap, bOf_ap, bNot_ap, bAnd_ap, bOr_ap, eAnd_ap, eOr_ap, eNot_ap, eIf_ap, eTup_ap, eLst_ap, eLstM_ap, cNop_ap, cBreak_ap, cCont_ap, cSeq_ap, cExpr_ap, cSet_ap, cRet_ap, cRetN_ap, cIf_ap, cAsg_ap, cPar2_ap, cPar3_ap, bYes_ap, eCall_ap, oNone_ap, oSome_ap, eSl_ap, cFor_ap, eMtL_ap, aKw_ap, gNm_ap, gTp2, gTp3, gSb_ap, mkTup0, mkTup1, mkTup2, mkTup3, Out.bind, Out.ofO, exq, fin, callE_ap, List.getElem?_cons_succ, List.getElem?_cons_zero, List.set_cons_succ, List.set_cons_zero, List.map_cons, List.map_nil, List.replicate, List.cons_append, List.nil_append, List.length_cons, List.length_nil, Bool.not_true, Bool.not_false, if_true, if_false, ite_true, ite_false, reduceIte, Bool.false_eq_true, Bool.true_eq_false, Nat.reduceAdd, unD, Option.map_some, Nat.zero_le, Sh.sz1, Sh.sz2, Sh.sz3, Sh.sz4, Sh.sz5, Sh.sz6, Sh.sz7, Sh.sz8, Sh.sz9, Sh.sz10, Sh.sz11, Sh.sz12, Sh.sz13, Sh.sz14, Sh.sz15, Sh.sz16, Nat.reduceSub, Nat.reduceLeDiff, reduceCtorEq, Bool.and_true, Bool.true_and, Bool.and_false, Bool.false_and, Bool.or_true, Bool.or_false, Bool.true_or, Bool.false_or, bLen_tup, opInt_int]
  cases h : decide (lo ≤ (xs.length : Int)) <;> simp only [eVar_ap, eK_ap, aNil_ap, aCons_ap, eOp2_ap, eOp1_ap, eChain_ap, bOf_ap, bNot_ap, bAnd_ap, bOr_ap, eAnd_ap, eOr_ap, eNot_ap, eIf_ap, eTup_ap, eLst_ap, eLstM_ap, cNop_ap, cBreak_ap, cCont_ap, cSeq_ap, cExpr_ap, cSet_ap, cRet_ap, cRetN_ap, cIf_ap, cAsg_ap, cPar2_ap, cPar3_ap, bYes_ap, eCall_ap, oNone_ap, oSome_ap, eSl_ap, cFor_ap, eMtL_ap, aKw_ap, gNm_ap, gTp2, gTp3, gSb_ap, mkTup0, mkTup1, mkTup2, mkTup3, Out.bind, Out.ofO, exq, fin, callE_ap, List.getElem?_cons_succ, List.getElem?_cons_zero, List.set_cons_succ, List.set_cons_zero, List.map_cons, List.map_nil, List.replicate, List.cons_append, List.nil_append, List.length_cons, List.length_nil, Bool.not_true, Bool.not_false, if_true, if_false, ite_true, ite_false, reduceIte, Bool.false_eq_true, Bool.true_eq_false, Nat.reduceAdd, unD, Option.map_some, Nat.zero_le, Sh.sz1, Sh.sz2, Sh.sz3, Sh.sz4, Sh.sz5, Sh.sz6, Sh.sz7, Sh.sz8, Sh.sz9, Sh.sz10, Sh.sz11, Sh.sz12, Sh.sz13, Sh.sz14, Sh.sz15, Sh.sz16, Nat.reduceSub, Nat.reduceLeDiff, reduceCtorEq, Bool.and_true, Bool.true_and, Bool.and_false, Bool.false_and, Bool.or_true, Bool.or_false, Bool.true_or, Bool.false_or, h]
theorem asc_ok (h : OneKind xs) (hl : xs.length ≤ 1000) : m_is_ascending [.d (.tuple xs)] S = .ok (.d (.bool (ascD xs))) S := by
  unfold m_is_ascending defM b_is_ascending
  simp only [eVar_ap, eK_ap, aNil_ap, aCons_ap, eOp2_ap, eOp1_ap, eChain_ap, bOf_ap, bNot_ap, bAnd_ap, bOr_ap, eAnd_ap, eOr_ap, eNot_ap, eIf_ap, eTup_ap, eLst_ap, eLstM_ap, cNop_ap, cBreak_ap, cCont_ap, cSeq_ap, cExpr_ap, cSet_ap, cRet_ap, cRetN_ap, cIf_ap, cAsg_ap, cPar2_ap, cPar3_ap, bYes_ap, eCall_ap, oNone_ap, oSome_ap, eSl_ap, cFor_ap, eMtL_ap, aKw_ap, gNm_ap, gTp2, gTp3, gSb_ap, mkTup0, mkTup1, mkTup2, mkTup3, Out.bind, Out.ofO, exq, fin, callE_ap, List.getElem?_cons_succ, List.getElem?_cons_zero, List.set_cons_succ, List.set_cons_zero, List.map_cons, List.map_nil, List.replicate, List.cons_append, List.nil_append, List.length_cons, List.length_nil, Bool.not_true, Bool.not_false, if_true, if_false, ite_true, ite_false, reduceIte, Bool.false_eq_true, Bool.true_eq_false, Nat.reduceAdd, unD, Option.map_some, Nat.zero_le, Sh.sz1, Sh.sz2, Sh.sz3, Sh.sz4, Sh.sz5, Sh.sz6, Sh.sz7, Sh.sz8, Sh.sz9, Sh.sz10, Sh.sz11, Sh.sz12, Sh.sz13, Sh.sz14, Sh.sz15, Sh.sz16, Nat.reduceSub, Nat.reduceLeDiff, reduceCtorEq, Bool.and_true, Bool.true_and, Bool.and_false, Bool.false_and, Bool.or_true, Bool.or_false, Bool.true_or, Bool.false_or]
  rw [eLc_y (xs.zip xs.tail) (fun p => .d (.tuple [p.1, p.2])) (fun p => .bool (ltD p.1 p.2)) (grd := fun _ => True) ?_ trivial ?_ fun p hp => ?_]
  · simp only [eVar_ap, eK_ap, aNil_ap, aCons_ap, eOp2_ap, eOp1_ap, eChain_ap, bOf_ap, bNot_ap, bAnd_ap, bOr_ap, eAnd_ap, eOr_ap, eNot_ap, eIf_ap, eTup_ap, eLst_ap, eLstM_ap, cNop_ap, cBreak_ap, cCont_ap, cSeq_ap, cExpr_ap, cSet_ap, cRet_ap, cRetN_ap, cIf_ap, cAsg_ap, cPar2_ap, cPar3_ap, bYes_ap, eCall_ap, oNone_ap, oSome_ap, eSl_ap, cFor_ap, eMtL_ap, aKw_ap, gNm_ap, gTp2, gTp3, gSb_ap, mkTup0, mkTup1, mkTup2, mkTup3, Out.bind, Out.ofO, exq, fin, callE_ap, List.getElem?_cons_succ, List.getElem?_cons_zero, List.set_cons_succ, List.set_cons_zero, List.map_cons, List.map_nil, List.replicate, List.cons_append, List.nil_append, List.length_cons, List.length_nil, Bool.not_true, Bool.not_false, if_true, if_false, ite_true, ite_false, reduceIte, Bool.false_eq_true, Bool.true_eq_false, Nat.reduceAdd, unD, Option.map_some, Nat.zero_le, Sh.sz1, Sh.sz2, Sh.sz3, Sh.sz4, Sh.sz5, Sh.sz6, Sh.sz7, Sh.sz8, Sh.sz9, Sh.sz10, Sh.sz11, Sh.sz12, Sh.sz13, Sh.sz14, Sh.sz15, Sh.sz16, Nat.reduceSub, Nat.reduceLeDiff, reduceCtorEq, Bool.and_true, Bool.true_and, Bool.and_false, Bool.false_and, Bool.or_true, Bool.or_false, Bool.true_or, Bool.false_or, bAll_map]; rfl
  · refine iZp_tt ?_
    simp only [eVar_ap, eK_ap, aNil_ap, aCons_ap, eOp2_ap, eOp1_ap, eChain_ap, bOf_ap, bNot_ap, bAnd_ap, bOr_ap, eAnd_ap, eOr_ap, eNot_ap, eIf_ap, eTup_ap, eLst_ap, eLstM_ap, cNop_ap, cBreak_ap, cCont_ap, cSeq_ap, cExpr_ap, cSet_ap, cRet_ap, cRetN_ap, cIf_ap, cAsg_ap, cPar2_ap, cPar3_ap, bYes_ap, eCall_ap, oNone_ap, oSome_ap, eSl_ap, cFor_ap, eMtL_ap, aKw_ap, gNm_ap, gTp2, gTp3, gSb_ap, mkTup0, mkTup1, mkTup2, mkTup3, Out.bind, Out.ofO, exq, fin, callE_ap, List.getElem?_cons_succ, List.getElem?_cons_zero, List.set_cons_succ, List.set_cons_zero, List.map_cons, List.map_nil, List.replicate, List.cons_append, List.nil_append, List.length_cons, List.length_nil, Bool.not_true, Bool.not_false, if_true, if_false, ite_true, ite_false, reduceIte, Bool.false_eq_true, Bool.true_eq_false, Nat.reduceAdd, unD, Option.map_some, Nat.zero_le, Sh.sz1, Sh.sz2, Sh.sz3, Sh.sz4, Sh.sz5, Sh.sz6, Sh.sz7, Sh.sz8, Sh.sz9, Sh.sz10, Sh.sz11, Sh.sz12, Sh.sz13, Sh.sz14, Sh.sz15, Sh.sz16, Nat.reduceSub, Nat.reduceLeDiff, reduceCtorEq, Bool.and_true, Bool.true_and, Bool.and_false, Bool.false_and, Bool.or_true, Bool.or_false, Bool.true_or, Bool.false_or, opSl_tup, cut1]
    rw [List.drop_one]
  · simp only [List.length_zip, List.length_tail]; exact len_le (by omega)
  · refine ⟨_, gTp2, ?_⟩
    simp only [eVar_ap, eK_ap, aNil_ap, aCons_ap, eOp2_ap, eOp1_ap, eChain_ap, bOf_ap, bNot_ap, bAnd_ap, bOr_ap, eAnd_ap, eOr_ap, eNot_ap, eIf_ap, eTup_ap, eLst_ap, eLstM_ap, cNop_ap, cBreak_ap, cCont_ap, cSeq_ap, cExpr_ap, cSet_ap, cRet_ap, cRetN_ap, cIf_ap, cAsg_ap, cPar2_ap, cPar3_ap, bYes_ap, eCall_ap, oNone_ap, oSome_ap, eSl_ap, cFor_ap, eMtL_ap, aKw_ap, gNm_ap, gTp2, gTp3, gSb_ap, mkTup0, mkTup1, mkTup2, mkTup3, Out.bind, Out.ofO, exq, fin, callE_ap, List.getElem?_cons_succ, List.getElem?_cons_zero, List.set_cons_succ, List.set_cons_zero, List.map_cons, List.map_nil, List.replicate, List.cons_append, List.nil_append, List.length_cons, List.length_nil, Bool.not_true, Bool.not_false, if_true, if_false, ite_true, ite_false, reduceIte, Bool.false_eq_true, Bool.true_eq_false, Nat.reduceAdd, unD, Option.map_some, Nat.zero_le, Sh.sz1, Sh.sz2, Sh.sz3, Sh.sz4, Sh.sz5, Sh.sz6, Sh.sz7, Sh.sz8, Sh.sz9, Sh.sz10, Sh.sz11, Sh.sz12, Sh.sz13, Sh.sz14, Sh.sz15, Sh.sz16, Nat.reduceSub, Nat.reduceLeDiff, reduceCtorEq, Bool.and_true, Bool.true_and, Bool.and_false, Bool.false_and, Bool.or_true, Bool.or_false, Bool.true_or, Bool.false_or, wipeR]
    exact opLt_D h (List.of_mem_zip hp).1 (List.mem_of_mem_tail (List.of_mem_zip hp).2)
/-- a low name -/
def lowS (z : Str) : Bool := decide (1 ≤ z.length) && decide (z.length ≤ 10) && inS (one (z.cps.toList.getD 0 0)) letters && z.cps.toList.all fun c => inS (one c) signs
def lowN : PyData → Bool
  | .str z => lowS z
  | _ => false
theorem strlen {z : Str} : z.cps.toList.length = z.length := by simp [Str.length]
theorem sm_str {n : Nat} {z : Str} : sm n (.str z) = leafOk (.str z) := by cases n <;> rfl
theorem low_ok {n : Nat} (hx : sm n x = true) : m_is_low_name [.d x] S = .ok (.d (.bool (lowN x))) S := by
  unfold m_is_low_name defM b_is_low_name
  simp only [eVar_ap, eK_ap, aNil_ap, aCons_ap, eOp2_ap, eOp1_ap, eChain_ap, bOf_ap, bNot_ap, bAnd_ap, bOr_ap, eAnd_ap, eOr_ap, eNot_ap, eIf_ap, eTup_ap, eLst_ap, eLstM_ap, cNop_ap, cBreak_ap, cCont_ap, cSeq_ap, cExpr_ap, cSet_ap, cRet_ap, cRetN_ap, cIf_ap, cAsg_ap, cPar2_ap, cPar3_ap, bYes_ap, eCall_ap, oNone_ap, oSome_ap, eSl_ap, cFor_ap, eMtL_ap, aKw_ap, gNm_ap, gTp2, gTp3, gSb_ap, mkTup0, mkTup1, mkTup2, mkTup3, Out.bind, Out.ofO, exq, fin, callE_ap, List.getElem?_cons_succ, List.getElem?_cons_zero, List.set_cons_succ, List.set_cons_zero, List.map_cons, List.map_nil, List.replicate, List.cons_append, List.nil_append, List.length_cons, List.length_nil, Bool.not_true, Bool.not_false, if_true, if_false, ite_true, ite_false, reduceIte, Bool.false_eq_true, Bool.true_eq_false, Nat.reduceAdd, unD, Option.map_some, Nat.zero_le, Sh.sz1, Sh.sz2, Sh.sz3, Sh.sz4, Sh.sz5, Sh.sz6, Sh.sz7, Sh.sz8, Sh.sz9, Sh.sz10, Sh.sz11, Sh.sz12, Sh.sz13, Sh.sz14, Sh.sz15, Sh.sz16, Nat.reduceSub, Nat.reduceLeDiff, reduceCtorEq, Bool.and_true, Bool.true_and, Bool.and_false, Bool.false_and, Bool.or_true, Bool.or_false, Bool.true_or, Bool.false_or, opIsi_d, isiStr]
  cases x <;> simp only [isS, lowN, lowS] <;> try simp only [eVar_ap, eK_ap, aNil_ap, aCons_ap, eOp2_ap, eOp1_ap, eChain_ap, bOf_ap, bNot_ap, bAnd_ap, bOr_ap, eAnd_ap, eOr_ap, eNot_ap, eIf_ap, eTup_ap, eLst_ap, eLstM_ap, cNop_ap, cBreak_ap, cCont_ap, cSeq_ap, cExpr_ap, cSet_ap, cRet_ap, cRetN_ap, cIf_ap, cAsg_ap, cPar2_ap, cPar3_ap, bYes_ap, eCall_ap, oNone_ap, oSome_ap, eSl_ap, cFor_ap, eMtL_ap, aKw_ap, gNm_ap, gTp2, gTp3, gSb_ap, mkTup0, mkTup1, mkTup2, mkTup3, Out.bind, Out.ofO, exq, fin, callE_ap, List.getElem?_cons_succ, List.getElem?_cons_zero, List.set_cons_succ, List.set_cons_zero, List.map_cons, List.map_nil, List.replicate, List.cons_append, List.nil_append, List.length_cons, List.length_nil, Bool.not_true, Bool.not_false, if_true, if_false, ite_true, ite_false, reduceIte, Bool.false_eq_true, Bool.true_eq_false, Nat.reduceAdd, unD, Option.map_some, Nat.zero_le, Sh.sz1, Sh.sz2, Sh.sz3, Sh.sz4, Sh.sz5, Sh.sz6, Sh.sz7, Sh.sz8, Sh.sz9, Sh.sz10, Sh.sz11, Sh.sz12, Sh.sz13, Sh.sz14, Sh.sz15, Sh.sz16, Nat.reduceSub, Nat.reduceLeDiff, reduceCtorEq, Bool.and_true, Bool.true_and, Bool.and_false, Bool.false_and, Bool.or_true, Bool.or_false, Bool.true_or, Bool.false_or]
  rename_i z
  have hz : z.length ≤ 1000 := by simp only [sm_str, leafOk, Bool.and_eq_true, decide_eq_true_eq] at hx; exact hx.2
  simp only [eVar_ap, eK_ap, aNil_ap, aCons_ap, eOp2_ap, eOp1_ap, eChain_ap, bOf_ap, bNot_ap, bAnd_ap, bOr_ap, eAnd_ap, eOr_ap, eNot_ap, eIf_ap, eTup_ap, eLst_ap, eLstM_ap, cNop_ap, cBreak_ap, cCont_ap, cSeq_ap, cExpr_ap, cSet_ap, cRet_ap, cRetN_ap, cIf_ap, cAsg_ap, cPar2_ap, cPar3_ap, bYes_ap, eCall_ap, oNone_ap, oSome_ap, eSl_ap, cFor_ap, eMtL_ap, aKw_ap, gNm_ap, gTp2, gTp3, gSb_ap, mkTup0, mkTup1, mkTup2, mkTup3, Out.bind, Out.ofO, exq, fin, callE_ap, List.getElem?_cons_succ, List.getElem?_cons_zero, List.set_cons_succ, List.set_cons_zero, List.map_cons, List.map_nil, List.replicate, List.cons_append, List.nil_append, List.length_cons, List.length_nil, Bool.not_true, Bool.not_false, if_true, if_false, ite_true, ite_false, reduceIte, Bool.false_eq_true, Bool.true_eq_false, Nat.reduceAdd, unD, Option.map_some, Nat.zero_le, Sh.sz1, Sh.sz2, Sh.sz3, Sh.sz4, Sh.sz5, Sh.sz6, Sh.sz7, Sh.sz8, Sh.sz9, Sh.sz10, Sh.sz11, Sh.sz12, Sh.sz13, Sh.sz14, Sh.sz15, Sh.sz16, Nat.reduceSub, Nat.reduceLeDiff, reduceCtorEq, Bool.and_true, Bool.true_and, Bool.and_false, Bool.false_and, Bool.or_true, Bool.or_false, Bool.true_or, Bool.false_or, bLen_str (len_le hz), opInt_int, show decide ((1 : Int) ≤ (z.length : Int)) = decide (1 ≤ z.length) by simp; omega, show decide ((z.length : Int) ≤ 10) = decide (z.length ≤ 10) by simp; omega]
  cases h1 : decide (1 ≤ z.length) <;> try simp only [eVar_ap, eK_ap, aNil_ap, aCons_ap, eOp2_ap, eOp1_ap, eChain_ap, bOf_ap, bNot_ap, bAnd_ap, bOr_ap, eAnd_ap, eOr_ap, eNot_ap, eIf_ap, eTup_ap, eLst_ap, eLstM_ap, cNop_ap, cBreak_ap, cCont_ap, cSeq_ap, cExpr_ap, cSet_ap, cRet_ap, cRetN_ap, cIf_ap, cAsg_ap, cPar2_ap, cPar3_ap, bYes_ap, eCall_ap, oNone_ap, oSome_ap, eSl_ap, cFor_ap, eMtL_ap, aKw_ap, gNm_ap, gTp2, gTp3, gSb_ap, mkTup0, mkTup1, mkTup2, mkTup3, Out.bind, Out.ofO, exq, fin, callE_ap, List.getElem?_cons_succ, List.getElem?_cons_zero, List.set_cons_succ, List.set_cons_zero, List.map_cons, List.map_nil, List.replicate, List.cons_append, List.nil_append, List.length_cons, List.length_nil, Bool.not_true, Bool.not_false, if_true, if_false, ite_true, ite_false, reduceIte, Bool.false_eq_true, Bool.true_eq_false, Nat.reduceAdd, unD, Option.map_some, Nat.zero_le, Sh.sz1, Sh.sz2, Sh.sz3, Sh.sz4, Sh.sz5, Sh.sz6, Sh.sz7, Sh.sz8, Sh.sz9, Sh.sz10, Sh.sz11, Sh.sz12, Sh.sz13, Sh.sz14, Sh.sz15, Sh.sz16, Nat.reduceSub, Nat.reduceLeDiff, reduceCtorEq, Bool.and_true, Bool.true_and, Bool.and_false, Bool.false_and, Bool.or_true, Bool.or_false, Bool.true_or, Bool.false_or]
  cases h2 : decide (z.length ≤ 10) <;> try simp only [eVar_ap, eK_ap, aNil_ap, aCons_ap, eOp2_ap, eOp1_ap, eChain_ap, bOf_ap, bNot_ap, bAnd_ap, bOr_ap, eAnd_ap, eOr_ap, eNot_ap, eIf_ap, eTup_ap, eLst_ap, eLstM_ap, cNop_ap, cBreak_ap, cCont_ap, cSeq_ap, cExpr_ap, cSet_ap, cRet_ap, cRetN_ap, cIf_ap, cAsg_ap, cPar2_ap, cPar3_ap, bYes_ap, eCall_ap, oNone_ap, oSome_ap, eSl_ap, cFor_ap, eMtL_ap, aKw_ap, gNm_ap, gTp2, gTp3, gSb_ap, mkTup0, mkTup1, mkTup2, mkTup3, Out.bind, Out.ofO, exq, fin, callE_ap, List.getElem?_cons_succ, List.getElem?_cons_zero, List.set_cons_succ, List.set_cons_zero, List.map_cons, List.map_nil, List.replicate, List.cons_append, List.nil_append, List.length_cons, List.length_nil, Bool.not_true, Bool.not_false, if_true, if_false, ite_true, ite_false, reduceIte, Bool.false_eq_true, Bool.true_eq_false, Nat.reduceAdd, unD, Option.map_some, Nat.zero_le, Sh.sz1, Sh.sz2, Sh.sz3, Sh.sz4, Sh.sz5, Sh.sz6, Sh.sz7, Sh.sz8, Sh.sz9, Sh.sz10, Sh.sz11, Sh.sz12, Sh.sz13, Sh.sz14, Sh.sz15, Sh.sz16, Nat.reduceSub, Nat.reduceLeDiff, reduceCtorEq, Bool.and_true, Bool.true_and, Bool.and_false, Bool.false_and, Bool.or_true, Bool.or_false, Bool.true_or, Bool.false_or]
  have h1' : 0 < z.cps.toList.length := by rw [strlen]; exact of_decide_eq_true h1
  simp only [eVar_ap, eK_ap, aNil_ap, aCons_ap, eOp2_ap, eOp1_ap, eChain_ap, bOf_ap, bNot_ap, bAnd_ap, bOr_ap, eAnd_ap, eOr_ap, eNot_ap, eIf_ap, eTup_ap, eLst_ap, eLstM_ap, cNop_ap, cBreak_ap, cCont_ap, cSeq_ap, cExpr_ap, cSet_ap, cRet_ap, cRetN_ap, cIf_ap, cAsg_ap, cPar2_ap, cPar3_ap, bYes_ap, eCall_ap, oNone_ap, oSome_ap, eSl_ap, cFor_ap, eMtL_ap, aKw_ap, gNm_ap, gTp2, gTp3, gSb_ap, mkTup0, mkTup1, mkTup2, mkTup3, Out.bind, Out.ofO, exq, fin, callE_ap, List.getElem?_cons_succ, List.getElem?_cons_zero, List.set_cons_succ, List.set_cons_zero, List.map_cons, List.map_nil, List.replicate, List.cons_append, List.nil_append, List.length_cons, List.length_nil, Bool.not_true, Bool.not_false, if_true, if_false, ite_true, ite_false, reduceIte, Bool.false_eq_true, Bool.true_eq_false, Nat.reduceAdd, unD, Option.map_some, Nat.zero_le, Sh.sz1, Sh.sz2, Sh.sz3, Sh.sz4, Sh.sz5, Sh.sz6, Sh.sz7, Sh.sz8, Sh.sz9, Sh.sz10, Sh.sz11, Sh.sz12, Sh.sz13, Sh.sz14, Sh.sz15, Sh.sz16, Nat.reduceSub, Nat.reduceLeDiff, reduceCtorEq, Bool.and_true, Bool.true_and, Bool.and_false, Bool.false_and, Bool.or_true, Bool.or_false, Bool.true_or, Bool.false_or, opIx_str (len_le hz) (i := 0) (c := z.cps.toList.getD 0 0) (atI_nat (n := 0) (by simp [List.getD_eq_getElem?_getD, List.getElem?_eq_getElem h1'])), opIn_s]
  cases inS (one (z.cps.toList.getD 0 0)) letters <;> try simp only [eVar_ap, eK_ap, aNil_ap, aCons_ap, eOp2_ap, eOp1_ap, eChain_ap, bOf_ap, bNot_ap, bAnd_ap, bOr_ap, eAnd_ap, eOr_ap, eNot_ap, eIf_ap, eTup_ap, eLst_ap, eLstM_ap, cNop_ap, cBreak_ap, cCont_ap, cSeq_ap, cExpr_ap, cSet_ap, cRet_ap, cRetN_ap, cIf_ap, cAsg_ap, cPar2_ap, cPar3_ap, bYes_ap, eCall_ap, oNone_ap, oSome_ap, eSl_ap, cFor_ap, eMtL_ap, aKw_ap, gNm_ap, gTp2, gTp3, gSb_ap, mkTup0, mkTup1, mkTup2, mkTup3, Out.bind, Out.ofO, exq, fin, callE_ap, List.getElem?_cons_succ, List.getElem?_cons_zero, List.set_cons_succ, List.set_cons_zero, List.map_cons, List.map_nil, List.replicate, List.cons_append, List.nil_append, List.length_cons, List.length_nil, Bool.not_true, Bool.not_false, if_true, if_false, ite_true, ite_false, reduceIte, Bool.false_eq_true, Bool.true_eq_false, Nat.reduceAdd, unD, Option.map_some, Nat.zero_le, Sh.sz1, Sh.sz2, Sh.sz3, Sh.sz4, Sh.sz5, Sh.sz6, Sh.sz7, Sh.sz8, Sh.sz9, Sh.sz10, Sh.sz11, Sh.sz12, Sh.sz13, Sh.sz14, Sh.sz15, Sh.sz16, Nat.reduceSub, Nat.reduceLeDiff, reduceCtorEq, Bool.and_true, Bool.true_and, Bool.and_false, Bool.false_and, Bool.or_true, Bool.or_false, Bool.true_or, Bool.false_or]
  rw [eLc_y z.cps.toList (fun c => .d (.str ⟨#[c]⟩)) (fun c => .bool (inS (one c) signs)) (grd := fun _ => True) (iSq_str rfl) trivial (by rw [strlen]; exact len_le hz) fun c hc => ?_]
  · simp only [eVar_ap, eK_ap, aNil_ap, aCons_ap, eOp2_ap, eOp1_ap, eChain_ap, bOf_ap, bNot_ap, bAnd_ap, bOr_ap, eAnd_ap, eOr_ap, eNot_ap, eIf_ap, eTup_ap, eLst_ap, eLstM_ap, cNop_ap, cBreak_ap, cCont_ap, cSeq_ap, cExpr_ap, cSet_ap, cRet_ap, cRetN_ap, cIf_ap, cAsg_ap, cPar2_ap, cPar3_ap, bYes_ap, eCall_ap, oNone_ap, oSome_ap, eSl_ap, cFor_ap, eMtL_ap, aKw_ap, gNm_ap, gTp2, gTp3, gSb_ap, mkTup0, mkTup1, mkTup2, mkTup3, Out.bind, Out.ofO, exq, fin, callE_ap, List.getElem?_cons_succ, List.getElem?_cons_zero, List.set_cons_succ, List.set_cons_zero, List.map_cons, List.map_nil, List.replicate, List.cons_append, List.nil_append, List.length_cons, List.length_nil, Bool.not_true, Bool.not_false, if_true, if_false, ite_true, ite_false, reduceIte, Bool.false_eq_true, Bool.true_eq_false, Nat.reduceAdd, unD, Option.map_some, Nat.zero_le, Sh.sz1, Sh.sz2, Sh.sz3, Sh.sz4, Sh.sz5, Sh.sz6, Sh.sz7, Sh.sz8, Sh.sz9, Sh.sz10, Sh.sz11, Sh.sz12, Sh.sz13, Sh.sz14, Sh.sz15, Sh.sz16, Nat.reduceSub, Nat.reduceLeDiff, reduceCtorEq, Bool.and_true, Bool.true_and, Bool.and_false, Bool.false_and, Bool.or_true, Bool.or_false, Bool.true_or, Bool.false_or, bAll_map]
  · exact ⟨_, rfl, by simp only [eVar_ap, eK_ap, aNil_ap, aCons_ap, eOp2_ap, eOp1_ap, eChain_ap, bOf_ap, bNot_ap, bAnd_ap, bOr_ap, eAnd_ap, eOr_ap, eNot_ap, eIf_ap, eTup_ap, eLst_ap, eLstM_ap, cNop_ap, cBreak_ap, cCont_ap, cSeq_ap, cExpr_ap, cSet_ap, cRet_ap, cRetN_ap, cIf_ap, cAsg_ap, cPar2_ap, cPar3_ap, bYes_ap, eCall_ap, oNone_ap, oSome_ap, eSl_ap, cFor_ap, eMtL_ap, aKw_ap, gNm_ap, gTp2, gTp3, gSb_ap, mkTup0, mkTup1, mkTup2, mkTup3, Out.bind, Out.ofO, exq, fin, callE_ap, List.getElem?_cons_succ, List.getElem?_cons_zero, List.set_cons_succ, List.set_cons_zero, List.map_cons, List.map_nil, List.replicate, List.cons_append, List.nil_append, List.length_cons, List.length_nil, Bool.not_true, Bool.not_false, if_true, if_false, ite_true, ite_false, reduceIte, Bool.false_eq_true, Bool.true_eq_false, Nat.reduceAdd, unD, Option.map_some, Nat.zero_le, Sh.sz1, Sh.sz2, Sh.sz3, Sh.sz4, Sh.sz5, Sh.sz6, Sh.sz7, Sh.sz8, Sh.sz9, Sh.sz10, Sh.sz11, Sh.sz12, Sh.sz13, Sh.sz14, Sh.sz15, Sh.sz16, Nat.reduceSub, Nat.reduceLeDiff, reduceCtorEq, Bool.and_true, Bool.true_and, Bool.and_false, Bool.false_and, Bool.or_true, Bool.or_false, Bool.true_or, Bool.false_or, wipeR, opIn_s]⟩
/-- facts of any size -/
def fOk : PyData → Bool
  | .tuple fs => fs.all lowN && ascD fs
  | _ => false
theorem lowN_str {fs : List PyData} (h : fs.all lowN = true) : OneKind fs := .inl fun x hx => by
  have := List.all_eq_true.1 h x hx
  cases x <;> first | rfl | cases this
theorem facts_ok {n : Nat} (hx : sm (n + 1) x = true) : m_are_facts_of_any_size [.d x] S = .ok (.d (.bool (fOk x))) S := by
  unfold m_are_facts_of_any_size defM b_are_facts_of_any_size
  simp only [eVar_ap, eK_ap, aNil_ap, aCons_ap, eOp2_ap, eOp1_ap, eChain_ap, bOf_ap, bNot_ap, bAnd_ap, bOr_ap, eAnd_ap, eOr_ap, eNot_ap, eIf_ap, eTup_ap, eLst_ap, eLstM_ap, cNop_ap, cBreak_ap, cCont_ap, cSeq_ap, cExpr_ap, cSet_ap, cRet_ap, cRetN_ap, cIf_ap, cAsg_ap, cPar2_ap, cPar3_ap, bYes_ap, eCall_ap, oNone_ap, oSome_ap, eSl_ap, cFor_ap, eMtL_ap, aKw_ap, gNm_ap, gTp2, gTp3, gSb_ap, mkTup0, mkTup1, mkTup2, mkTup3, Out.bind, Out.ofO, exq, fin, callE_ap, List.getElem?_cons_succ, List.getElem?_cons_zero, List.set_cons_succ, List.set_cons_zero, List.map_cons, List.map_nil, List.replicate, List.cons_append, List.nil_append, List.length_cons, List.length_nil, Bool.not_true, Bool.not_false, if_true, if_false, ite_true, ite_false, reduceIte, Bool.false_eq_true, Bool.true_eq_false, Nat.reduceAdd, unD, Option.map_some, Nat.zero_le, Sh.sz1, Sh.sz2, Sh.sz3, Sh.sz4, Sh.sz5, Sh.sz6, Sh.sz7, Sh.sz8, Sh.sz9, Sh.sz10, Sh.sz11, Sh.sz12, Sh.sz13, Sh.sz14, Sh.sz15, Sh.sz16, Nat.reduceSub, Nat.reduceLeDiff, reduceCtorEq, Bool.and_true, Bool.true_and, Bool.and_false, Bool.false_and, Bool.or_true, Bool.or_false, Bool.true_or, Bool.false_or, opIsi_d, isiTup]
  cases x <;> simp only [isT, fOk] <;> try simp only [eVar_ap, eK_ap, aNil_ap, aCons_ap, eOp2_ap, eOp1_ap, eChain_ap, bOf_ap, bNot_ap, bAnd_ap, bOr_ap, eAnd_ap, eOr_ap, eNot_ap, eIf_ap, eTup_ap, eLst_ap, eLstM_ap, cNop_ap, cBreak_ap, cCont_ap, cSeq_ap, cExpr_ap, cSet_ap, cRet_ap, cRetN_ap, cIf_ap, cAsg_ap, cPar2_ap, cPar3_ap, bYes_ap, eCall_ap, oNone_ap, oSome_ap, eSl_ap, cFor_ap, eMtL_ap, aKw_ap, gNm_ap, gTp2, gTp3, gSb_ap, mkTup0, mkTup1, mkTup2, mkTup3, Out.bind, Out.ofO, exq, fin, callE_ap, List.getElem?_cons_succ, List.getElem?_cons_zero, List.set_cons_succ, List.set_cons_zero, List.map_cons, List.map_nil, List.replicate, List.cons_append, List.nil_append, List.length_cons, List.length_nil, Bool.not_true, Bool.not_false, if_true, if_false, ite_true, ite_false, reduceIte, Bool.false_eq_true, Bool.true_eq_false, Nat.reduceAdd, unD, Option.map_some, Nat.zero_le, Sh.sz1, Sh.sz2, Sh.sz3, Sh.sz4, Sh.sz5, Sh.sz6, Sh.sz7, Sh.sz8, Sh.sz9, Sh.sz10, Sh.sz11, Sh.sz12, Sh.sz13, Sh.sz14, Sh.sz15, Sh.sz16, Nat.reduceSub, Nat.reduceLeDiff, reduceCtorEq, Bool.and_true, Bool.true_and, Bool.and_false, Bool.false_and, Bool.or_true, Bool.or_false, Bool.true_or, Bool.false_or]
  rename_i fs
  have hs := sm_tup.1 hx
  rw [eLc_y fs W.d (fun x => .bool (lowN x)) (grd := fun _ => True) (iSq_tup rfl) trivial (len_le hs.1) fun x hx => ⟨_, rfl, by simp only [eVar_ap, eK_ap, aNil_ap, aCons_ap, eOp2_ap, eOp1_ap, eChain_ap, bOf_ap, bNot_ap, bAnd_ap, bOr_ap, eAnd_ap, eOr_ap, eNot_ap, eIf_ap, eTup_ap, eLst_ap, eLstM_ap, cNop_ap, cBreak_ap, cCont_ap, cSeq_ap, cExpr_ap, cSet_ap, cRet_ap, cRetN_ap, cIf_ap, cAsg_ap, cPar2_ap, cPar3_ap, bYes_ap, eCall_ap, oNone_ap, oSome_ap, eSl_ap, cFor_ap, eMtL_ap, aKw_ap, gNm_ap, gTp2, gTp3, gSb_ap, mkTup0, mkTup1, mkTup2, mkTup3, Out.bind, Out.ofO, exq, fin, callE_ap, List.getElem?_cons_succ, List.getElem?_cons_zero, List.set_cons_succ, List.set_cons_zero, List.map_cons, List.map_nil, List.replicate, List.cons_append, List.nil_append, List.length_cons, List.length_nil, Bool.not_true, Bool.not_false, if_true, if_false, ite_true, ite_false, reduceIte, Bool.false_eq_true, Bool.true_eq_false, Nat.reduceAdd, unD, Option.map_some, Nat.zero_le, Sh.sz1, Sh.sz2, Sh.sz3, Sh.sz4, Sh.sz5, Sh.sz6, Sh.sz7, Sh.sz8, Sh.sz9, Sh.sz10, Sh.sz11, Sh.sz12, Sh.sz13, Sh.sz14, Sh.sz15, Sh.sz16, Nat.reduceSub, Nat.reduceLeDiff, reduceCtorEq, Bool.and_true, Bool.true_and, Bool.and_false, Bool.false_and, Bool.or_true, Bool.or_false, Bool.true_or, Bool.false_or, wipeR, callP_d (low_ok (hs.2 x hx))]⟩]
  simp only [eVar_ap, eK_ap, aNil_ap, aCons_ap, eOp2_ap, eOp1_ap, eChain_ap, bOf_ap, bNot_ap, bAnd_ap, bOr_ap, eAnd_ap, eOr_ap, eNot_ap, eIf_ap, eTup_ap, eLst_ap, eLstM_ap, cNop_ap, cBreak_ap, cCont_ap, cSeq_ap, cExpr_ap, cSet_ap, cRet_ap, cRetN_ap, cIf_ap, cAsg_ap, cPar2_ap, cPar3_ap, bYes_ap, eCall_ap, oNone_ap, oSome_ap, eSl_ap, cFor_ap, eMtL_ap, aKw_ap, gNm_ap, gTp2, gTp3, gSb_ap, mkTup0, mkTup1, mkTup2, mkTup3, Out.bind, Out.ofO, exq, fin, callE_ap, List.getElem?_cons_succ, List.getElem?_cons_zero, List.set_cons_succ, List.set_cons_zero, List.map_cons, List.map_nil, List.replicate, List.cons_append, List.nil_append, List.length_cons, List.length_nil, Bool.not_true, Bool.not_false, if_true, if_false, ite_true, ite_false, reduceIte, Bool.false_eq_true, Bool.true_eq_false, Nat.reduceAdd, unD, Option.map_some, Nat.zero_le, Sh.sz1, Sh.sz2, Sh.sz3, Sh.sz4, Sh.sz5, Sh.sz6, Sh.sz7, Sh.sz8, Sh.sz9, Sh.sz10, Sh.sz11, Sh.sz12, Sh.sz13, Sh.sz14, Sh.sz15, Sh.sz16, Nat.reduceSub, Nat.reduceLeDiff, reduceCtorEq, Bool.and_true, Bool.true_and, Bool.and_false, Bool.false_and, Bool.or_true, Bool.or_false, Bool.true_or, Bool.false_or, bAll_map]
  cases h : fs.all lowN <;> try simp only [eVar_ap, eK_ap, aNil_ap, aCons_ap, eOp2_ap, eOp1_ap, eChain_ap, bOf_ap, bNot_ap, bAnd_ap, bOr_ap, eAnd_ap, eOr_ap, eNot_ap, eIf_ap, eTup_ap, eLst_ap, eLstM_ap, cNop_ap, cBreak_ap, cCont_ap, cSeq_ap, cExpr_ap, cSet_ap, cRet_ap, cRetN_ap, cIf_ap, cAsg_ap, cPar2_ap, cPar3_ap, bYes_ap, eCall_ap, oNone_ap, oSome_ap, eSl_ap, cFor_ap, eMtL_ap, aKw_ap, gNm_ap, gTp2, gTp3, gSb_ap, mkTup0, mkTup1, mkTup2, mkTup3, Out.bind, Out.ofO, exq, fin, callE_ap, List.getElem?_cons_succ, List.getElem?_cons_zero, List.set_cons_succ, List.set_cons_zero, List.map_cons, List.map_nil, List.replicate, List.cons_append, List.nil_append, List.length_cons, List.length_nil, Bool.not_true, Bool.not_false, if_true, if_false, ite_true, ite_false, reduceIte, Bool.false_eq_true, Bool.true_eq_false, Nat.reduceAdd, unD, Option.map_some, Nat.zero_le, Sh.sz1, Sh.sz2, Sh.sz3, Sh.sz4, Sh.sz5, Sh.sz6, Sh.sz7, Sh.sz8, Sh.sz9, Sh.sz10, Sh.sz11, Sh.sz12, Sh.sz13, Sh.sz14, Sh.sz15, Sh.sz16, Nat.reduceSub, Nat.reduceLeDiff, reduceCtorEq, Bool.and_true, Bool.true_and, Bool.and_false, Bool.false_and, Bool.or_true, Bool.or_false, Bool.true_or, Bool.false_or]
  simp only [eVar_ap, eK_ap, aNil_ap, aCons_ap, eOp2_ap, eOp1_ap, eChain_ap, bOf_ap, bNot_ap, bAnd_ap, bOr_ap, eAnd_ap, eOr_ap, eNot_ap, eIf_ap, eTup_ap, eLst_ap, eLstM_ap, cNop_ap, cBreak_ap, cCont_ap, cSeq_ap, cExpr_ap, cSet_ap, cRet_ap, cRetN_ap, cIf_ap, cAsg_ap, cPar2_ap, cPar3_ap, bYes_ap, eCall_ap, oNone_ap, oSome_ap, eSl_ap, cFor_ap, eMtL_ap, aKw_ap, gNm_ap, gTp2, gTp3, gSb_ap, mkTup0, mkTup1, mkTup2, mkTup3, Out.bind, Out.ofO, exq, fin, callE_ap, List.getElem?_cons_succ, List.getElem?_cons_zero, List.set_cons_succ, List.set_cons_zero, List.map_cons, List.map_nil, List.replicate, List.cons_append, List.nil_append, List.length_cons, List.length_nil, Bool.not_true, Bool.not_false, if_true, if_false, ite_true, ite_false, reduceIte, Bool.false_eq_true, Bool.true_eq_false, Nat.reduceAdd, unD, Option.map_some, Nat.zero_le, Sh.sz1, Sh.sz2, Sh.sz3, Sh.sz4, Sh.sz5, Sh.sz6, Sh.sz7, Sh.sz8, Sh.sz9, Sh.sz10, Sh.sz11, Sh.sz12, Sh.sz13, Sh.sz14, Sh.sz15, Sh.sz16, Nat.reduceSub, Nat.reduceLeDiff, reduceCtorEq, Bool.and_true, Bool.true_and, Bool.and_false, Bool.false_and, Bool.or_true, Bool.or_false, Bool.true_or, Bool.false_or, callP_d (asc_ok (lowN_str h) hs.1)]
/-- indexes -/
def ixOk (x : PyData) (many : Int) : Bool := match x with
  | .tuple ks => (ks.all fun k => inR k 0 (many - 1)) && ascD ks
  | _ => false
theorem inR_int {ks : List PyData} {lo hi : Int} (h : (ks.all fun k => inR k lo hi) = true) : OneKind ks := .inr fun x hx => by
  have := List.all_eq_true.1 h x hx
  cases x <;> first | rfl | cases this
theorem ixs_ok {n : Nat} {many : Int} (hx : sm (n + 1) x = true) : m_are_indexes [.d x, .d (.int many)] S = .ok (.d (.bool (ixOk x many))) S := by
  unfold m_are_indexes defM b_are_indexes
  simp only [eVar_ap, eK_ap, aNil_ap, aCons_ap, eOp2_ap, eOp1_ap, eChain_ap, bOf_ap, bNot_ap, bAnd_ap, bOr_ap, eAnd_ap, eOr_ap, eNot_ap, eIf_ap, eTup_ap, eLst_ap, eLstM_ap, cNop_ap, cBreak_ap, cCont_ap, cSeq_ap, cExpr_ap, cSet_ap, cRet_ap, cRetN_ap, cIf_ap, cAsg_ap, cPar2_ap, cPar3_ap, bYes_ap, eCall_ap, oNone_ap, oSome_ap, eSl_ap, cFor_ap, eMtL_ap, aKw_ap, gNm_ap, gTp2, gTp3, gSb_ap, mkTup0, mkTup1, mkTup2, mkTup3, Out.bind, Out.ofO, exq, fin, callE_ap, List.getElem?_cons_succ, List.getElem?_cons_zero, List.set_cons_succ, List.set_cons_zero, List.map_cons, List.map_nil, List.replicate, List.cons_append, List.nil_append, List.length_cons, List.length_nil, Bool.not_true, Bool.not_false, if_true, if_false, ite_true, ite_false, reduceIte, Bool.false_eq_true, Bool.true_eq_false, Nat.reduceAdd, unD, Option.map_some, Nat.zero_le, Sh.sz1, Sh.sz2, Sh.sz3, Sh.sz4, Sh.sz5, Sh.sz6, Sh.sz7, Sh.sz8, Sh.sz9, Sh.sz10, Sh.sz11, Sh.sz12, Sh.sz13, Sh.sz14, Sh.sz15, Sh.sz16, Nat.reduceSub, Nat.reduceLeDiff, reduceCtorEq, Bool.and_true, Bool.true_and, Bool.and_false, Bool.false_and, Bool.or_true, Bool.or_false, Bool.true_or, Bool.false_or, opIsi_d, isiTup]
  cases x <;> simp only [isT, ixOk] <;> try simp only [eVar_ap, eK_ap, aNil_ap, aCons_ap, eOp2_ap, eOp1_ap, eChain_ap, bOf_ap, bNot_ap, bAnd_ap, bOr_ap, eAnd_ap, eOr_ap, eNot_ap, eIf_ap, eTup_ap, eLst_ap, eLstM_ap, cNop_ap, cBreak_ap, cCont_ap, cSeq_ap, cExpr_ap, cSet_ap, cRet_ap, cRetN_ap, cIf_ap, cAsg_ap, cPar2_ap, cPar3_ap, bYes_ap, eCall_ap, oNone_ap, oSome_ap, eSl_ap, cFor_ap, eMtL_ap, aKw_ap, gNm_ap, gTp2, gTp3, gSb_ap, mkTup0, mkTup1, mkTup2, mkTup3, Out.bind, Out.ofO, exq, fin, callE_ap, List.getElem?_cons_succ, List.getElem?_cons_zero, List.set_cons_succ, List.set_cons_zero, List.map_cons, List.map_nil, List.replicate, List.cons_append, List.nil_append, List.length_cons, List.length_nil, Bool.not_true, Bool.not_false, if_true, if_false, ite_true, ite_false, reduceIte, Bool.false_eq_true, Bool.true_eq_false, Nat.reduceAdd, unD, Option.map_some, Nat.zero_le, Sh.sz1, Sh.sz2, Sh.sz3, Sh.sz4, Sh.sz5, Sh.sz6, Sh.sz7, Sh.sz8, Sh.sz9, Sh.sz10, Sh.sz11, Sh.sz12, Sh.sz13, Sh.sz14, Sh.sz15, Sh.sz16, Nat.reduceSub, Nat.reduceLeDiff, reduceCtorEq, Bool.and_true, Bool.true_and, Bool.and_false, Bool.false_and, Bool.or_true, Bool.or_false, Bool.true_or, Bool.false_or]
  rename_i ks
  have hs := sm_tup.1 hx
  rw [eLc_y ks W.d (fun k => .bool (inR k 0 (many - 1))) (grd := fun _ => True) (iSq_tup rfl) trivial (len_le hs.1) fun x hx => ⟨_, rfl, by simp only [eVar_ap, eK_ap, aNil_ap, aCons_ap, eOp2_ap, eOp1_ap, eChain_ap, bOf_ap, bNot_ap, bAnd_ap, bOr_ap, eAnd_ap, eOr_ap, eNot_ap, eIf_ap, eTup_ap, eLst_ap, eLstM_ap, cNop_ap, cBreak_ap, cCont_ap, cSeq_ap, cExpr_ap, cSet_ap, cRet_ap, cRetN_ap, cIf_ap, cAsg_ap, cPar2_ap, cPar3_ap, bYes_ap, eCall_ap, oNone_ap, oSome_ap, eSl_ap, cFor_ap, eMtL_ap, aKw_ap, gNm_ap, gTp2, gTp3, gSb_ap, mkTup0, mkTup1, mkTup2, mkTup3, Out.bind, Out.ofO, exq, fin, callE_ap, List.getElem?_cons_succ, List.getElem?_cons_zero, List.set_cons_succ, List.set_cons_zero, List.map_cons, List.map_nil, List.replicate, List.cons_append, List.nil_append, List.length_cons, List.length_nil, Bool.not_true, Bool.not_false, if_true, if_false, ite_true, ite_false, reduceIte, Bool.false_eq_true, Bool.true_eq_false, Nat.reduceAdd, unD, Option.map_some, Nat.zero_le, Sh.sz1, Sh.sz2, Sh.sz3, Sh.sz4, Sh.sz5, Sh.sz6, Sh.sz7, Sh.sz8, Sh.sz9, Sh.sz10, Sh.sz11, Sh.sz12, Sh.sz13, Sh.sz14, Sh.sz15, Sh.sz16, Nat.reduceSub, Nat.reduceLeDiff, reduceCtorEq, Bool.and_true, Bool.true_and, Bool.and_false, Bool.false_and, Bool.or_true, Bool.or_false, Bool.true_or, Bool.false_or, wipeR, opSub_int, callP_d within_ok]⟩]
  simp only [eVar_ap, eK_ap, aNil_ap, aCons_ap, eOp2_ap, eOp1_ap, eChain_ap, bOf_ap, bNot_ap, bAnd_ap, bOr_ap, eAnd_ap, eOr_ap, eNot_ap, eIf_ap, eTup_ap, eLst_ap, eLstM_ap, cNop_ap, cBreak_ap, cCont_ap, cSeq_ap, cExpr_ap, cSet_ap, cRet_ap, cRetN_ap, cIf_ap, cAsg_ap, cPar2_ap, cPar3_ap, bYes_ap, eCall_ap, oNone_ap, oSome_ap, eSl_ap, cFor_ap, eMtL_ap, aKw_ap, gNm_ap, gTp2, gTp3, gSb_ap, mkTup0, mkTup1, mkTup2, mkTup3, Out.bind, Out.ofO, exq, fin, callE_ap, List.getElem?_cons_succ, List.getElem?_cons_zero, List.set_cons_succ, List.set_cons_zero, List.map_cons, List.map_nil, List.replicate, List.cons_append, List.nil_append, List.length_cons, List.length_nil, Bool.not_true, Bool.not_false, if_true, if_false, ite_true, ite_false, reduceIte, Bool.false_eq_true, Bool.true_eq_false, Nat.reduceAdd, unD, Option.map_some, Nat.zero_le, Sh.sz1, Sh.sz2, Sh.sz3, Sh.sz4, Sh.sz5, Sh.sz6, Sh.sz7, Sh.sz8, Sh.sz9, Sh.sz10, Sh.sz11, Sh.sz12, Sh.sz13, Sh.sz14, Sh.sz15, Sh.sz16, Nat.reduceSub, Nat.reduceLeDiff, reduceCtorEq, Bool.and_true, Bool.true_and, Bool.and_false, Bool.false_and, Bool.or_true, Bool.or_false, Bool.true_or, Bool.false_or, bAll_map]
  cases h : ks.all (fun k => inR k 0 (many - 1)) <;> try simp only [eVar_ap, eK_ap, aNil_ap, aCons_ap, eOp2_ap, eOp1_ap, eChain_ap, bOf_ap, bNot_ap, bAnd_ap, bOr_ap, eAnd_ap, eOr_ap, eNot_ap, eIf_ap, eTup_ap, eLst_ap, eLstM_ap, cNop_ap, cBreak_ap, cCont_ap, cSeq_ap, cExpr_ap, cSet_ap, cRet_ap, cRetN_ap, cIf_ap, cAsg_ap, cPar2_ap, cPar3_ap, bYes_ap, eCall_ap, oNone_ap, oSome_ap, eSl_ap, cFor_ap, eMtL_ap, aKw_ap, gNm_ap, gTp2, gTp3, gSb_ap, mkTup0, mkTup1, mkTup2, mkTup3, Out.bind, Out.ofO, exq, fin, callE_ap, List.getElem?_cons_succ, List.getElem?_cons_zero, List.set_cons_succ, List.set_cons_zero, List.map_cons, List.map_nil, List.replicate, List.cons_append, List.nil_append, List.length_cons, List.length_nil, Bool.not_true, Bool.not_false, if_true, if_false, ite_true, ite_false, reduceIte, Bool.false_eq_true, Bool.true_eq_false, Nat.reduceAdd, unD, Option.map_some, Nat.zero_le, Sh.sz1, Sh.sz2, Sh.sz3, Sh.sz4, Sh.sz5, Sh.sz6, Sh.sz7, Sh.sz8, Sh.sz9, Sh.sz10, Sh.sz11, Sh.sz12, Sh.sz13, Sh.sz14, Sh.sz15, Sh.sz16, Nat.reduceSub, Nat.reduceLeDiff, reduceCtorEq, Bool.and_true, Bool.true_and, Bool.and_false, Bool.false_and, Bool.or_true, Bool.or_false, Bool.true_or, Bool.false_or]
  simp only [eVar_ap, eK_ap, aNil_ap, aCons_ap, eOp2_ap, eOp1_ap, eChain_ap, bOf_ap, bNot_ap, bAnd_ap, bOr_ap, eAnd_ap, eOr_ap, eNot_ap, eIf_ap, eTup_ap, eLst_ap, eLstM_ap, cNop_ap, cBreak_ap, cCont_ap, cSeq_ap, cExpr_ap, cSet_ap, cRet_ap, cRetN_ap, cIf_ap, cAsg_ap, cPar2_ap, cPar3_ap, bYes_ap, eCall_ap, oNone_ap, oSome_ap, eSl_ap, cFor_ap, eMtL_ap, aKw_ap, gNm_ap, gTp2, gTp3, gSb_ap, mkTup0, mkTup1, mkTup2, mkTup3, Out.bind, Out.ofO, exq, fin, callE_ap, List.getElem?_cons_succ, List.getElem?_cons_zero, List.set_cons_succ, List.set_cons_zero, List.map_cons, List.map_nil, List.replicate, List.cons_append, List.nil_append, List.length_cons, List.length_nil, Bool.not_true, Bool.not_false, if_true, if_false, ite_true, ite_false, reduceIte, Bool.false_eq_true, Bool.true_eq_false, Nat.reduceAdd, unD, Option.map_some, Nat.zero_le, Sh.sz1, Sh.sz2, Sh.sz3, Sh.sz4, Sh.sz5, Sh.sz6, Sh.sz7, Sh.sz8, Sh.sz9, Sh.sz10, Sh.sz11, Sh.sz12, Sh.sz13, Sh.sz14, Sh.sz15, Sh.sz16, Nat.reduceSub, Nat.reduceLeDiff, reduceCtorEq, Bool.and_true, Bool.true_and, Bool.and_false, Bool.false_and, Bool.or_true, Bool.or_false, Bool.true_or, Bool.false_or, callP_d (asc_ok (inR_int h) hs.1)]
theorem inR_lt {k : PyData} {many : Int} : (isI k && (match k with | .int i => decide (0 ≤ i) && decide (i < many) | _ => false)) = inR k 0 (many - 1) := by
  cases k <;> simp only [isI, inR, Bool.false_and, Bool.true_and]
  rename_i i
  congr 1
  by_cases h : i < many
  · simp [h]; omega
  · simp [h]; omega
theorem elt_lt {ρ : Rho} {many : Int} {i : Nat} {mj : EM} {k : PyData} (h1 : ρ[i]? = some (some (.d k))) (h2 : mj ρ S = .ok (.d (.int many)) S) :
    (eAnd (eOp1 (opIsi "int") (eVar i)) (eAnd (eNot (eOp1 (opIsi "bool") (eVar i))) (eChain (opLe) (opLt) (eInt 0) (eVar i) mj))) ρ S = .ok (.d (.bool (inR k 0 (many - 1)))) S := by
  rw [← inR_lt]
  simp only [eVar_ap, eK_ap, aNil_ap, aCons_ap, eOp2_ap, eOp1_ap, eChain_ap, bOf_ap, bNot_ap, bAnd_ap, bOr_ap, eAnd_ap, eOr_ap, eNot_ap, eIf_ap, eTup_ap, eLst_ap, eLstM_ap, cNop_ap, cBreak_ap, cCont_ap, cSeq_ap, cExpr_ap, cSet_ap, cRet_ap, cRetN_ap, cIf_ap, cAsg_ap, cPar2_ap, cPar3_ap, bYes_ap, eCall_ap, oNone_ap, oSome_ap, eSl_ap, cFor_ap, eMtL_ap, aKw_ap, gNm_ap, gTp2, gTp3, gSb_ap, mkTup0, mkTup1, mkTup2, mkTup3, Out.bind, Out.ofO, exq, fin, callE_ap, List.getElem?_cons_succ, List.getElem?_cons_zero, List.set_cons_succ, List.set_cons_zero, List.map_cons, List.map_nil, List.replicate, List.cons_append, List.nil_append, List.length_cons, List.length_nil, Bool.not_true, Bool.not_false, if_true, if_false, ite_true, ite_false, reduceIte, Bool.false_eq_true, Bool.true_eq_false, Nat.reduceAdd, unD, Option.map_some, Nat.zero_le, Sh.sz1, Sh.sz2, Sh.sz3, Sh.sz4, Sh.sz5, Sh.sz6, Sh.sz7, Sh.sz8, Sh.sz9, Sh.sz10, Sh.sz11, Sh.sz12, Sh.sz13, Sh.sz14, Sh.sz15, Sh.sz16, Nat.reduceSub, Nat.reduceLeDiff, reduceCtorEq, Bool.and_true, Bool.true_and, Bool.and_false, Bool.false_and, Bool.or_true, Bool.or_false, Bool.true_or, Bool.false_or, h1, h2, opIsi_d]
  cases k <;> simp only [tyD, isI, Bool.false_and, Bool.true_and] <;> try (simp only [eVar_ap, eK_ap, aNil_ap, aCons_ap, eOp2_ap, eOp1_ap, eChain_ap, bOf_ap, bNot_ap, bAnd_ap, bOr_ap, eAnd_ap, eOr_ap, eNot_ap, eIf_ap, eTup_ap, eLst_ap, eLstM_ap, cNop_ap, cBreak_ap, cCont_ap, cSeq_ap, cExpr_ap, cSet_ap, cRet_ap, cRetN_ap, cIf_ap, cAsg_ap, cPar2_ap, cPar3_ap, bYes_ap, eCall_ap, oNone_ap, oSome_ap, eSl_ap, cFor_ap, eMtL_ap, aKw_ap, gNm_ap, gTp2, gTp3, gSb_ap, mkTup0, mkTup1, mkTup2, mkTup3, Out.bind, Out.ofO, exq, fin, callE_ap, List.getElem?_cons_succ, List.getElem?_cons_zero, List.set_cons_succ, List.set_cons_zero, List.map_cons, List.map_nil, List.replicate, List.cons_append, List.nil_append, List.length_cons, List.length_nil, Bool.not_true, Bool.not_false, if_true, if_false, ite_true, ite_false, reduceIte, Bool.false_eq_true, Bool.true_eq_false, Nat.reduceAdd, unD, Option.map_some, Nat.zero_le, Sh.sz1, Sh.sz2, Sh.sz3, Sh.sz4, Sh.sz5, Sh.sz6, Sh.sz7, Sh.sz8, Sh.sz9, Sh.sz10, Sh.sz11, Sh.sz12, Sh.sz13, Sh.sz14, Sh.sz15, Sh.sz16, Nat.reduceSub, Nat.reduceLeDiff, reduceCtorEq, Bool.and_true, Bool.true_and, Bool.and_false, Bool.false_and, Bool.or_true, Bool.or_false, Bool.true_or, Bool.false_or, show isiT "NoneType" "int" = false from rfl, show isiT "bool" "int" = true from rfl, show isiT "bool" "bool" = true from rfl, show isiT "str" "int" = false from rfl, show isiT "list" "int" = false from rfl, show isiT "tuple" "int" = false from rfl, show isiT "dict" "int" = false from rfl])
  rename_i i
  simp only [eVar_ap, eK_ap, aNil_ap, aCons_ap, eOp2_ap, eOp1_ap, eChain_ap, bOf_ap, bNot_ap, bAnd_ap, bOr_ap, eAnd_ap, eOr_ap, eNot_ap, eIf_ap, eTup_ap, eLst_ap, eLstM_ap, cNop_ap, cBreak_ap, cCont_ap, cSeq_ap, cExpr_ap, cSet_ap, cRet_ap, cRetN_ap, cIf_ap, cAsg_ap, cPar2_ap, cPar3_ap, bYes_ap, eCall_ap, oNone_ap, oSome_ap, eSl_ap, cFor_ap, eMtL_ap, aKw_ap, gNm_ap, gTp2, gTp3, gSb_ap, mkTup0, mkTup1, mkTup2, mkTup3, Out.bind, Out.ofO, exq, fin, callE_ap, List.getElem?_cons_succ, List.getElem?_cons_zero, List.set_cons_succ, List.set_cons_zero, List.map_cons, List.map_nil, List.replicate, List.cons_append, List.nil_append, List.length_cons, List.length_nil, Bool.not_true, Bool.not_false, if_true, if_false, ite_true, ite_false, reduceIte, Bool.false_eq_true, Bool.true_eq_false, Nat.reduceAdd, unD, Option.map_some, Nat.zero_le, Sh.sz1, Sh.sz2, Sh.sz3, Sh.sz4, Sh.sz5, Sh.sz6, Sh.sz7, Sh.sz8, Sh.sz9, Sh.sz10, Sh.sz11, Sh.sz12, Sh.sz13, Sh.sz14, Sh.sz15, Sh.sz16, Nat.reduceSub, Nat.reduceLeDiff, reduceCtorEq, Bool.and_true, Bool.true_and, Bool.and_false, Bool.false_and, Bool.or_true, Bool.or_false, Bool.true_or, Bool.false_or, show isiT "int" "int" = true from rfl, show isiT "int" "bool" = false from rfl, opInt_int]
  cases h : decide (0 ≤ i) <;> simp only [eVar_ap, eK_ap, aNil_ap, aCons_ap, eOp2_ap, eOp1_ap, eChain_ap, bOf_ap, bNot_ap, bAnd_ap, bOr_ap, eAnd_ap, eOr_ap, eNot_ap, eIf_ap, eTup_ap, eLst_ap, eLstM_ap, cNop_ap, cBreak_ap, cCont_ap, cSeq_ap, cExpr_ap, cSet_ap, cRet_ap, cRetN_ap, cIf_ap, cAsg_ap, cPar2_ap, cPar3_ap, bYes_ap, eCall_ap, oNone_ap, oSome_ap, eSl_ap, cFor_ap, eMtL_ap, aKw_ap, gNm_ap, gTp2, gTp3, gSb_ap, mkTup0, mkTup1, mkTup2, mkTup3, Out.bind, Out.ofO, exq, fin, callE_ap, List.getElem?_cons_succ, List.getElem?_cons_zero, List.set_cons_succ, List.set_cons_zero, List.map_cons, List.map_nil, List.replicate, List.cons_append, List.nil_append, List.length_cons, List.length_nil, Bool.not_true, Bool.not_false, if_true, if_false, ite_true, ite_false, reduceIte, Bool.false_eq_true, Bool.true_eq_false, Nat.reduceAdd, unD, Option.map_some, Nat.zero_le, Sh.sz1, Sh.sz2, Sh.sz3, Sh.sz4, Sh.sz5, Sh.sz6, Sh.sz7, Sh.sz8, Sh.sz9, Sh.sz10, Sh.sz11, Sh.sz12, Sh.sz13, Sh.sz14, Sh.sz15, Sh.sz16, Nat.reduceSub, Nat.reduceLeDiff, reduceCtorEq, Bool.and_true, Bool.true_and, Bool.and_false, Bool.false_and, Bool.or_true, Bool.or_false, Bool.true_or, Bool.false_or, opLt_int, h1, h2]
/-- mates -/
def mtAt (ks : List PyData) (w : Nat) : Bool := match ks.getD w .none with
  | .int m => decide (m ≤ (w : Int)) && (match ks.getD m.toNat .none with | .int m2 => m2 == m | _ => false)
  | _ => false
def mtOk (x : PyData) (n : Nat) : Bool := match x with
  | .tuple ks => decide (ks.length = n) && (ks.all fun k => inR k 0 ((n : Int) - 1)) && (List.range ks.length).all fun w => mtAt ks w
  | _ => false
theorem inR_at {ks : List PyData} {n k : Nat} (h : (ks.all fun k => inR k 0 ((n : Int) - 1)) = true) (hk : k < ks.length) : ∃ m : Nat, ks.getD k .none = .int m ∧ m < n := by
  have := List.all_eq_true.1 h _ (getD_mem hk)
  generalize ks.getD k .none = y at this
  cases y <;> try cases this
  rename_i i
  simp only [inR, Bool.and_eq_true, decide_eq_true_eq] at this
  exact ⟨i.toNat, by congr 1; omega, by omega⟩
theorem mates_ok {q n : Nat} (hx : sm (q + 1) x = true) (hn : n ≤ 1000) : m_are_mates [.d x, .d (.int n)] S = .ok (.d (.bool (mtOk x n))) S := by
  unfold m_are_mates defM b_are_mates
  simp only [eVar_ap, eK_ap, aNil_ap, aCons_ap, eOp2_ap, eOp1_ap, eChain_ap, bOf_ap, bNot_ap, bAnd_ap, bOr_ap, eAnd_ap, eOr_ap, eNot_ap, eIf_ap, eTup_ap, eLst_ap, eLstM_ap, cNop_ap, cBreak_ap, cCont_ap, cSeq_ap, cExpr_ap, cSet_ap, cRet_ap, cRetN_ap, cIf_ap, cAsg_ap, cPar2_ap, cPar3_ap, bYes_ap, eCall_ap, oNone_ap, oSome_ap, eSl_ap, cFor_ap, eMtL_ap, aKw_ap, gNm_ap, gTp2, gTp3, gSb_ap, mkTup0, mkTup1, mkTup2, mkTup3, Out.bind, Out.ofO, exq, fin, callE_ap, List.getElem?_cons_succ, List.getElem?_cons_zero, List.set_cons_succ, List.set_cons_zero, List.map_cons, List.map_nil, List.replicate, List.cons_append, List.nil_append, List.length_cons, List.length_nil, Bool.not_true, Bool.not_false, if_true, if_false, ite_true, ite_false, reduceIte, Bool.false_eq_true, Bool.true_eq_false, Nat.reduceAdd, unD, Option.map_some, Nat.zero_le, Sh.sz1, Sh.sz2, Sh.sz3, Sh.sz4, Sh.sz5, Sh.sz6, Sh.sz7, Sh.sz8, Sh.sz9, Sh.sz10, Sh.sz11, Sh.sz12, Sh.sz13, Sh.sz14, Sh.sz15, Sh.sz16, Nat.reduceSub, Nat.reduceLeDiff, reduceCtorEq, Bool.and_true, Bool.true_and, Bool.and_false, Bool.false_and, Bool.or_true, Bool.or_false, Bool.true_or, Bool.false_or, callP_d is_row_ok]
  cases x <;> simp only [mtOk] <;> try simp only [eVar_ap, eK_ap, aNil_ap, aCons_ap, eOp2_ap, eOp1_ap, eChain_ap, bOf_ap, bNot_ap, bAnd_ap, bOr_ap, eAnd_ap, eOr_ap, eNot_ap, eIf_ap, eTup_ap, eLst_ap, eLstM_ap, cNop_ap, cBreak_ap, cCont_ap, cSeq_ap, cExpr_ap, cSet_ap, cRet_ap, cRetN_ap, cIf_ap, cAsg_ap, cPar2_ap, cPar3_ap, bYes_ap, eCall_ap, oNone_ap, oSome_ap, eSl_ap, cFor_ap, eMtL_ap, aKw_ap, gNm_ap, gTp2, gTp3, gSb_ap, mkTup0, mkTup1, mkTup2, mkTup3, Out.bind, Out.ofO, exq, fin, callE_ap, List.getElem?_cons_succ, List.getElem?_cons_zero, List.set_cons_succ, List.set_cons_zero, List.map_cons, List.map_nil, List.replicate, List.cons_append, List.nil_append, List.length_cons, List.length_nil, Bool.not_true, Bool.not_false, if_true, if_false, ite_true, ite_false, reduceIte, Bool.false_eq_true, Bool.true_eq_false, Nat.reduceAdd, unD, Option.map_some, Nat.zero_le, Sh.sz1, Sh.sz2, Sh.sz3, Sh.sz4, Sh.sz5, Sh.sz6, Sh.sz7, Sh.sz8, Sh.sz9, Sh.sz10, Sh.sz11, Sh.sz12, Sh.sz13, Sh.sz14, Sh.sz15, Sh.sz16, Nat.reduceSub, Nat.reduceLeDiff, reduceCtorEq, Bool.and_true, Bool.true_and, Bool.and_false, Bool.false_and, Bool.or_true, Bool.or_false, Bool.true_or, Bool.false_or, show ∀ b, rowOk (.bool b) (n : Int) n = false from fun _ => rfl, show ∀ b, rowOk (.int b) (n : Int) n = false from fun _ => rfl, show ∀ b, rowOk (.str b) (n : Int) n = false from fun _ => rfl, show ∀ b, rowOk (.list b) (n : Int) n = false from fun _ => rfl, show ∀ b, rowOk (.dict b) (n : Int) n = false from fun _ => rfl, show rowOk .none (n : Int) n = false from rfl]
  rename_i ks
  have hs := sm_tup.1 hx
  simp only [eVar_ap, eK_ap, aNil_ap, aCons_ap, eOp2_ap, eOp1_ap, eChain_ap, bOf_ap, bNot_ap, bAnd_ap, bOr_ap, eAnd_ap, eOr_ap, eNot_ap, eIf_ap, eTup_ap, eLst_ap, eLstM_ap, cNop_ap, cBreak_ap, cCont_ap, cSeq_ap, cExpr_ap, cSet_ap, cRet_ap, cRetN_ap, cIf_ap, cAsg_ap, cPar2_ap, cPar3_ap, bYes_ap, eCall_ap, oNone_ap, oSome_ap, eSl_ap, cFor_ap, eMtL_ap, aKw_ap, gNm_ap, gTp2, gTp3, gSb_ap, mkTup0, mkTup1, mkTup2, mkTup3, Out.bind, Out.ofO, exq, fin, callE_ap, List.getElem?_cons_succ, List.getElem?_cons_zero, List.set_cons_succ, List.set_cons_zero, List.map_cons, List.map_nil, List.replicate, List.cons_append, List.nil_append, List.length_cons, List.length_nil, Bool.not_true, Bool.not_false, if_true, if_false, ite_true, ite_false, reduceIte, Bool.false_eq_true, Bool.true_eq_false, Nat.reduceAdd, unD, Option.map_some, Nat.zero_le, Sh.sz1, Sh.sz2, Sh.sz3, Sh.sz4, Sh.sz5, Sh.sz6, Sh.sz7, Sh.sz8, Sh.sz9, Sh.sz10, Sh.sz11, Sh.sz12, Sh.sz13, Sh.sz14, Sh.sz15, Sh.sz16, Nat.reduceSub, Nat.reduceLeDiff, reduceCtorEq, Bool.and_true, Bool.true_and, Bool.and_false, Bool.false_and, Bool.or_true, Bool.or_false, Bool.true_or, Bool.false_or, rowOk_n]
  cases h : decide (ks.length = n) <;> try simp only [eVar_ap, eK_ap, aNil_ap, aCons_ap, eOp2_ap, eOp1_ap, eChain_ap, bOf_ap, bNot_ap, bAnd_ap, bOr_ap, eAnd_ap, eOr_ap, eNot_ap, eIf_ap, eTup_ap, eLst_ap, eLstM_ap, cNop_ap, cBreak_ap, cCont_ap, cSeq_ap, cExpr_ap, cSet_ap, cRet_ap, cRetN_ap, cIf_ap, cAsg_ap, cPar2_ap, cPar3_ap, bYes_ap, eCall_ap, oNone_ap, oSome_ap, eSl_ap, cFor_ap, eMtL_ap, aKw_ap, gNm_ap, gTp2, gTp3, gSb_ap, mkTup0, mkTup1, mkTup2, mkTup3, Out.bind, Out.ofO, exq, fin, callE_ap, List.getElem?_cons_succ, List.getElem?_cons_zero, List.set_cons_succ, List.set_cons_zero, List.map_cons, List.map_nil, List.replicate, List.cons_append, List.nil_append, List.length_cons, List.length_nil, Bool.not_true, Bool.not_false, if_true, if_false, ite_true, ite_false, reduceIte, Bool.false_eq_true, Bool.true_eq_false, Nat.reduceAdd, unD, Option.map_some, Nat.zero_le, Sh.sz1, Sh.sz2, Sh.sz3, Sh.sz4, Sh.sz5, Sh.sz6, Sh.sz7, Sh.sz8, Sh.sz9, Sh.sz10, Sh.sz11, Sh.sz12, Sh.sz13, Sh.sz14, Sh.sz15, Sh.sz16, Nat.reduceSub, Nat.reduceLeDiff, reduceCtorEq, Bool.and_true, Bool.true_and, Bool.and_false, Bool.false_and, Bool.or_true, Bool.or_false, Bool.true_or, Bool.false_or]
  have hl : ks.length = n := of_decide_eq_true h
  rw [eLc_y ks W.d (fun k => .bool (inR k 0 ((n : Int) - 1))) (grd := fun _ => True) (iSq_tup rfl) trivial (len_le hs.1) fun x hx => ⟨_, rfl, by simp only [eVar_ap, eK_ap, aNil_ap, aCons_ap, eOp2_ap, eOp1_ap, eChain_ap, bOf_ap, bNot_ap, bAnd_ap, bOr_ap, eAnd_ap, eOr_ap, eNot_ap, eIf_ap, eTup_ap, eLst_ap, eLstM_ap, cNop_ap, cBreak_ap, cCont_ap, cSeq_ap, cExpr_ap, cSet_ap, cRet_ap, cRetN_ap, cIf_ap, cAsg_ap, cPar2_ap, cPar3_ap, bYes_ap, eCall_ap, oNone_ap, oSome_ap, eSl_ap, cFor_ap, eMtL_ap, aKw_ap, gNm_ap, gTp2, gTp3, gSb_ap, mkTup0, mkTup1, mkTup2, mkTup3, Out.bind, Out.ofO, exq, fin, callE_ap, List.getElem?_cons_succ, List.getElem?_cons_zero, List.set_cons_succ, List.set_cons_zero, List.map_cons, List.map_nil, List.replicate, List.cons_append, List.nil_append, List.length_cons, List.length_nil, Bool.not_true, Bool.not_false, if_true, if_false, ite_true, ite_false, reduceIte, Bool.false_eq_true, Bool.true_eq_false, Nat.reduceAdd, unD, Option.map_some, Nat.zero_le, Sh.sz1, Sh.sz2, Sh.sz3, Sh.sz4, Sh.sz5, Sh.sz6, Sh.sz7, Sh.sz8, Sh.sz9, Sh.sz10, Sh.sz11, Sh.sz12, Sh.sz13, Sh.sz14, Sh.sz15, Sh.sz16, Nat.reduceSub, Nat.reduceLeDiff, reduceCtorEq, Bool.and_true, Bool.true_and, Bool.and_false, Bool.false_and, Bool.or_true, Bool.or_false, Bool.true_or, Bool.false_or, wipeR, opSub_int, callP_d within_ok]⟩]
  simp only [eVar_ap, eK_ap, aNil_ap, aCons_ap, eOp2_ap, eOp1_ap, eChain_ap, bOf_ap, bNot_ap, bAnd_ap, bOr_ap, eAnd_ap, eOr_ap, eNot_ap, eIf_ap, eTup_ap, eLst_ap, eLstM_ap, cNop_ap, cBreak_ap, cCont_ap, cSeq_ap, cExpr_ap, cSet_ap, cRet_ap, cRetN_ap, cIf_ap, cAsg_ap, cPar2_ap, cPar3_ap, bYes_ap, eCall_ap, oNone_ap, oSome_ap, eSl_ap, cFor_ap, eMtL_ap, aKw_ap, gNm_ap, gTp2, gTp3, gSb_ap, mkTup0, mkTup1, mkTup2, mkTup3, Out.bind, Out.ofO, exq, fin, callE_ap, List.getElem?_cons_succ, List.getElem?_cons_zero, List.set_cons_succ, List.set_cons_zero, List.map_cons, List.map_nil, List.replicate, List.cons_append, List.nil_append, List.length_cons, List.length_nil, Bool.not_true, Bool.not_false, if_true, if_false, ite_true, ite_false, reduceIte, Bool.false_eq_true, Bool.true_eq_false, Nat.reduceAdd, unD, Option.map_some, Nat.zero_le, Sh.sz1, Sh.sz2, Sh.sz3, Sh.sz4, Sh.sz5, Sh.sz6, Sh.sz7, Sh.sz8, Sh.sz9, Sh.sz10, Sh.sz11, Sh.sz12, Sh.sz13, Sh.sz14, Sh.sz15, Sh.sz16, Nat.reduceSub, Nat.reduceLeDiff, reduceCtorEq, Bool.and_true, Bool.true_and, Bool.and_false, Bool.false_and, Bool.or_true, Bool.or_false, Bool.true_or, Bool.false_or, bAll_map]
  cases h2 : ks.all (fun k => inR k 0 ((n : Int) - 1)) <;> try simp only [eVar_ap, eK_ap, aNil_ap, aCons_ap, eOp2_ap, eOp1_ap, eChain_ap, bOf_ap, bNot_ap, bAnd_ap, bOr_ap, eAnd_ap, eOr_ap, eNot_ap, eIf_ap, eTup_ap, eLst_ap, eLstM_ap, cNop_ap, cBreak_ap, cCont_ap, cSeq_ap, cExpr_ap, cSet_ap, cRet_ap, cRetN_ap, cIf_ap, cAsg_ap, cPar2_ap, cPar3_ap, bYes_ap, eCall_ap, oNone_ap, oSome_ap, eSl_ap, cFor_ap, eMtL_ap, aKw_ap, gNm_ap, gTp2, gTp3, gSb_ap, mkTup0, mkTup1, mkTup2, mkTup3, Out.bind, Out.ofO, exq, fin, callE_ap, List.getElem?_cons_succ, List.getElem?_cons_zero, List.set_cons_succ, List.set_cons_zero, List.map_cons, List.map_nil, List.replicate, List.cons_append, List.nil_append, List.length_cons, List.length_nil, Bool.not_true, Bool.not_false, if_true, if_false, ite_true, ite_false, reduceIte, Bool.false_eq_true, Bool.true_eq_false, Nat.reduceAdd, unD, Option.map_some, Nat.zero_le, Sh.sz1, Sh.sz2, Sh.sz3, Sh.sz4, Sh.sz5, Sh.sz6, Sh.sz7, Sh.sz8, Sh.sz9, Sh.sz10, Sh.sz11, Sh.sz12, Sh.sz13, Sh.sz14, Sh.sz15, Sh.sz16, Nat.reduceSub, Nat.reduceLeDiff, reduceCtorEq, Bool.and_true, Bool.true_and, Bool.and_false, Bool.false_and, Bool.or_true, Bool.or_false, Bool.true_or, Bool.false_or]
  rw [eLc_y (List.range ks.length) (fun (k : Nat) => .d (.tuple [.int (k : Int), ks.getD k .none])) (fun k => .bool (mtAt ks k)) (grd := fun _ => True) ?_ trivial (by rw [List.length_range]; exact len_le hs.1) fun k hk => ?_]
  · simp only [eVar_ap, eK_ap, aNil_ap, aCons_ap, eOp2_ap, eOp1_ap, eChain_ap, bOf_ap, bNot_ap, bAnd_ap, bOr_ap, eAnd_ap, eOr_ap, eNot_ap, eIf_ap, eTup_ap, eLst_ap, eLstM_ap, cNop_ap, cBreak_ap, cCont_ap, cSeq_ap, cExpr_ap, cSet_ap, cRet_ap, cRetN_ap, cIf_ap, cAsg_ap, cPar2_ap, cPar3_ap, bYes_ap, eCall_ap, oNone_ap, oSome_ap, eSl_ap, cFor_ap, eMtL_ap, aKw_ap, gNm_ap, gTp2, gTp3, gSb_ap, mkTup0, mkTup1, mkTup2, mkTup3, Out.bind, Out.ofO, exq, fin, callE_ap, List.getElem?_cons_succ, List.getElem?_cons_zero, List.set_cons_succ, List.set_cons_zero, List.map_cons, List.map_nil, List.replicate, List.cons_append, List.nil_append, List.length_cons, List.length_nil, Bool.not_true, Bool.not_false, if_true, if_false, ite_true, ite_false, reduceIte, Bool.false_eq_true, Bool.true_eq_false, Nat.reduceAdd, unD, Option.map_some, Nat.zero_le, Sh.sz1, Sh.sz2, Sh.sz3, Sh.sz4, Sh.sz5, Sh.sz6, Sh.sz7, Sh.sz8, Sh.sz9, Sh.sz10, Sh.sz11, Sh.sz12, Sh.sz13, Sh.sz14, Sh.sz15, Sh.sz16, Nat.reduceSub, Nat.reduceLeDiff, reduceCtorEq, Bool.and_true, Bool.true_and, Bool.and_false, Bool.false_and, Bool.or_true, Bool.or_false, Bool.true_or, Bool.false_or, bAll_map]
  · rw [iEn_tup (xs := ks) rfl, zipIdx_range, List.map_map]; rfl
  · rw [List.mem_range] at hk
    obtain ⟨m, e, hm⟩ := inR_at h2 hk
    obtain ⟨m2, e2, _⟩ := inR_at h2 (k := m) (by omega)
    refine ⟨_, gTp2, ?_⟩
    simp only [eVar_ap, eK_ap, aNil_ap, aCons_ap, eOp2_ap, eOp1_ap, eChain_ap, bOf_ap, bNot_ap, bAnd_ap, bOr_ap, eAnd_ap, eOr_ap, eNot_ap, eIf_ap, eTup_ap, eLst_ap, eLstM_ap, cNop_ap, cBreak_ap, cCont_ap, cSeq_ap, cExpr_ap, cSet_ap, cRet_ap, cRetN_ap, cIf_ap, cAsg_ap, cPar2_ap, cPar3_ap, bYes_ap, eCall_ap, oNone_ap, oSome_ap, eSl_ap, cFor_ap, eMtL_ap, aKw_ap, gNm_ap, gTp2, gTp3, gSb_ap, mkTup0, mkTup1, mkTup2, mkTup3, Out.bind, Out.ofO, exq, fin, callE_ap, List.getElem?_cons_succ, List.getElem?_cons_zero, List.set_cons_succ, List.set_cons_zero, List.map_cons, List.map_nil, List.replicate, List.cons_append, List.nil_append, List.length_cons, List.length_nil, Bool.not_true, Bool.not_false, if_true, if_false, ite_true, ite_false, reduceIte, Bool.false_eq_true, Bool.true_eq_false, Nat.reduceAdd, unD, Option.map_some, Nat.zero_le, Sh.sz1, Sh.sz2, Sh.sz3, Sh.sz4, Sh.sz5, Sh.sz6, Sh.sz7, Sh.sz8, Sh.sz9, Sh.sz10, Sh.sz11, Sh.sz12, Sh.sz13, Sh.sz14, Sh.sz15, Sh.sz16, Nat.reduceSub, Nat.reduceLeDiff, reduceCtorEq, Bool.and_true, Bool.true_and, Bool.and_false, Bool.false_and, Bool.or_true, Bool.or_false, Bool.true_or, Bool.false_or, wipeR, mtAt, e, opInt_int, Int.toNat_natCast, e2]
    cases h3 : decide ((m : Int) ≤ (k : Int)) <;> try simp only [eVar_ap, eK_ap, aNil_ap, aCons_ap, eOp2_ap, eOp1_ap, eChain_ap, bOf_ap, bNot_ap, bAnd_ap, bOr_ap, eAnd_ap, eOr_ap, eNot_ap, eIf_ap, eTup_ap, eLst_ap, eLstM_ap, cNop_ap, cBreak_ap, cCont_ap, cSeq_ap, cExpr_ap, cSet_ap, cRet_ap, cRetN_ap, cIf_ap, cAsg_ap, cPar2_ap, cPar3_ap, bYes_ap, eCall_ap, oNone_ap, oSome_ap, eSl_ap, cFor_ap, eMtL_ap, aKw_ap, gNm_ap, gTp2, gTp3, gSb_ap, mkTup0, mkTup1, mkTup2, mkTup3, Out.bind, Out.ofO, exq, fin, callE_ap, List.getElem?_cons_succ, List.getElem?_cons_zero, List.set_cons_succ, List.set_cons_zero, List.map_cons, List.map_nil, List.replicate, List.cons_append, List.nil_append, List.length_cons, List.length_nil, Bool.not_true, Bool.not_false, if_true, if_false, ite_true, ite_false, reduceIte, Bool.false_eq_true, Bool.true_eq_false, Nat.reduceAdd, unD, Option.map_some, Nat.zero_le, Sh.sz1, Sh.sz2, Sh.sz3, Sh.sz4, Sh.sz5, Sh.sz6, Sh.sz7, Sh.sz8, Sh.sz9, Sh.sz10, Sh.sz11, Sh.sz12, Sh.sz13, Sh.sz14, Sh.sz15, Sh.sz16, Nat.reduceSub, Nat.reduceLeDiff, reduceCtorEq, Bool.and_true, Bool.true_and, Bool.and_false, Bool.false_and, Bool.or_true, Bool.or_false, Bool.true_or, Bool.false_or]
    simp only [eVar_ap, eK_ap, aNil_ap, aCons_ap, eOp2_ap, eOp1_ap, eChain_ap, bOf_ap, bNot_ap, bAnd_ap, bOr_ap, eAnd_ap, eOr_ap, eNot_ap, eIf_ap, eTup_ap, eLst_ap, eLstM_ap, cNop_ap, cBreak_ap, cCont_ap, cSeq_ap, cExpr_ap, cSet_ap, cRet_ap, cRetN_ap, cIf_ap, cAsg_ap, cPar2_ap, cPar3_ap, bYes_ap, eCall_ap, oNone_ap, oSome_ap, eSl_ap, cFor_ap, eMtL_ap, aKw_ap, gNm_ap, gTp2, gTp3, gSb_ap, mkTup0, mkTup1, mkTup2, mkTup3, Out.bind, Out.ofO, exq, fin, callE_ap, List.getElem?_cons_succ, List.getElem?_cons_zero, List.set_cons_succ, List.set_cons_zero, List.map_cons, List.map_nil, List.replicate, List.cons_append, List.nil_append, List.length_cons, List.length_nil, Bool.not_true, Bool.not_false, if_true, if_false, ite_true, ite_false, reduceIte, Bool.false_eq_true, Bool.true_eq_false, Nat.reduceAdd, unD, Option.map_some, Nat.zero_le, Sh.sz1, Sh.sz2, Sh.sz3, Sh.sz4, Sh.sz5, Sh.sz6, Sh.sz7, Sh.sz8, Sh.sz9, Sh.sz10, Sh.sz11, Sh.sz12, Sh.sz13, Sh.sz14, Sh.sz15, Sh.sz16, Nat.reduceSub, Nat.reduceLeDiff, reduceCtorEq, Bool.and_true, Bool.true_and, Bool.and_false, Bool.false_and, Bool.or_true, Bool.or_false, Bool.true_or, Bool.false_or, opIx_tup (atI_getD (xs := ks) (k := m) (by omega)), e2, opEq_int]
/-- worlds, rows of mates, a table -/
def wOk (w : PyData) (nf : Nat) : Bool := match w with
  | .tuple ws => !ws.isEmpty && ws.all fun x => ixOk x nf
  | _ => false
def mOk (m : PyData) (nw : Nat) : Bool := match m with
  | .tuple ms => !ms.isEmpty && ms.all fun x => mtOk x nw
  | _ => false
def szD : PyData → Nat
  | .tuple xs => xs.length
  | _ => 0
def tblA : PyData → Bool
  | .tuple [f, w, m] => fOk f && (wOk w (szD f) && mOk m (szD w))
  | _ => false
def tbl : PyData → Bool
  | .tuple [f, w, m] => fOk f && (wOk w (szD f) && mOk m (szD w)) && (decide (szD f ≤ 6) && (decide (szD w ≤ 16) && decide (szD m ≤ 4)))
  | _ => false
theorem fOk_tup {f : PyData} (h : fOk f = true) : ∃ fs, f = .tuple fs := by cases f <;> first | exact ⟨_, rfl⟩ | cases h
theorem wOk_tup {f : PyData} {n : Nat} (h : wOk f n = true) : ∃ fs, f = .tuple fs := by cases f <;> first | exact ⟨_, rfl⟩ | cases h
theorem mOk_tup {f : PyData} {n : Nat} (h : mOk f n = true) : ∃ fs, f = .tuple fs := by cases f <;> first | exact ⟨_, rfl⟩ | cases h
theorem any_ok {n : Nat} (hx : sm (n + 3) x = true) (hn : n ≤ 60) : m_is_table_of_any_size [.d x] S = .ok (.d (.bool (tblA x))) S := by
  unfold m_is_table_of_any_size defM b_is_table_of_any_size
  simp only [eVar_ap, eK_ap, aNil_ap, aCons_ap, eOp2_ap, eOp1_ap, eChain_ap, bOf_ap, bNot_ap, bAnd_ap, bOr_ap, eAnd_ap, eOr_ap, eNot_ap, eIf_ap, eTup_ap, eLst_ap, eLstM_ap, cNop_ap, cBreak_ap, cCont_ap, cSeq_ap, cExpr_ap, cSet_ap, cRet_ap, cRetN_ap, cIf_ap, cAsg_ap, cPar2_ap, cPar3_ap, bYes_ap, eCall_ap, oNone_ap, oSome_ap, eSl_ap, cFor_ap, eMtL_ap, aKw_ap, gNm_ap, gTp2, gTp3, gSb_ap, mkTup0, mkTup1, mkTup2, mkTup3, Out.bind, Out.ofO, exq, fin, callE_ap, List.getElem?_cons_succ, List.getElem?_cons_zero, List.set_cons_succ, List.set_cons_zero, List.map_cons, List.map_nil, List.replicate, List.cons_append, List.nil_append, List.length_cons, List.length_nil, Bool.not_true, Bool.not_false, if_true, if_false, ite_true, ite_false, reduceIte, Bool.false_eq_true, Bool.true_eq_false, Nat.reduceAdd, unD, Option.map_some, Nat.zero_le, Sh.sz1, Sh.sz2, Sh.sz3, Sh.sz4, Sh.sz5, Sh.sz6, Sh.sz7, Sh.sz8, Sh.sz9, Sh.sz10, Sh.sz11, Sh.sz12, Sh.sz13, Sh.sz14, Sh.sz15, Sh.sz16, Nat.reduceSub, Nat.reduceLeDiff, reduceCtorEq, Bool.and_true, Bool.true_and, Bool.and_false, Bool.false_and, Bool.or_true, Bool.or_false, Bool.true_or, Bool.false_or, callP_d is_row_ok]
  cases x <;> try (simp only [eVar_ap, eK_ap, aNil_ap, aCons_ap, eOp2_ap, eOp1_ap, eChain_ap, bOf_ap, bNot_ap, bAnd_ap, bOr_ap, eAnd_ap, eOr_ap, eNot_ap, eIf_ap, eTup_ap, eLst_ap, eLstM_ap, cNop_ap, cBreak_ap, cCont_ap, cSeq_ap, cExpr_ap, cSet_ap, cRet_ap, cRetN_ap, cIf_ap, cAsg_ap, cPar2_ap, cPar3_ap, bYes_ap, eCall_ap, oNone_ap, oSome_ap, eSl_ap, cFor_ap, eMtL_ap, aKw_ap, gNm_ap, gTp2, gTp3, gSb_ap, mkTup0, mkTup1, mkTup2, mkTup3, Out.bind, Out.ofO, exq, fin, callE_ap, List.getElem?_cons_succ, List.getElem?_cons_zero, List.set_cons_succ, List.set_cons_zero, List.map_cons, List.map_nil, List.replicate, List.cons_append, List.nil_append, List.length_cons, List.length_nil, Bool.not_true, Bool.not_false, if_true, if_false, ite_true, ite_false, reduceIte, Bool.false_eq_true, Bool.true_eq_false, Nat.reduceAdd, unD, Option.map_some, Nat.zero_le, Sh.sz1, Sh.sz2, Sh.sz3, Sh.sz4, Sh.sz5, Sh.sz6, Sh.sz7, Sh.sz8, Sh.sz9, Sh.sz10, Sh.sz11, Sh.sz12, Sh.sz13, Sh.sz14, Sh.sz15, Sh.sz16, Nat.reduceSub, Nat.reduceLeDiff, reduceCtorEq, Bool.and_true, Bool.true_and, Bool.and_false, Bool.false_and, Bool.or_true, Bool.or_false, Bool.true_or, Bool.false_or, show ∀ b, rowOk (.bool b) 3 3 = false from fun _ => rfl, show ∀ b, rowOk (.int b) 3 3 = false from fun _ => rfl, show ∀ b, rowOk (.str b) 3 3 = false from fun _ => rfl, show ∀ b, rowOk (.list b) 3 3 = false from fun _ => rfl, show ∀ b, rowOk (.dict b) 3 3 = false from fun _ => rfl, show rowOk .none 3 3 = false from rfl]; rfl)
  rename_i ks
  have hs := sm_tup.1 hx
  have r3 : rowOk (.tuple ks) 3 3 = decide (ks.length = 3) := rowOk_n (n := 3)
  rcases ks with _ | ⟨f, _ | ⟨w, _ | ⟨m, _ | ⟨z, r⟩⟩⟩⟩
  · simp only [eVar_ap, eK_ap, aNil_ap, aCons_ap, eOp2_ap, eOp1_ap, eChain_ap, bOf_ap, bNot_ap, bAnd_ap, bOr_ap, eAnd_ap, eOr_ap, eNot_ap, eIf_ap, eTup_ap, eLst_ap, eLstM_ap, cNop_ap, cBreak_ap, cCont_ap, cSeq_ap, cExpr_ap, cSet_ap, cRet_ap, cRetN_ap, cIf_ap, cAsg_ap, cPar2_ap, cPar3_ap, bYes_ap, eCall_ap, oNone_ap, oSome_ap, eSl_ap, cFor_ap, eMtL_ap, aKw_ap, gNm_ap, gTp2, gTp3, gSb_ap, mkTup0, mkTup1, mkTup2, mkTup3, Out.bind, Out.ofO, exq, fin, callE_ap, List.getElem?_cons_succ, List.getElem?_cons_zero, List.set_cons_succ, List.set_cons_zero, List.map_cons, List.map_nil, List.replicate, List.cons_append, List.nil_append, List.length_cons, List.length_nil, Bool.not_true, Bool.not_false, if_true, if_false, ite_true, ite_false, reduceIte, Bool.false_eq_true, Bool.true_eq_false, Nat.reduceAdd, unD, Option.map_some, Nat.zero_le, Sh.sz1, Sh.sz2, Sh.sz3, Sh.sz4, Sh.sz5, Sh.sz6, Sh.sz7, Sh.sz8, Sh.sz9, Sh.sz10, Sh.sz11, Sh.sz12, Sh.sz13, Sh.sz14, Sh.sz15, Sh.sz16, Nat.reduceSub, Nat.reduceLeDiff, reduceCtorEq, Bool.and_true, Bool.true_and, Bool.and_false, Bool.false_and, Bool.or_true, Bool.or_false, Bool.true_or, Bool.false_or, r3, decide_false]; rfl
  · simp only [eVar_ap, eK_ap, aNil_ap, aCons_ap, eOp2_ap, eOp1_ap, eChain_ap, bOf_ap, bNot_ap, bAnd_ap, bOr_ap, eAnd_ap, eOr_ap, eNot_ap, eIf_ap, eTup_ap, eLst_ap, eLstM_ap, cNop_ap, cBreak_ap, cCont_ap, cSeq_ap, cExpr_ap, cSet_ap, cRet_ap, cRetN_ap, cIf_ap, cAsg_ap, cPar2_ap, cPar3_ap, bYes_ap, eCall_ap, oNone_ap, oSome_ap, eSl_ap, cFor_ap, eMtL_ap, aKw_ap, gNm_ap, gTp2, gTp3, gSb_ap, mkTup0, mkTup1, mkTup2, mkTup3, Out.bind, Out.ofO, exq, fin, callE_ap, List.getElem?_cons_succ, List.getElem?_cons_zero, List.set_cons_succ, List.set_cons_zero, List.map_cons, List.map_nil, List.replicate, List.cons_append, List.nil_append, List.length_cons, List.length_nil, Bool.not_true, Bool.not_false, if_true, if_false, ite_true, ite_false, reduceIte, Bool.false_eq_true, Bool.true_eq_false, Nat.reduceAdd, unD, Option.map_some, Nat.zero_le, Sh.sz1, Sh.sz2, Sh.sz3, Sh.sz4, Sh.sz5, Sh.sz6, Sh.sz7, Sh.sz8, Sh.sz9, Sh.sz10, Sh.sz11, Sh.sz12, Sh.sz13, Sh.sz14, Sh.sz15, Sh.sz16, Nat.reduceSub, Nat.reduceLeDiff, reduceCtorEq, Bool.and_true, Bool.true_and, Bool.and_false, Bool.false_and, Bool.or_true, Bool.or_false, Bool.true_or, Bool.false_or, r3, decide_false]; rfl
  · simp only [eVar_ap, eK_ap, aNil_ap, aCons_ap, eOp2_ap, eOp1_ap, eChain_ap, bOf_ap, bNot_ap, bAnd_ap, bOr_ap, eAnd_ap, eOr_ap, eNot_ap, eIf_ap, eTup_ap, eLst_ap, eLstM_ap, cNop_ap, cBreak_ap, cCont_ap, cSeq_ap, cExpr_ap, cSet_ap, cRet_ap, cRetN_ap, cIf_ap, cAsg_ap, cPar2_ap, cPar3_ap, bYes_ap, eCall_ap, oNone_ap, oSome_ap, eSl_ap, cFor_ap, eMtL_ap, aKw_ap, gNm_ap, gTp2, gTp3, gSb_ap, mkTup0, mkTup1, mkTup2, mkTup3, Out.bind, Out.ofO, exq, fin, callE_ap, List.getElem?_cons_succ, List.getElem?_cons_zero, List.set_cons_succ, List.set_cons_zero, List.map_cons, List.map_nil, List.replicate, List.cons_append, List.nil_append, List.length_cons, List.length_nil, Bool.not_true, Bool.not_false, if_true, if_false, ite_true, ite_false, reduceIte, Bool.false_eq_true, Bool.true_eq_false, Nat.reduceAdd, unD, Option.map_some, Nat.zero_le, Sh.sz1, Sh.sz2, Sh.sz3, Sh.sz4, Sh.sz5, Sh.sz6, Sh.sz7, Sh.sz8, Sh.sz9, Sh.sz10, Sh.sz11, Sh.sz12, Sh.sz13, Sh.sz14, Sh.sz15, Sh.sz16, Nat.reduceSub, Nat.reduceLeDiff, reduceCtorEq, Bool.and_true, Bool.true_and, Bool.and_false, Bool.false_and, Bool.or_true, Bool.or_false, Bool.true_or, Bool.false_or, r3, decide_false]; rfl
  · have hf := hs.2 f (by simp)
    have hw := hs.2 w (by simp)
    have hm := hs.2 m (by simp)
    simp only [eVar_ap, eK_ap, aNil_ap, aCons_ap, eOp2_ap, eOp1_ap, eChain_ap, bOf_ap, bNot_ap, bAnd_ap, bOr_ap, eAnd_ap, eOr_ap, eNot_ap, eIf_ap, eTup_ap, eLst_ap, eLstM_ap, cNop_ap, cBreak_ap, cCont_ap, cSeq_ap, cExpr_ap, cSet_ap, cRet_ap, cRetN_ap, cIf_ap, cAsg_ap, cPar2_ap, cPar3_ap, bYes_ap, eCall_ap, oNone_ap, oSome_ap, eSl_ap, cFor_ap, eMtL_ap, aKw_ap, gNm_ap, gTp2, gTp3, gSb_ap, mkTup0, mkTup1, mkTup2, mkTup3, Out.bind, Out.ofO, exq, fin, callE_ap, List.getElem?_cons_succ, List.getElem?_cons_zero, List.set_cons_succ, List.set_cons_zero, List.map_cons, List.map_nil, List.replicate, List.cons_append, List.nil_append, List.length_cons, List.length_nil, Bool.not_true, Bool.not_false, if_true, if_false, ite_true, ite_false, reduceIte, Bool.false_eq_true, Bool.true_eq_false, Nat.reduceAdd, unD, Option.map_some, Nat.zero_le, Sh.sz1, Sh.sz2, Sh.sz3, Sh.sz4, Sh.sz5, Sh.sz6, Sh.sz7, Sh.sz8, Sh.sz9, Sh.sz10, Sh.sz11, Sh.sz12, Sh.sz13, Sh.sz14, Sh.sz15, Sh.sz16, Nat.reduceSub, Nat.reduceLeDiff, reduceCtorEq, Bool.and_true, Bool.true_and, Bool.and_false, Bool.false_and, Bool.or_true, Bool.or_false, Bool.true_or, Bool.false_or, r3, decide_true, opIx_tup (xs := [f, w, m]) (i := 0) (d := f) rfl, callP_d (facts_ok hf), tblA]
    cases h : fOk f <;> try simp only [eVar_ap, eK_ap, aNil_ap, aCons_ap, eOp2_ap, eOp1_ap, eChain_ap, bOf_ap, bNot_ap, bAnd_ap, bOr_ap, eAnd_ap, eOr_ap, eNot_ap, eIf_ap, eTup_ap, eLst_ap, eLstM_ap, cNop_ap, cBreak_ap, cCont_ap, cSeq_ap, cExpr_ap, cSet_ap, cRet_ap, cRetN_ap, cIf_ap, cAsg_ap, cPar2_ap, cPar3_ap, bYes_ap, eCall_ap, oNone_ap, oSome_ap, eSl_ap, cFor_ap, eMtL_ap, aKw_ap, gNm_ap, gTp2, gTp3, gSb_ap, mkTup0, mkTup1, mkTup2, mkTup3, Out.bind, Out.ofO, exq, fin, callE_ap, List.getElem?_cons_succ, List.getElem?_cons_zero, List.set_cons_succ, List.set_cons_zero, List.map_cons, List.map_nil, List.replicate, List.cons_append, List.nil_append, List.length_cons, List.length_nil, Bool.not_true, Bool.not_false, if_true, if_false, ite_true, ite_false, reduceIte, Bool.false_eq_true, Bool.true_eq_false, Nat.reduceAdd, unD, Option.map_some, Nat.zero_le, Sh.sz1, Sh.sz2, Sh.sz3, Sh.sz4, Sh.sz5, Sh.sz6, Sh.sz7, Sh.sz8, Sh.sz9, Sh.sz10, Sh.sz11, Sh.sz12, Sh.sz13, Sh.sz14, Sh.sz15, Sh.sz16, Nat.reduceSub, Nat.reduceLeDiff, reduceCtorEq, Bool.and_true, Bool.true_and, Bool.and_false, Bool.false_and, Bool.or_true, Bool.or_false, Bool.true_or, Bool.false_or]
    obtain ⟨fs, rfl⟩ := fOk_tup h
    simp only [eVar_ap, eK_ap, aNil_ap, aCons_ap, eOp2_ap, eOp1_ap, eChain_ap, bOf_ap, bNot_ap, bAnd_ap, bOr_ap, eAnd_ap, eOr_ap, eNot_ap, eIf_ap, eTup_ap, eLst_ap, eLstM_ap, cNop_ap, cBreak_ap, cCont_ap, cSeq_ap, cExpr_ap, cSet_ap, cRet_ap, cRetN_ap, cIf_ap, cAsg_ap, cPar2_ap, cPar3_ap, bYes_ap, eCall_ap, oNone_ap, oSome_ap, eSl_ap, cFor_ap, eMtL_ap, aKw_ap, gNm_ap, gTp2, gTp3, gSb_ap, mkTup0, mkTup1, mkTup2, mkTup3, Out.bind, Out.ofO, exq, fin, callE_ap, List.getElem?_cons_succ, List.getElem?_cons_zero, List.set_cons_succ, List.set_cons_zero, List.map_cons, List.map_nil, List.replicate, List.cons_append, List.nil_append, List.length_cons, List.length_nil, Bool.not_true, Bool.not_false, if_true, if_false, ite_true, ite_false, reduceIte, Bool.false_eq_true, Bool.true_eq_false, Nat.reduceAdd, unD, Option.map_some, Nat.zero_le, Sh.sz1, Sh.sz2, Sh.sz3, Sh.sz4, Sh.sz5, Sh.sz6, Sh.sz7, Sh.sz8, Sh.sz9, Sh.sz10, Sh.sz11, Sh.sz12, Sh.sz13, Sh.sz14, Sh.sz15, Sh.sz16, Nat.reduceSub, Nat.reduceLeDiff, reduceCtorEq, Bool.and_true, Bool.true_and, Bool.and_false, Bool.false_and, Bool.or_true, Bool.or_false, Bool.true_or, Bool.false_or, opIsi_d, isiTup, unD, Option.map_some, mkTup, szD]
    cases w <;> simp only [isT, wOk] <;> try simp only [eVar_ap, eK_ap, aNil_ap, aCons_ap, eOp2_ap, eOp1_ap, eChain_ap, bOf_ap, bNot_ap, bAnd_ap, bOr_ap, eAnd_ap, eOr_ap, eNot_ap, eIf_ap, eTup_ap, eLst_ap, eLstM_ap, cNop_ap, cBreak_ap, cCont_ap, cSeq_ap, cExpr_ap, cSet_ap, cRet_ap, cRetN_ap, cIf_ap, cAsg_ap, cPar2_ap, cPar3_ap, bYes_ap, eCall_ap, oNone_ap, oSome_ap, eSl_ap, cFor_ap, eMtL_ap, aKw_ap, gNm_ap, gTp2, gTp3, gSb_ap, mkTup0, mkTup1, mkTup2, mkTup3, Out.bind, Out.ofO, exq, fin, callE_ap, List.getElem?_cons_succ, List.getElem?_cons_zero, List.set_cons_succ, List.set_cons_zero, List.map_cons, List.map_nil, List.replicate, List.cons_append, List.nil_append, List.length_cons, List.length_nil, Bool.not_true, Bool.not_false, if_true, if_false, ite_true, ite_false, reduceIte, Bool.false_eq_true, Bool.true_eq_false, Nat.reduceAdd, unD, Option.map_some, Nat.zero_le, Sh.sz1, Sh.sz2, Sh.sz3, Sh.sz4, Sh.sz5, Sh.sz6, Sh.sz7, Sh.sz8, Sh.sz9, Sh.sz10, Sh.sz11, Sh.sz12, Sh.sz13, Sh.sz14, Sh.sz15, Sh.sz16, Nat.reduceSub, Nat.reduceLeDiff, reduceCtorEq, Bool.and_true, Bool.true_and, Bool.and_false, Bool.false_and, Bool.or_true, Bool.or_false, Bool.true_or, Bool.false_or]
    rename_i ws
    have hw := sm_tup.1 hw
    simp only [eVar_ap, eK_ap, aNil_ap, aCons_ap, eOp2_ap, eOp1_ap, eChain_ap, bOf_ap, bNot_ap, bAnd_ap, bOr_ap, eAnd_ap, eOr_ap, eNot_ap, eIf_ap, eTup_ap, eLst_ap, eLstM_ap, cNop_ap, cBreak_ap, cCont_ap, cSeq_ap, cExpr_ap, cSet_ap, cRet_ap, cRetN_ap, cIf_ap, cAsg_ap, cPar2_ap, cPar3_ap, bYes_ap, eCall_ap, oNone_ap, oSome_ap, eSl_ap, cFor_ap, eMtL_ap, aKw_ap, gNm_ap, gTp2, gTp3, gSb_ap, mkTup0, mkTup1, mkTup2, mkTup3, Out.bind, Out.ofO, exq, fin, callE_ap, List.getElem?_cons_succ, List.getElem?_cons_zero, List.set_cons_succ, List.set_cons_zero, List.map_cons, List.map_nil, List.replicate, List.cons_append, List.nil_append, List.length_cons, List.length_nil, Bool.not_true, Bool.not_false, if_true, if_false, ite_true, ite_false, reduceIte, Bool.false_eq_true, Bool.true_eq_false, Nat.reduceAdd, unD, Option.map_some, Nat.zero_le, Sh.sz1, Sh.sz2, Sh.sz3, Sh.sz4, Sh.sz5, Sh.sz6, Sh.sz7, Sh.sz8, Sh.sz9, Sh.sz10, Sh.sz11, Sh.sz12, Sh.sz13, Sh.sz14, Sh.sz15, Sh.sz16, Nat.reduceSub, Nat.reduceLeDiff, reduceCtorEq, Bool.and_true, Bool.true_and, Bool.and_false, Bool.false_and, Bool.or_true, Bool.or_false, Bool.true_or, Bool.false_or, opEq_sh (x := .tuple ws) (y := .tuple []) (n := n + 2) (m := 1) (sm_tup.2 hw) rfl (by omega), eqv_tnil, unD, Option.map_some]
    cases h2 : ws.isEmpty <;> try simp only [eVar_ap, eK_ap, aNil_ap, aCons_ap, eOp2_ap, eOp1_ap, eChain_ap, bOf_ap, bNot_ap, bAnd_ap, bOr_ap, eAnd_ap, eOr_ap, eNot_ap, eIf_ap, eTup_ap, eLst_ap, eLstM_ap, cNop_ap, cBreak_ap, cCont_ap, cSeq_ap, cExpr_ap, cSet_ap, cRet_ap, cRetN_ap, cIf_ap, cAsg_ap, cPar2_ap, cPar3_ap, bYes_ap, eCall_ap, oNone_ap, oSome_ap, eSl_ap, cFor_ap, eMtL_ap, aKw_ap, gNm_ap, gTp2, gTp3, gSb_ap, mkTup0, mkTup1, mkTup2, mkTup3, Out.bind, Out.ofO, exq, fin, callE_ap, List.getElem?_cons_succ, List.getElem?_cons_zero, List.set_cons_succ, List.set_cons_zero, List.map_cons, List.map_nil, List.replicate, List.cons_append, List.nil_append, List.length_cons, List.length_nil, Bool.not_true, Bool.not_false, if_true, if_false, ite_true, ite_false, reduceIte, Bool.false_eq_true, Bool.true_eq_false, Nat.reduceAdd, unD, Option.map_some, Nat.zero_le, Sh.sz1, Sh.sz2, Sh.sz3, Sh.sz4, Sh.sz5, Sh.sz6, Sh.sz7, Sh.sz8, Sh.sz9, Sh.sz10, Sh.sz11, Sh.sz12, Sh.sz13, Sh.sz14, Sh.sz15, Sh.sz16, Nat.reduceSub, Nat.reduceLeDiff, reduceCtorEq, Bool.and_true, Bool.true_and, Bool.and_false, Bool.false_and, Bool.or_true, Bool.or_false, Bool.true_or, Bool.false_or]
    rw [eLc_y ws W.d (fun x => .bool (ixOk x fs.length)) (grd := fun _ => True) (iSq_tup rfl) trivial (len_le hw.1) fun x hx => ⟨_, rfl, by simp only [eVar_ap, eK_ap, aNil_ap, aCons_ap, eOp2_ap, eOp1_ap, eChain_ap, bOf_ap, bNot_ap, bAnd_ap, bOr_ap, eAnd_ap, eOr_ap, eNot_ap, eIf_ap, eTup_ap, eLst_ap, eLstM_ap, cNop_ap, cBreak_ap, cCont_ap, cSeq_ap, cExpr_ap, cSet_ap, cRet_ap, cRetN_ap, cIf_ap, cAsg_ap, cPar2_ap, cPar3_ap, bYes_ap, eCall_ap, oNone_ap, oSome_ap, eSl_ap, cFor_ap, eMtL_ap, aKw_ap, gNm_ap, gTp2, gTp3, gSb_ap, mkTup0, mkTup1, mkTup2, mkTup3, Out.bind, Out.ofO, exq, fin, callE_ap, List.getElem?_cons_succ, List.getElem?_cons_zero, List.set_cons_succ, List.set_cons_zero, List.map_cons, List.map_nil, List.replicate, List.cons_append, List.nil_append, List.length_cons, List.length_nil, Bool.not_true, Bool.not_false, if_true, if_false, ite_true, ite_false, reduceIte, Bool.false_eq_true, Bool.true_eq_false, Nat.reduceAdd, unD, Option.map_some, Nat.zero_le, Sh.sz1, Sh.sz2, Sh.sz3, Sh.sz4, Sh.sz5, Sh.sz6, Sh.sz7, Sh.sz8, Sh.sz9, Sh.sz10, Sh.sz11, Sh.sz12, Sh.sz13, Sh.sz14, Sh.sz15, Sh.sz16, Nat.reduceSub, Nat.reduceLeDiff, reduceCtorEq, Bool.and_true, Bool.true_and, Bool.and_false, Bool.false_and, Bool.or_true, Bool.or_false, Bool.true_or, Bool.false_or, wipeR, bLen_tup, callP_d (ixs_ok (hw.2 x hx))]⟩]
    simp only [eVar_ap, eK_ap, aNil_ap, aCons_ap, eOp2_ap, eOp1_ap, eChain_ap, bOf_ap, bNot_ap, bAnd_ap, bOr_ap, eAnd_ap, eOr_ap, eNot_ap, eIf_ap, eTup_ap, eLst_ap, eLstM_ap, cNop_ap, cBreak_ap, cCont_ap, cSeq_ap, cExpr_ap, cSet_ap, cRet_ap, cRetN_ap, cIf_ap, cAsg_ap, cPar2_ap, cPar3_ap, bYes_ap, eCall_ap, oNone_ap, oSome_ap, eSl_ap, cFor_ap, eMtL_ap, aKw_ap, gNm_ap, gTp2, gTp3, gSb_ap, mkTup0, mkTup1, mkTup2, mkTup3, Out.bind, Out.ofO, exq, fin, callE_ap, List.getElem?_cons_succ, List.getElem?_cons_zero, List.set_cons_succ, List.set_cons_zero, List.map_cons, List.map_nil, List.replicate, List.cons_append, List.nil_append, List.length_cons, List.length_nil, Bool.not_true, Bool.not_false, if_true, if_false, ite_true, ite_false, reduceIte, Bool.false_eq_true, Bool.true_eq_false, Nat.reduceAdd, unD, Option.map_some, Nat.zero_le, Sh.sz1, Sh.sz2, Sh.sz3, Sh.sz4, Sh.sz5, Sh.sz6, Sh.sz7, Sh.sz8, Sh.sz9, Sh.sz10, Sh.sz11, Sh.sz12, Sh.sz13, Sh.sz14, Sh.sz15, Sh.sz16, Nat.reduceSub, Nat.reduceLeDiff, reduceCtorEq, Bool.and_true, Bool.true_and, Bool.and_false, Bool.false_and, Bool.or_true, Bool.or_false, Bool.true_or, Bool.false_or, bAll_map]
    cases h3 : ws.all (fun x => ixOk x fs.length) <;> try simp only [eVar_ap, eK_ap, aNil_ap, aCons_ap, eOp2_ap, eOp1_ap, eChain_ap, bOf_ap, bNot_ap, bAnd_ap, bOr_ap, eAnd_ap, eOr_ap, eNot_ap, eIf_ap, eTup_ap, eLst_ap, eLstM_ap, cNop_ap, cBreak_ap, cCont_ap, cSeq_ap, cExpr_ap, cSet_ap, cRet_ap, cRetN_ap, cIf_ap, cAsg_ap, cPar2_ap, cPar3_ap, bYes_ap, eCall_ap, oNone_ap, oSome_ap, eSl_ap, cFor_ap, eMtL_ap, aKw_ap, gNm_ap, gTp2, gTp3, gSb_ap, mkTup0, mkTup1, mkTup2, mkTup3, Out.bind, Out.ofO, exq, fin, callE_ap, List.getElem?_cons_succ, List.getElem?_cons_zero, List.set_cons_succ, List.set_cons_zero, List.map_cons, List.map_nil, List.replicate, List.cons_append, List.nil_append, List.length_cons, List.length_nil, Bool.not_true, Bool.not_false, if_true, if_false, ite_true, ite_false, reduceIte, Bool.false_eq_true, Bool.true_eq_false, Nat.reduceAdd, unD, Option.map_some, Nat.zero_le, Sh.sz1, Sh.sz2, Sh.sz3, Sh.sz4, Sh.sz5, Sh.sz6, Sh.sz7, Sh.sz8, Sh.sz9, Sh.sz10, Sh.sz11, Sh.sz12, Sh.sz13, Sh.sz14, Sh.sz15, Sh.sz16, Nat.reduceSub, Nat.reduceLeDiff, reduceCtorEq, Bool.and_true, Bool.true_and, Bool.and_false, Bool.false_and, Bool.or_true, Bool.or_false, Bool.true_or, Bool.false_or]
    simp only [eVar_ap, eK_ap, aNil_ap, aCons_ap, eOp2_ap, eOp1_ap, eChain_ap, bOf_ap, bNot_ap, bAnd_ap, bOr_ap, eAnd_ap, eOr_ap, eNot_ap, eIf_ap, eTup_ap, eLst_ap, eLstM_ap, cNop_ap, cBreak_ap, cCont_ap, cSeq_ap, cExpr_ap, cSet_ap, cRet_ap, cRetN_ap, cIf_ap, cAsg_ap, cPar2_ap, cPar3_ap, bYes_ap, eCall_ap, oNone_ap, oSome_ap, eSl_ap, cFor_ap, eMtL_ap, aKw_ap, gNm_ap, gTp2, gTp3, gSb_ap, mkTup0, mkTup1, mkTup2, mkTup3, Out.bind, Out.ofO, exq, fin, callE_ap, List.getElem?_cons_succ, List.getElem?_cons_zero, List.set_cons_succ, List.set_cons_zero, List.map_cons, List.map_nil, List.replicate, List.cons_append, List.nil_append, List.length_cons, List.length_nil, Bool.not_true, Bool.not_false, if_true, if_false, ite_true, ite_false, reduceIte, Bool.false_eq_true, Bool.true_eq_false, Nat.reduceAdd, unD, Option.map_some, Nat.zero_le, Sh.sz1, Sh.sz2, Sh.sz3, Sh.sz4, Sh.sz5, Sh.sz6, Sh.sz7, Sh.sz8, Sh.sz9, Sh.sz10, Sh.sz11, Sh.sz12, Sh.sz13, Sh.sz14, Sh.sz15, Sh.sz16, Nat.reduceSub, Nat.reduceLeDiff, reduceCtorEq, Bool.and_true, Bool.true_and, Bool.and_false, Bool.false_and, Bool.or_true, Bool.or_false, Bool.true_or, Bool.false_or, opIsi_d, isiTup]
    cases m <;> simp only [isT, mOk] <;> try simp only [eVar_ap, eK_ap, aNil_ap, aCons_ap, eOp2_ap, eOp1_ap, eChain_ap, bOf_ap, bNot_ap, bAnd_ap, bOr_ap, eAnd_ap, eOr_ap, eNot_ap, eIf_ap, eTup_ap, eLst_ap, eLstM_ap, cNop_ap, cBreak_ap, cCont_ap, cSeq_ap, cExpr_ap, cSet_ap, cRet_ap, cRetN_ap, cIf_ap, cAsg_ap, cPar2_ap, cPar3_ap, bYes_ap, eCall_ap, oNone_ap, oSome_ap, eSl_ap, cFor_ap, eMtL_ap, aKw_ap, gNm_ap, gTp2, gTp3, gSb_ap, mkTup0, mkTup1, mkTup2, mkTup3, Out.bind, Out.ofO, exq, fin, callE_ap, List.getElem?_cons_succ, List.getElem?_cons_zero, List.set_cons_succ, List.set_cons_zero, List.map_cons, List.map_nil, List.replicate, List.cons_append, List.nil_append, List.length_cons, List.length_nil, Bool.not_true, Bool.not_false, if_true, if_false, ite_true, ite_false, reduceIte, Bool.false_eq_true, Bool.true_eq_false, Nat.reduceAdd, unD, Option.map_some, Nat.zero_le, Sh.sz1, Sh.sz2, Sh.sz3, Sh.sz4, Sh.sz5, Sh.sz6, Sh.sz7, Sh.sz8, Sh.sz9, Sh.sz10, Sh.sz11, Sh.sz12, Sh.sz13, Sh.sz14, Sh.sz15, Sh.sz16, Nat.reduceSub, Nat.reduceLeDiff, reduceCtorEq, Bool.and_true, Bool.true_and, Bool.and_false, Bool.false_and, Bool.or_true, Bool.or_false, Bool.true_or, Bool.false_or]
    rename_i ms
    have hm := sm_tup.1 hm
    simp only [eVar_ap, eK_ap, aNil_ap, aCons_ap, eOp2_ap, eOp1_ap, eChain_ap, bOf_ap, bNot_ap, bAnd_ap, bOr_ap, eAnd_ap, eOr_ap, eNot_ap, eIf_ap, eTup_ap, eLst_ap, eLstM_ap, cNop_ap, cBreak_ap, cCont_ap, cSeq_ap, cExpr_ap, cSet_ap, cRet_ap, cRetN_ap, cIf_ap, cAsg_ap, cPar2_ap, cPar3_ap, bYes_ap, eCall_ap, oNone_ap, oSome_ap, eSl_ap, cFor_ap, eMtL_ap, aKw_ap, gNm_ap, gTp2, gTp3, gSb_ap, mkTup0, mkTup1, mkTup2, mkTup3, Out.bind, Out.ofO, exq, fin, callE_ap, List.getElem?_cons_succ, List.getElem?_cons_zero, List.set_cons_succ, List.set_cons_zero, List.map_cons, List.map_nil, List.replicate, List.cons_append, List.nil_append, List.length_cons, List.length_nil, Bool.not_true, Bool.not_false, if_true, if_false, ite_true, ite_false, reduceIte, Bool.false_eq_true, Bool.true_eq_false, Nat.reduceAdd, unD, Option.map_some, Nat.zero_le, Sh.sz1, Sh.sz2, Sh.sz3, Sh.sz4, Sh.sz5, Sh.sz6, Sh.sz7, Sh.sz8, Sh.sz9, Sh.sz10, Sh.sz11, Sh.sz12, Sh.sz13, Sh.sz14, Sh.sz15, Sh.sz16, Nat.reduceSub, Nat.reduceLeDiff, reduceCtorEq, Bool.and_true, Bool.true_and, Bool.and_false, Bool.false_and, Bool.or_true, Bool.or_false, Bool.true_or, Bool.false_or, opNe_sh (x := .tuple ms) (y := .tuple []) (n := n + 2) (m := 1) (sm_tup.2 hm) rfl (by omega), eqv_tnil, unD, Option.map_some]
    cases h4 : ms.isEmpty <;> try simp only [eVar_ap, eK_ap, aNil_ap, aCons_ap, eOp2_ap, eOp1_ap, eChain_ap, bOf_ap, bNot_ap, bAnd_ap, bOr_ap, eAnd_ap, eOr_ap, eNot_ap, eIf_ap, eTup_ap, eLst_ap, eLstM_ap, cNop_ap, cBreak_ap, cCont_ap, cSeq_ap, cExpr_ap, cSet_ap, cRet_ap, cRetN_ap, cIf_ap, cAsg_ap, cPar2_ap, cPar3_ap, bYes_ap, eCall_ap, oNone_ap, oSome_ap, eSl_ap, cFor_ap, eMtL_ap, aKw_ap, gNm_ap, gTp2, gTp3, gSb_ap, mkTup0, mkTup1, mkTup2, mkTup3, Out.bind, Out.ofO, exq, fin, callE_ap, List.getElem?_cons_succ, List.getElem?_cons_zero, List.set_cons_succ, List.set_cons_zero, List.map_cons, List.map_nil, List.replicate, List.cons_append, List.nil_append, List.length_cons, List.length_nil, Bool.not_true, Bool.not_false, if_true, if_false, ite_true, ite_false, reduceIte, Bool.false_eq_true, Bool.true_eq_false, Nat.reduceAdd, unD, Option.map_some, Nat.zero_le, Sh.sz1, Sh.sz2, Sh.sz3, Sh.sz4, Sh.sz5, Sh.sz6, Sh.sz7, Sh.sz8, Sh.sz9, Sh.sz10, Sh.sz11, Sh.sz12, Sh.sz13, Sh.sz14, Sh.sz15, Sh.sz16, Nat.reduceSub, Nat.reduceLeDiff, reduceCtorEq, Bool.and_true, Bool.true_and, Bool.and_false, Bool.false_and, Bool.or_true, Bool.or_false, Bool.true_or, Bool.false_or]
    rw [eLc_y ms W.d (fun x => .bool (mtOk x ws.length)) (grd := fun _ => True) (iSq_tup rfl) trivial (len_le hm.1) fun x hx => ⟨_, rfl, by simp only [eVar_ap, eK_ap, aNil_ap, aCons_ap, eOp2_ap, eOp1_ap, eChain_ap, bOf_ap, bNot_ap, bAnd_ap, bOr_ap, eAnd_ap, eOr_ap, eNot_ap, eIf_ap, eTup_ap, eLst_ap, eLstM_ap, cNop_ap, cBreak_ap, cCont_ap, cSeq_ap, cExpr_ap, cSet_ap, cRet_ap, cRetN_ap, cIf_ap, cAsg_ap, cPar2_ap, cPar3_ap, bYes_ap, eCall_ap, oNone_ap, oSome_ap, eSl_ap, cFor_ap, eMtL_ap, aKw_ap, gNm_ap, gTp2, gTp3, gSb_ap, mkTup0, mkTup1, mkTup2, mkTup3, Out.bind, Out.ofO, exq, fin, callE_ap, List.getElem?_cons_succ, List.getElem?_cons_zero, List.set_cons_succ, List.set_cons_zero, List.map_cons, List.map_nil, List.replicate, List.cons_append, List.nil_append, List.length_cons, List.length_nil, Bool.not_true, Bool.not_false, if_true, if_false, ite_true, ite_false, reduceIte, Bool.false_eq_true, Bool.true_eq_false, Nat.reduceAdd, unD, Option.map_some, Nat.zero_le, Sh.sz1, Sh.sz2, Sh.sz3, Sh.sz4, Sh.sz5, Sh.sz6, Sh.sz7, Sh.sz8, Sh.sz9, Sh.sz10, Sh.sz11, Sh.sz12, Sh.sz13, Sh.sz14, Sh.sz15, Sh.sz16, Nat.reduceSub, Nat.reduceLeDiff, reduceCtorEq, Bool.and_true, Bool.true_and, Bool.and_false, Bool.false_and, Bool.or_true, Bool.or_false, Bool.true_or, Bool.false_or, wipeR, bLen_tup, callP_d (mates_ok (hm.2 x hx) hw.1)]⟩]
    simp only [eVar_ap, eK_ap, aNil_ap, aCons_ap, eOp2_ap, eOp1_ap, eChain_ap, bOf_ap, bNot_ap, bAnd_ap, bOr_ap, eAnd_ap, eOr_ap, eNot_ap, eIf_ap, eTup_ap, eLst_ap, eLstM_ap, cNop_ap, cBreak_ap, cCont_ap, cSeq_ap, cExpr_ap, cSet_ap, cRet_ap, cRetN_ap, cIf_ap, cAsg_ap, cPar2_ap, cPar3_ap, bYes_ap, eCall_ap, oNone_ap, oSome_ap, eSl_ap, cFor_ap, eMtL_ap, aKw_ap, gNm_ap, gTp2, gTp3, gSb_ap, mkTup0, mkTup1, mkTup2, mkTup3, Out.bind, Out.ofO, exq, fin, callE_ap, List.getElem?_cons_succ, List.getElem?_cons_zero, List.set_cons_succ, List.set_cons_zero, List.map_cons, List.map_nil, List.replicate, List.cons_append, List.nil_append, List.length_cons, List.length_nil, Bool.not_true, Bool.not_false, if_true, if_false, ite_true, ite_false, reduceIte, Bool.false_eq_true, Bool.true_eq_false, Nat.reduceAdd, unD, Option.map_some, Nat.zero_le, Sh.sz1, Sh.sz2, Sh.sz3, Sh.sz4, Sh.sz5, Sh.sz6, Sh.sz7, Sh.sz8, Sh.sz9, Sh.sz10, Sh.sz11, Sh.sz12, Sh.sz13, Sh.sz14, Sh.sz15, Sh.sz16, Nat.reduceSub, Nat.reduceLeDiff, reduceCtorEq, Bool.and_true, Bool.true_and, Bool.and_false, Bool.false_and, Bool.or_true, Bool.or_false, Bool.true_or, Bool.false_or, bAll_map]
  · simp only [eVar_ap, eK_ap, aNil_ap, aCons_ap, eOp2_ap, eOp1_ap, eChain_ap, bOf_ap, bNot_ap, bAnd_ap, bOr_ap, eAnd_ap, eOr_ap, eNot_ap, eIf_ap, eTup_ap, eLst_ap, eLstM_ap, cNop_ap, cBreak_ap, cCont_ap, cSeq_ap, cExpr_ap, cSet_ap, cRet_ap, cRetN_ap, cIf_ap, cAsg_ap, cPar2_ap, cPar3_ap, bYes_ap, eCall_ap, oNone_ap, oSome_ap, eSl_ap, cFor_ap, eMtL_ap, aKw_ap, gNm_ap, gTp2, gTp3, gSb_ap, mkTup0, mkTup1, mkTup2, mkTup3, Out.bind, Out.ofO, exq, fin, callE_ap, List.getElem?_cons_succ, List.getElem?_cons_zero, List.set_cons_succ, List.set_cons_zero, List.map_cons, List.map_nil, List.replicate, List.cons_append, List.nil_append, List.length_cons, List.length_nil, Bool.not_true, Bool.not_false, if_true, if_false, ite_true, ite_false, reduceIte, Bool.false_eq_true, Bool.true_eq_false, Nat.reduceAdd, unD, Option.map_some, Nat.zero_le, Sh.sz1, Sh.sz2, Sh.sz3, Sh.sz4, Sh.sz5, Sh.sz6, Sh.sz7, Sh.sz8, Sh.sz9, Sh.sz10, Sh.sz11, Sh.sz12, Sh.sz13, Sh.sz14, Sh.sz15, Sh.sz16, Nat.reduceSub, Nat.reduceLeDiff, reduceCtorEq, Bool.and_true, Bool.true_and, Bool.and_false, Bool.false_and, Bool.or_true, Bool.or_false, Bool.true_or, Bool.false_or, r3, show decide (r.length + 1 + 1 + 1 + 1 = 3) = false from decide_eq_false (by omega)]; rfl
theorem tbl_eq : tbl x = (tblA x && match x with | .tuple [f, w, m] => decide (szD f ≤ 6) && (decide (szD w ≤ 16) && decide (szD m ≤ 4)) | _ => false) := by
  unfold tbl tblA
  split <;> simp
theorem tbl_ok {n : Nat} (hx : sm (n + 3) x = true) (hn : n ≤ 60) : m_is_table [.d x] S = .ok (.d (.bool (tbl x))) S := by
  unfold m_is_table defM b_is_table
  rw [tbl_eq]
  simp only [eVar_ap, eK_ap, aNil_ap, aCons_ap, eOp2_ap, eOp1_ap, eChain_ap, bOf_ap, bNot_ap, bAnd_ap, bOr_ap, eAnd_ap, eOr_ap, eNot_ap, eIf_ap, eTup_ap, eLst_ap, eLstM_ap, cNop_ap, cBreak_ap, cCont_ap, cSeq_ap, cExpr_ap, cSet_ap, cRet_ap, cRetN_ap, cIf_ap, cAsg_ap, cPar2_ap, cPar3_ap, bYes_ap, eCall_ap, oNone_ap, oSome_ap, eSl_ap, cFor_ap, eMtL_ap, aKw_ap, gNm_ap, gTp2, gTp3, gSb_ap, mkTup0, mkTup1, mkTup2, mkTup3, Out.bind, Out.ofO, exq, fin, callE_ap, List.getElem?_cons_succ, List.getElem?_cons_zero, List.set_cons_succ, List.set_cons_zero, List.map_cons, List.map_nil, List.replicate, List.cons_append, List.nil_append, List.length_cons, List.length_nil, Bool.not_true, Bool.not_false, if_true, if_false, ite_true, ite_false, reduceIte, Bool.false_eq_true, Bool.true_eq_false, Nat.reduceAdd, unD, Option.map_some, Nat.zero_le, Sh.sz1, Sh.sz2, Sh.sz3, Sh.sz4, Sh.sz5, Sh.sz6, Sh.sz7, Sh.sz8, Sh.sz9, Sh.sz10, Sh.sz11, Sh.sz12, Sh.sz13, Sh.sz14, Sh.sz15, Sh.sz16, Nat.reduceSub, Nat.reduceLeDiff, reduceCtorEq, Bool.and_true, Bool.true_and, Bool.and_false, Bool.false_and, Bool.or_true, Bool.or_false, Bool.true_or, Bool.false_or, callP_d (any_ok hx hn)]
  cases h : tblA x <;> try simp only [eVar_ap, eK_ap, aNil_ap, aCons_ap, eOp2_ap, eOp1_ap, eChain_ap, bOf_ap, bNot_ap, bAnd_ap, bOr_ap, eAnd_ap, eOr_ap, eNot_ap, eIf_ap, eTup_ap, eLst_ap, eLstM_ap, cNop_ap, cBreak_ap, cCont_ap, cSeq_ap, cExpr_ap, cSet_ap, cRet_ap, cRetN_ap, cIf_ap, cAsg_ap, cPar2_ap, cPar3_ap, bYes_ap, eCall_ap, oNone_ap, oSome_ap, eSl_ap, cFor_ap, eMtL_ap, aKw_ap, gNm_ap, gTp2, gTp3, gSb_ap, mkTup0, mkTup1, mkTup2, mkTup3, Out.bind, Out.ofO, exq, fin, callE_ap, List.getElem?_cons_succ, List.getElem?_cons_zero, List.set_cons_succ, List.set_cons_zero, List.map_cons, List.map_nil, List.replicate, List.cons_append, List.nil_append, List.length_cons, List.length_nil, Bool.not_true, Bool.not_false, if_true, if_false, ite_true, ite_false, reduceIte, Bool.false_eq_true, Bool.true_eq_false, Nat.reduceAdd, unD, Option.map_some, Nat.zero_le, Sh.sz1, Sh.sz2, Sh.sz3, Sh.sz4, Sh.sz5, Sh.sz6, Sh.sz7, Sh.sz8, Sh.sz9, Sh.sz10, Sh.sz11, Sh.sz12, Sh.sz13, Sh.sz14, Sh.sz15, Sh.sz16, Nat.reduceSub, Nat.reduceLeDiff, reduceCtorEq, Bool.and_true, Bool.true_and, Bool.and_false, Bool.false_and, Bool.or_true, Bool.or_false, Bool.true_or, Bool.false_or]
  unfold tblA at h
  split at h
  · rename_i f w m
    simp only [Bool.and_eq_true] at h
    obtain ⟨fs, rfl⟩ := fOk_tup h.1
    obtain ⟨ws, rfl⟩ := wOk_tup h.2.1
    obtain ⟨ms, rfl⟩ := mOk_tup h.2.2
    simp only [eVar_ap, eK_ap, aNil_ap, aCons_ap, eOp2_ap, eOp1_ap, eChain_ap, bOf_ap, bNot_ap, bAnd_ap, bOr_ap, eAnd_ap, eOr_ap, eNot_ap, eIf_ap, eTup_ap, eLst_ap, eLstM_ap, cNop_ap, cBreak_ap, cCont_ap, cSeq_ap, cExpr_ap, cSet_ap, cRet_ap, cRetN_ap, cIf_ap, cAsg_ap, cPar2_ap, cPar3_ap, bYes_ap, eCall_ap, oNone_ap, oSome_ap, eSl_ap, cFor_ap, eMtL_ap, aKw_ap, gNm_ap, gTp2, gTp3, gSb_ap, mkTup0, mkTup1, mkTup2, mkTup3, Out.bind, Out.ofO, exq, fin, callE_ap, List.getElem?_cons_succ, List.getElem?_cons_zero, List.set_cons_succ, List.set_cons_zero, List.map_cons, List.map_nil, List.replicate, List.cons_append, List.nil_append, List.length_cons, List.length_nil, Bool.not_true, Bool.not_false, if_true, if_false, ite_true, ite_false, reduceIte, Bool.false_eq_true, Bool.true_eq_false, Nat.reduceAdd, unD, Option.map_some, Nat.zero_le, Sh.sz1, Sh.sz2, Sh.sz3, Sh.sz4, Sh.sz5, Sh.sz6, Sh.sz7, Sh.sz8, Sh.sz9, Sh.sz10, Sh.sz11, Sh.sz12, Sh.sz13, Sh.sz14, Sh.sz15, Sh.sz16, Nat.reduceSub, Nat.reduceLeDiff, reduceCtorEq, Bool.and_true, Bool.true_and, Bool.and_false, Bool.false_and, Bool.or_true, Bool.or_false, Bool.true_or, Bool.false_or, opIx_tup (xs := [.tuple fs, .tuple ws, .tuple ms]) (i := 0) (d := .tuple fs) rfl, opIx_tup (xs := [.tuple fs, .tuple ws, .tuple ms]) (i := 1) (d := .tuple ws) rfl, opIx_tup (xs := [.tuple fs, .tuple ws, .tuple ms]) (i := 2) (d := .tuple ms) rfl, bLen_tup, opInt_int, szD,
      show decide ((fs.length : Int) ≤ 6) = decide (fs.length ≤ 6) by simp; omega, show decide ((ws.length : Int) ≤ 16) = decide (ws.length ≤ 16) by simp; omega, show decide ((ms.length : Int) ≤ 4) = decide (ms.length ≤ 4) by simp; omega]
    by_cases h1 : fs.length ≤ 6 <;> simp only [eVar_ap, eK_ap, aNil_ap, aCons_ap, eOp2_ap, eOp1_ap, eChain_ap, bOf_ap, bNot_ap, bAnd_ap, bOr_ap, eAnd_ap, eOr_ap, eNot_ap, eIf_ap, eTup_ap, eLst_ap, eLstM_ap, cNop_ap, cBreak_ap, cCont_ap, cSeq_ap, cExpr_ap, cSet_ap, cRet_ap, cRetN_ap, cIf_ap, cAsg_ap, cPar2_ap, cPar3_ap, bYes_ap, eCall_ap, oNone_ap, oSome_ap, eSl_ap, cFor_ap, eMtL_ap, aKw_ap, gNm_ap, gTp2, gTp3, gSb_ap, mkTup0, mkTup1, mkTup2, mkTup3, Out.bind, Out.ofO, exq, fin, callE_ap, List.getElem?_cons_succ, List.getElem?_cons_zero, List.set_cons_succ, List.set_cons_zero, List.map_cons, List.map_nil, List.replicate, List.cons_append, List.nil_append, List.length_cons, List.length_nil, Bool.not_true, Bool.not_false, if_true, if_false, ite_true, ite_false, reduceIte, Bool.false_eq_true, Bool.true_eq_false, Nat.reduceAdd, unD, Option.map_some, Nat.zero_le, Sh.sz1, Sh.sz2, Sh.sz3, Sh.sz4, Sh.sz5, Sh.sz6, Sh.sz7, Sh.sz8, Sh.sz9, Sh.sz10, Sh.sz11, Sh.sz12, Sh.sz13, Sh.sz14, Sh.sz15, Sh.sz16, Nat.reduceSub, Nat.reduceLeDiff, reduceCtorEq, Bool.and_true, Bool.true_and, Bool.and_false, Bool.false_and, Bool.or_true, Bool.or_false, Bool.true_or, Bool.false_or, h1, decide_true, decide_false]
    by_cases h2 : ws.length ≤ 16 <;> simp only [eVar_ap, eK_ap, aNil_ap, aCons_ap, eOp2_ap, eOp1_ap, eChain_ap, bOf_ap, bNot_ap, bAnd_ap, bOr_ap, eAnd_ap, eOr_ap, eNot_ap, eIf_ap, eTup_ap, eLst_ap, eLstM_ap, cNop_ap, cBreak_ap, cCont_ap, cSeq_ap, cExpr_ap, cSet_ap, cRet_ap, cRetN_ap, cIf_ap, cAsg_ap, cPar2_ap, cPar3_ap, bYes_ap, eCall_ap, oNone_ap, oSome_ap, eSl_ap, cFor_ap, eMtL_ap, aKw_ap, gNm_ap, gTp2, gTp3, gSb_ap, mkTup0, mkTup1, mkTup2, mkTup3, Out.bind, Out.ofO, exq, fin, callE_ap, List.getElem?_cons_succ, List.getElem?_cons_zero, List.set_cons_succ, List.set_cons_zero, List.map_cons, List.map_nil, List.replicate, List.cons_append, List.nil_append, List.length_cons, List.length_nil, Bool.not_true, Bool.not_false, if_true, if_false, ite_true, ite_false, reduceIte, Bool.false_eq_true, Bool.true_eq_false, Nat.reduceAdd, unD, Option.map_some, Nat.zero_le, Sh.sz1, Sh.sz2, Sh.sz3, Sh.sz4, Sh.sz5, Sh.sz6, Sh.sz7, Sh.sz8, Sh.sz9, Sh.sz10, Sh.sz11, Sh.sz12, Sh.sz13, Sh.sz14, Sh.sz15, Sh.sz16, Nat.reduceSub, Nat.reduceLeDiff, reduceCtorEq, Bool.and_true, Bool.true_and, Bool.and_false, Bool.false_and, Bool.or_true, Bool.or_false, Bool.true_or, Bool.false_or, h2, decide_true, decide_false]
    rfl
  · cases h
theorem mt_elt {ρ : Rho} {ks : List PyData} {n k : Nat} {i j : Nat} (h1 : ρ[i]? = some (some (.d (.tuple ks)))) (h2 : ρ[j]? = some (some (.d (.int (k : Int))))) (hl : ks.length = n) (h : (ks.all fun k => inR k 0 ((n : Int) - 1)) = true) (hk : k < ks.length) :
    (eAnd (eOp2 (opLe) (eOp2 opIx (eVar i) (eVar j)) (eVar j)) (eOp2 (opEq) (eOp2 opIx (eVar i) (eOp2 opIx (eVar i) (eVar j))) (eOp2 opIx (eVar i) (eVar j)))) ρ S = .ok (.d (.bool (mtAt ks k))) S := by
  obtain ⟨m, e, hm⟩ := inR_at h hk
  obtain ⟨m2, e2, _⟩ := inR_at h (k := m) (by omega)
  simp only [eVar_ap, eK_ap, aNil_ap, aCons_ap, eOp2_ap, eOp1_ap, eChain_ap, bOf_ap, bNot_ap, bAnd_ap, bOr_ap, eAnd_ap, eOr_ap, eNot_ap, eIf_ap, eTup_ap, eLst_ap, eLstM_ap, cNop_ap, cBreak_ap, cCont_ap, cSeq_ap, cExpr_ap, cSet_ap, cRet_ap, cRetN_ap, cIf_ap, cAsg_ap, cPar2_ap, cPar3_ap, bYes_ap, eCall_ap, oNone_ap, oSome_ap, eSl_ap, cFor_ap, eMtL_ap, aKw_ap, gNm_ap, gTp2, gTp3, gSb_ap, mkTup0, mkTup1, mkTup2, mkTup3, Out.bind, Out.ofO, exq, fin, callE_ap, List.getElem?_cons_succ, List.getElem?_cons_zero, List.set_cons_succ, List.set_cons_zero, List.map_cons, List.map_nil, List.replicate, List.cons_append, List.nil_append, List.length_cons, List.length_nil, Bool.not_true, Bool.not_false, if_true, if_false, ite_true, ite_false, reduceIte, Bool.false_eq_true, Bool.true_eq_false, Nat.reduceAdd, unD, Option.map_some, Nat.zero_le, Sh.sz1, Sh.sz2, Sh.sz3, Sh.sz4, Sh.sz5, Sh.sz6, Sh.sz7, Sh.sz8, Sh.sz9, Sh.sz10, Sh.sz11, Sh.sz12, Sh.sz13, Sh.sz14, Sh.sz15, Sh.sz16, Nat.reduceSub, Nat.reduceLeDiff, reduceCtorEq, Bool.and_true, Bool.true_and, Bool.and_false, Bool.false_and, Bool.or_true, Bool.or_false, Bool.true_or, Bool.false_or, h1, h2, opIx_tup (atI_getD (xs := ks) hk), mtAt, e, opInt_int, Int.toNat_natCast, e2]
  cases h3 : decide ((m : Int) ≤ (k : Int)) <;> try simp only [eVar_ap, eK_ap, aNil_ap, aCons_ap, eOp2_ap, eOp1_ap, eChain_ap, bOf_ap, bNot_ap, bAnd_ap, bOr_ap, eAnd_ap, eOr_ap, eNot_ap, eIf_ap, eTup_ap, eLst_ap, eLstM_ap, cNop_ap, cBreak_ap, cCont_ap, cSeq_ap, cExpr_ap, cSet_ap, cRet_ap, cRetN_ap, cIf_ap, cAsg_ap, cPar2_ap, cPar3_ap, bYes_ap, eCall_ap, oNone_ap, oSome_ap, eSl_ap, cFor_ap, eMtL_ap, aKw_ap, gNm_ap, gTp2, gTp3, gSb_ap, mkTup0, mkTup1, mkTup2, mkTup3, Out.bind, Out.ofO, exq, fin, callE_ap, List.getElem?_cons_succ, List.getElem?_cons_zero, List.set_cons_succ, List.set_cons_zero, List.map_cons, List.map_nil, List.replicate, List.cons_append, List.nil_append, List.length_cons, List.length_nil, Bool.not_true, Bool.not_false, if_true, if_false, ite_true, ite_false, reduceIte, Bool.false_eq_true, Bool.true_eq_false, Nat.reduceAdd, unD, Option.map_some, Nat.zero_le, Sh.sz1, Sh.sz2, Sh.sz3, Sh.sz4, Sh.sz5, Sh.sz6, Sh.sz7, Sh.sz8, Sh.sz9, Sh.sz10, Sh.sz11, Sh.sz12, Sh.sz13, Sh.sz14, Sh.sz15, Sh.sz16, Nat.reduceSub, Nat.reduceLeDiff, reduceCtorEq, Bool.and_true, Bool.true_and, Bool.and_false, Bool.false_and, Bool.or_true, Bool.or_false, Bool.true_or, Bool.false_or]
  simp only [eVar_ap, eK_ap, aNil_ap, aCons_ap, eOp2_ap, eOp1_ap, eChain_ap, bOf_ap, bNot_ap, bAnd_ap, bOr_ap, eAnd_ap, eOr_ap, eNot_ap, eIf_ap, eTup_ap, eLst_ap, eLstM_ap, cNop_ap, cBreak_ap, cCont_ap, cSeq_ap, cExpr_ap, cSet_ap, cRet_ap, cRetN_ap, cIf_ap, cAsg_ap, cPar2_ap, cPar3_ap, bYes_ap, eCall_ap, oNone_ap, oSome_ap, eSl_ap, cFor_ap, eMtL_ap, aKw_ap, gNm_ap, gTp2, gTp3, gSb_ap, mkTup0, mkTup1, mkTup2, mkTup3, Out.bind, Out.ofO, exq, fin, callE_ap, List.getElem?_cons_succ, List.getElem?_cons_zero, List.set_cons_succ, List.set_cons_zero, List.map_cons, List.map_nil, List.replicate, List.cons_append, List.nil_append, List.length_cons, List.length_nil, Bool.not_true, Bool.not_false, if_true, if_false, ite_true, ite_false, reduceIte, Bool.false_eq_true, Bool.true_eq_false, Nat.reduceAdd, unD, Option.map_some, Nat.zero_le, Sh.sz1, Sh.sz2, Sh.sz3, Sh.sz4, Sh.sz5, Sh.sz6, Sh.sz7, Sh.sz8, Sh.sz9, Sh.sz10, Sh.sz11, Sh.sz12, Sh.sz13, Sh.sz14, Sh.sz15, Sh.sz16, Nat.reduceSub, Nat.reduceLeDiff, reduceCtorEq, Bool.and_true, Bool.true_and, Bool.and_false, Bool.false_and, Bool.or_true, Bool.or_false, Bool.true_or, Bool.false_or, h1, h2, opIx_tup (atI_getD (xs := ks) hk), e, opIx_tup (atI_getD (xs := ks) (k := m) (by omega)), e2, opEq_int]
theorem range_elt {ks : List PyData} {ρ : Rho} {m : EM} (hm : m ρ S = .ok (.d (.tuple ks)) S) (hl : ks.length ≤ 1000) : iRg1 (eCall bLen (aCons m aNil)) ρ S = .ok ⟨(List.range ks.length).map fun (k : Nat) => W.d (.int (k : Int)), fun _ => True⟩ S := iRg1_nat (by simp only [eVar_ap, eK_ap, aNil_ap, aCons_ap, eOp2_ap, eOp1_ap, eChain_ap, bOf_ap, bNot_ap, bAnd_ap, bOr_ap, eAnd_ap, eOr_ap, eNot_ap, eIf_ap, eTup_ap, eLst_ap, eLstM_ap, cNop_ap, cBreak_ap, cCont_ap, cSeq_ap, cExpr_ap, cSet_ap, cRet_ap, cRetN_ap, cIf_ap, cAsg_ap, cPar2_ap, cPar3_ap, bYes_ap, eCall_ap, oNone_ap, oSome_ap, eSl_ap, cFor_ap, eMtL_ap, aKw_ap, gNm_ap, gTp2, gTp3, gSb_ap, mkTup0, mkTup1, mkTup2, mkTup3, Out.bind, Out.ofO, exq, fin, callE_ap, List.getElem?_cons_succ, List.getElem?_cons_zero, List.set_cons_succ, List.set_cons_zero, List.map_cons, List.map_nil, List.replicate, List.cons_append, List.nil_append, List.length_cons, List.length_nil, Bool.not_true, Bool.not_false, if_true, if_false, ite_true, ite_false, reduceIte, Bool.false_eq_true, Bool.true_eq_false, Nat.reduceAdd, unD, Option.map_some, Nat.zero_le, Sh.sz1, Sh.sz2, Sh.sz3, Sh.sz4, Sh.sz5, Sh.sz6, Sh.sz7, Sh.sz8, Sh.sz9, Sh.sz10, Sh.sz11, Sh.sz12, Sh.sz13, Sh.sz14, Sh.sz15, Sh.sz16, Nat.reduceSub, Nat.reduceLeDiff, reduceCtorEq, Bool.and_true, Bool.true_and, Bool.and_false, Bool.false_and, Bool.or_true, Bool.or_false, Bool.true_or, Bool.false_or, hm, bLen_tup]) (by omega)
end
end Wn
end

section
/-! Sh: the bag of the laws, and what is picked from it; the number of draws is counted. -/
namespace Sh
open PySem PySem.Spec PyProof.Rows L2
open Classical

noncomputable def bBag : SM := cRet (eLstM (aCons (eCall bList (aCons (eVar 0) aNil)) (aCons (eInt 0) (aCons (eInt 0) (aCons (eInt 7) aNil)))))
noncomputable def mBag : FM := defM 1 1 bBag
noncomputable def bPickR : SM := cSeq (cIf (bOf (eOp2 (opLt) (eVar 3) (eOp2 opPow (eInt 10) (eInt 18)))) (cSeq (cSet 3 (eOp2 opMul (eOp2 opAdd (eOp2 opAdd (eOp2 opMul (eVar 3) (eInt 1103515249)) (eOp2 opMul (eInt 12820163) (eVar 2))) (eInt 2147480009)) (eOp2 opAdd (eOp2 opAdd (eVar 3) (eInt 86028157)) (eVar 2)))) (cSet 3 (eOp2 opAdd (eOp2 opDiv (eOp2 opMul (eVar 3) (eVar 3)) (eInt 4093)) (eOp2 opMul (eVar 3) (eInt 6700417))))) (cNop)) (cSeq (cAsg (eOp2 opAdd (eVar 2) (eInt 1)) (gSb setIx (eVar 0) (eInt 1))) (cSeq (cAsg (eVar 3) (gSb setIx (eVar 0) (eInt 2))) (cAsg (eOp2 opMod (eCall bInt (aCons (eOp2 opAdd (eOp2 opMul (eOp2 opIx (eVar 0) (eInt 3)) (eInt 40692)) (eVar 3)) aNil)) (eInt 2305843009213693951)) (gSb setIx (eVar 0) (eInt 3)))))
noncomputable def bPickA : SM := cIf (bOf (eOp2 (opLt) (eOp2 opIx (eVar 0) (eInt 2)) (eVar 1))) (cSeq (cSet 2 (eOp2 opIx (eVar 0) (eInt 1))) (cSeq (cSet 3 (eIf (bOf (eOp2 (opLt) (eVar 2) (eCall bLen (aCons (eOp2 opIx (eVar 0) (eInt 0)) aNil)))) (eOp2 opIx (eOp2 opIx (eVar 0) (eInt 0)) (eVar 2)) (eOp2 opAdd (eOp2 opDiv (eOp2 opIx (eVar 0) (eInt 3)) (eInt 3)) (eOp2 opMul (eInt 77003) (eVar 2))))) (cSeq (cSet 3 (eIf (bOf (eOp2 (opGe) (eVar 3) (eInt 0))) (eOp2 opMul (eInt 2) (eVar 3)) (eOp2 opSub (eOp2 opMul (eOp1 opNeg (eInt 2)) (eVar 3)) (eInt 1)))) bPickR))) (cNop)
noncomputable def bPickB : SM := (cSeq (cSet 4 (eOp2 opMod (eCall bInt (aCons (eOp2 opIx (eVar 0) (eInt 2)) aNil)) (eVar 1))) (cSeq (cAsg (eOp2 opDiv (eOp2 opIx (eVar 0) (eInt 2)) (eVar 1)) (gSb setIx (eVar 0) (eInt 2))) (cRet (eVar 4))))
noncomputable def bPick : SM := cSeq bPickA bPickB
noncomputable def mPick : FM := defM 5 2 bPick
def bagOb (cells : List Int) (a : Nat) (b c : Int) : Ob := .lst [.d (.list (cells.map .int)), .d (.int (a : Int)), .d (.int b), .d (.int c)]
/-- a bag lies in cell n; at most k were picked -/
def Bag (S : Sto) (n k : Nat) : Prop := ∃ cells a b c, S[n]? = some (bagOb cells a b c) ∧ cells.length ≤ 63 ∧ a ≤ k ∧ 0 ≤ b ∧ 0 ≤ c ∧ c < 2305843009213693951
theorem Bag.mono {S : Sto} {n c d : Nat} (h : Bag S n c) (hd : c ≤ d) : Bag S n d := by
  obtain ⟨cells, a, b, c, h, h1, h2, h3⟩ := h
  exact ⟨cells, a, b, c, h, h1, Nat.le_trans h2 hd, h3⟩
section
variable {S : Sto} {n : Nat} {cells : List Int} {a : Nat} {b c : Int}
theorem bag0 (h : S[n]? = some (bagOb cells a b c)) : opIx (.ref n) (.d (.int 0)) S = .ok (.d (.list (cells.map .int))) S := opIx_ref h rfl
theorem bag1 (h : S[n]? = some (bagOb cells a b c)) : opIx (.ref n) (.d (.int 1)) S = .ok (.d (.int (a : Int))) S := opIx_ref h rfl
theorem bag2 (h : S[n]? = some (bagOb cells a b c)) : opIx (.ref n) (.d (.int 2)) S = .ok (.d (.int b)) S := opIx_ref h rfl
theorem bag3 (h : S[n]? = some (bagOb cells a b c)) : opIx (.ref n) (.d (.int 3)) S = .ok (.d (.int c)) S := opIx_ref h rfl
theorem gset1 (h : S[n]? = some (bagOb cells a b c)) : setIx (.ref n) (.d (.int 1)) (.d (.int ((a : Int) + 1))) S = .ok () (S.set n (bagOb cells (a + 1) b c)) := by simp only [setIx, h, bagOb]; rfl
theorem gset2 {b2 : Int} (h : S[n]? = some (bagOb cells a b c)) : setIx (.ref n) (.d (.int 2)) (.d (.int b2)) S = .ok () (S.set n (bagOb cells a b2 c)) := by simp only [setIx, h, bagOb]; rfl
theorem gset3 {c2 : Int} (h : S[n]? = some (bagOb cells a b c)) : setIx (.ref n) (.d (.int 3)) (.d (.int c2)) S = .ok () (S.set n (bagOb cells a b c2)) := by simp only [setIx, h, bagOb]; rfl
/-- the last three stores -/
theorem pickR (h : S[n]? = some (bagOb cells a b c)) (ha : a < 2 ^ 40) {many x : Int} (hx : 0 ≤ x) : ∃ (b2 c2 : Int) (w3 : Option W), bPickR [some (.ref n), some (.d (.int many)), some (.d (.int (a : Int))), some (.d (.int x)), none] S
    = .ok (.nx [some (.ref n), some (.d (.int many)), some (.d (.int (a : Int))), w3, none]) (S.set n (bagOb cells (a + 1) b2 c2)) ∧ 0 ≤ b2 ∧ 0 ≤ c2 ∧ c2 < 2305843009213693951 := by
  have h2 : (S.set n (bagOb cells (a + 1) b c))[n]? = some (bagOb cells (a + 1) b c) := set_at h
  have h3 : ∀ y, ((S.set n (bagOb cells (a + 1) b c)).set n (bagOb cells (a + 1) y c))[n]? = some (bagOb cells (a + 1) y c) := fun y => set_at h2
  have m1 : CMul c 40692 := .inr ⟨by decide, by decide⟩
  have c0 : ∀ y, 0 ≤ (c * 40692 + y) % 2305843009213693951 := fun y => Int.emod_nonneg _ (by decide)
  have c1 : ∀ y, (c * 40692 + y) % 2305843009213693951 < 2305843009213693951 := fun y => Int.emod_lt_of_pos _ (by decide)
  unfold bPickR
  by_cases hs : x < 1000000000000000000
  · have n1 : CMul x 1103515249 := .inr ⟨by decide, by decide⟩
    have n2 : CMul 12820163 (a : Int) := .inl ⟨by decide, by decide⟩
    have n3 : CMul (x * 1103515249 + 12820163 * (a : Int) + 2147480009) (x + 86028157 + (a : Int)) := .inr ⟨by omega, by omega⟩
    have y0 : 0 ≤ (x * 1103515249 + 12820163 * (a : Int) + 2147480009) * (x + 86028157 + (a : Int)) := Int.mul_nonneg (by omega) (by omega)
    have y1 : (x * 1103515249 + 12820163 * (a : Int) + 2147480009) * (x + 86028157 + (a : Int)) ≤ 2 ^ 100 * 2 ^ 64 := Int.mul_le_mul (by omega) (by omega) (by omega) (by decide)
    obtain ⟨y, hy⟩ : ∃ y, y = (x * 1103515249 + 12820163 * (a : Int) + 2147480009) * (x + 86028157 + (a : Int)) := ⟨_, rfl⟩
    have e3 : ∀ S, opMul (.d (.int (x * 1103515249 + 12820163 * (a : Int) + 2147480009))) (.d (.int (x + 86028157 + (a : Int)))) S = .ok (.d (.int y)) S := fun S => by rw [opMul_int n3, hy]
    rw [← hy] at y0 y1
    have ly : y.natAbs.log2 ≤ 200 := by
      rcases Nat.eq_zero_or_pos y.natAbs with e | e
      · rw [e]; decide
      · have := (Nat.log2_lt (n := y.natAbs) (k := 200) (by omega)).2 (by
          have : (2 : Int) ^ 100 * 2 ^ 64 < 2 ^ 200 := by decide
          omega)
        omega
    have e4 : ∀ S, opMul (.d (.int y)) (.d (.int y)) S = .ok (.d (.int (y * y))) S := fun S => if_pos (.inr (by show y.natAbs.log2 + y.natAbs.log2 < 1000000; omega))
    have n5 : CDivW (y * y) 4093 := ⟨by decide, by decide⟩
    have n6 : CMul y 6700417 := .inr ⟨by decide, by decide⟩
    have z0 : 0 ≤ y * y / 4093 + y * 6700417 := Int.add_nonneg (Int.ediv_nonneg (Int.mul_nonneg y0 y0) (by decide)) (by omega)
    clear hy y1 ly n3
    generalize hz : y * y / 4093 + y * 6700417 = z at z0
    refine ⟨z, (c * 40692 + z) % 2305843009213693951, some (.d (.int z)), ?_, z0, c0 z, c1 z⟩
    rw [← List.set_set (a := bagOb cells (a + 1) z c), ← List.set_set (a := bagOb cells (a + 1) b c) (b := bagOb cells (a + 1) z c)]
    simp only [eVar_ap, eK_ap, aNil_ap, aCons_ap, eOp2_ap, eOp1_ap, eChain_ap, bOf_ap, bNot_ap, bAnd_ap, bOr_ap, eAnd_ap, eOr_ap, eNot_ap, eIf_ap, eTup_ap, eLst_ap, eLstM_ap, cNop_ap, cBreak_ap, cCont_ap, cSeq_ap, cExpr_ap, cSet_ap, cRet_ap, cRetN_ap, cIf_ap, cAsg_ap, cPar2_ap, cPar3_ap, bYes_ap, eCall_ap, oNone_ap, oSome_ap, eSl_ap, cFor_ap, eMtL_ap, aKw_ap, gNm_ap, gTp2, gTp3, gSb_ap, mkTup0, mkTup1, mkTup2, mkTup3, Out.bind, Out.ofO, exq, fin, callE_ap, List.getElem?_cons_succ, List.getElem?_cons_zero, List.set_cons_succ, List.set_cons_zero, List.map_cons, List.map_nil, List.replicate, List.cons_append, List.nil_append, List.length_cons, List.length_nil, Bool.not_true, Bool.not_false, if_true, if_false, ite_true, ite_false, reduceIte, Bool.false_eq_true, Bool.true_eq_false, Nat.reduceAdd, unD, Option.map_some, Nat.zero_le, Sh.sz1, Sh.sz2, Sh.sz3, Sh.sz4, Sh.sz5, Sh.sz6, Sh.sz7, Sh.sz8, Sh.sz9, Sh.sz10, Sh.sz11, Sh.sz12, Sh.sz13, Sh.sz14, Sh.sz15, Sh.sz16, Nat.reduceSub, Nat.reduceLeDiff, reduceCtorEq, Bool.and_true, Bool.true_and, Bool.and_false, Bool.false_and, Bool.or_true, Bool.or_false, Bool.true_or, Bool.false_or, opLt_int, pow18, hs, decide_true, opMul_int n1, opMul_int n2, opAdd_int, e3, e4, opDiv_int n5, opMul_int n6, hz, gset1 h, gset2 h2, bag3 (h3 z), opMul_int m1, bInt_int, opMod_int (show (0 : Int) < 2305843009213693951 by decide), gset3 (h3 z)]
  · refine ⟨x, (c * 40692 + x) % 2305843009213693951, some (.d (.int x)), ?_, hx, c0 x, c1 x⟩
    rw [← List.set_set (a := bagOb cells (a + 1) x c), ← List.set_set (a := bagOb cells (a + 1) b c) (b := bagOb cells (a + 1) x c)]
    simp only [eVar_ap, eK_ap, aNil_ap, aCons_ap, eOp2_ap, eOp1_ap, eChain_ap, bOf_ap, bNot_ap, bAnd_ap, bOr_ap, eAnd_ap, eOr_ap, eNot_ap, eIf_ap, eTup_ap, eLst_ap, eLstM_ap, cNop_ap, cBreak_ap, cCont_ap, cSeq_ap, cExpr_ap, cSet_ap, cRet_ap, cRetN_ap, cIf_ap, cAsg_ap, cPar2_ap, cPar3_ap, bYes_ap, eCall_ap, oNone_ap, oSome_ap, eSl_ap, cFor_ap, eMtL_ap, aKw_ap, gNm_ap, gTp2, gTp3, gSb_ap, mkTup0, mkTup1, mkTup2, mkTup3, Out.bind, Out.ofO, exq, fin, callE_ap, List.getElem?_cons_succ, List.getElem?_cons_zero, List.set_cons_succ, List.set_cons_zero, List.map_cons, List.map_nil, List.replicate, List.cons_append, List.nil_append, List.length_cons, List.length_nil, Bool.not_true, Bool.not_false, if_true, if_false, ite_true, ite_false, reduceIte, Bool.false_eq_true, Bool.true_eq_false, Nat.reduceAdd, unD, Option.map_some, Nat.zero_le, Sh.sz1, Sh.sz2, Sh.sz3, Sh.sz4, Sh.sz5, Sh.sz6, Sh.sz7, Sh.sz8, Sh.sz9, Sh.sz10, Sh.sz11, Sh.sz12, Sh.sz13, Sh.sz14, Sh.sz15, Sh.sz16, Nat.reduceSub, Nat.reduceLeDiff, reduceCtorEq, Bool.and_true, Bool.true_and, Bool.and_false, Bool.false_and, Bool.or_true, Bool.or_false, Bool.true_or, Bool.false_or, opLt_int, pow18, hs, decide_false, opAdd_int, gset1 h, gset2 h2, bag3 (h3 x), opMul_int m1, bInt_int, opMod_int (show (0 : Int) < 2305843009213693951 by decide), gset3 (h3 x)]
theorem pickA {k : Nat} (h : S[n]? = some (bagOb cells a b c)) (ha : a ≤ k) (hb : 0 ≤ b) (hc0 : 0 ≤ c) (hc1 : c < 2305843009213693951) (hL : k < 2 ^ 40) {many : Int} : ∃ (a2 : Nat) (b2 c2 : Int) (w2 w3 : Option W), bPickA [some (.ref n), some (.d (.int many)), none, none, none] S = .ok (.nx [some (.ref n), some (.d (.int many)), w2, w3, none]) (S.set n (bagOb cells a2 b2 c2)) ∧ a2 ≤ k + 1 ∧ 0 ≤ b2 ∧ 0 ≤ c2 ∧ c2 < 2305843009213693951 := by
  unfold bPickA
  by_cases hz : b < many
  · have m1 : CMul 77003 (a : Int) := .inl ⟨by decide, by decide⟩
    have m4 : ∀ x, CMul 2 x := fun x => .inl ⟨by decide, by decide⟩
    have m5 : ∀ x, CMul (-2) x := fun x => .inl ⟨by decide, by decide⟩
    have d3 : CDivW c 3 := ⟨by decide, by decide⟩
    by_cases hl : a < cells.length
    · have e0 : atI (cells.map PyData.int) (a : Int) = some (.int cells[a]) := atI_nat (by simp [hl])
      generalize cells[a] = y at e0
      by_cases hy : 0 ≤ y
      · obtain ⟨b2, c2, w3, e, hb2, h0, h1⟩ := pickR h (by omega) (many := many) (x := 2 * y) (by omega)
        refine ⟨a + 1, b2, c2, some (.d (.int (a : Int))), w3, ?_, by omega, hb2, h0, h1⟩
        simp only [eVar_ap, eK_ap, aNil_ap, aCons_ap, eOp2_ap, eOp1_ap, eChain_ap, bOf_ap, bNot_ap, bAnd_ap, bOr_ap, eAnd_ap, eOr_ap, eNot_ap, eIf_ap, eTup_ap, eLst_ap, eLstM_ap, cNop_ap, cBreak_ap, cCont_ap, cSeq_ap, cExpr_ap, cSet_ap, cRet_ap, cRetN_ap, cIf_ap, cAsg_ap, cPar2_ap, cPar3_ap, bYes_ap, eCall_ap, oNone_ap, oSome_ap, eSl_ap, cFor_ap, eMtL_ap, aKw_ap, gNm_ap, gTp2, gTp3, gSb_ap, mkTup0, mkTup1, mkTup2, mkTup3, Out.bind, Out.ofO, exq, fin, callE_ap, List.getElem?_cons_succ, List.getElem?_cons_zero, List.set_cons_succ, List.set_cons_zero, List.map_cons, List.map_nil, List.replicate, List.cons_append, List.nil_append, List.length_cons, List.length_nil, Bool.not_true, Bool.not_false, if_true, if_false, ite_true, ite_false, reduceIte, Bool.false_eq_true, Bool.true_eq_false, Nat.reduceAdd, unD, Option.map_some, Nat.zero_le, Sh.sz1, Sh.sz2, Sh.sz3, Sh.sz4, Sh.sz5, Sh.sz6, Sh.sz7, Sh.sz8, Sh.sz9, Sh.sz10, Sh.sz11, Sh.sz12, Sh.sz13, Sh.sz14, Sh.sz15, Sh.sz16, Nat.reduceSub, Nat.reduceLeDiff, reduceCtorEq, Bool.and_true, Bool.true_and, Bool.and_false, Bool.false_and, Bool.or_true, Bool.or_false, Bool.true_or, Bool.false_or, bag0 h, bag1 h, bag2 h, opLt_int, hz, decide_true, bLen_list, List.length_map, show decide ((a : Int) < (cells.length : Int)) = true from decide_eq_true (by omega), opIx_list e0, opInt_int, hy, opMul_int (m4 y), e]
      · obtain ⟨b2, c2, w3, e, hb2, h0, h1⟩ := pickR h (by omega) (many := many) (x := -2 * y - 1) (by omega)
        refine ⟨a + 1, b2, c2, some (.d (.int (a : Int))), w3, ?_, by omega, hb2, h0, h1⟩
        simp only [eVar_ap, eK_ap, aNil_ap, aCons_ap, eOp2_ap, eOp1_ap, eChain_ap, bOf_ap, bNot_ap, bAnd_ap, bOr_ap, eAnd_ap, eOr_ap, eNot_ap, eIf_ap, eTup_ap, eLst_ap, eLstM_ap, cNop_ap, cBreak_ap, cCont_ap, cSeq_ap, cExpr_ap, cSet_ap, cRet_ap, cRetN_ap, cIf_ap, cAsg_ap, cPar2_ap, cPar3_ap, bYes_ap, eCall_ap, oNone_ap, oSome_ap, eSl_ap, cFor_ap, eMtL_ap, aKw_ap, gNm_ap, gTp2, gTp3, gSb_ap, mkTup0, mkTup1, mkTup2, mkTup3, Out.bind, Out.ofO, exq, fin, callE_ap, List.getElem?_cons_succ, List.getElem?_cons_zero, List.set_cons_succ, List.set_cons_zero, List.map_cons, List.map_nil, List.replicate, List.cons_append, List.nil_append, List.length_cons, List.length_nil, Bool.not_true, Bool.not_false, if_true, if_false, ite_true, ite_false, reduceIte, Bool.false_eq_true, Bool.true_eq_false, Nat.reduceAdd, unD, Option.map_some, Nat.zero_le, Sh.sz1, Sh.sz2, Sh.sz3, Sh.sz4, Sh.sz5, Sh.sz6, Sh.sz7, Sh.sz8, Sh.sz9, Sh.sz10, Sh.sz11, Sh.sz12, Sh.sz13, Sh.sz14, Sh.sz15, Sh.sz16, Nat.reduceSub, Nat.reduceLeDiff, reduceCtorEq, Bool.and_true, Bool.true_and, Bool.and_false, Bool.false_and, Bool.or_true, Bool.or_false, Bool.true_or, Bool.false_or, bag0 h, bag1 h, bag2 h, opLt_int, hz, decide_true, bLen_list, List.length_map, show decide ((a : Int) < (cells.length : Int)) = true from decide_eq_true (by omega), opIx_list e0, opInt_int, hy, decide_false, opNeg_int, opMul_int (m5 y), opSub_int, e]
    · have hy : 0 ≤ c / 3 + 77003 * (a : Int) := by omega
      obtain ⟨b2, c2, w3, e, hb2, h0, h1⟩ := pickR h (by omega) (many := many) (x := 2 * (c / 3 + 77003 * (a : Int))) (by omega)
      refine ⟨a + 1, b2, c2, some (.d (.int (a : Int))), w3, ?_, by omega, hb2, h0, h1⟩
      simp only [eVar_ap, eK_ap, aNil_ap, aCons_ap, eOp2_ap, eOp1_ap, eChain_ap, bOf_ap, bNot_ap, bAnd_ap, bOr_ap, eAnd_ap, eOr_ap, eNot_ap, eIf_ap, eTup_ap, eLst_ap, eLstM_ap, cNop_ap, cBreak_ap, cCont_ap, cSeq_ap, cExpr_ap, cSet_ap, cRet_ap, cRetN_ap, cIf_ap, cAsg_ap, cPar2_ap, cPar3_ap, bYes_ap, eCall_ap, oNone_ap, oSome_ap, eSl_ap, cFor_ap, eMtL_ap, aKw_ap, gNm_ap, gTp2, gTp3, gSb_ap, mkTup0, mkTup1, mkTup2, mkTup3, Out.bind, Out.ofO, exq, fin, callE_ap, List.getElem?_cons_succ, List.getElem?_cons_zero, List.set_cons_succ, List.set_cons_zero, List.map_cons, List.map_nil, List.replicate, List.cons_append, List.nil_append, List.length_cons, List.length_nil, Bool.not_true, Bool.not_false, if_true, if_false, ite_true, ite_false, reduceIte, Bool.false_eq_true, Bool.true_eq_false, Nat.reduceAdd, unD, Option.map_some, Nat.zero_le, Sh.sz1, Sh.sz2, Sh.sz3, Sh.sz4, Sh.sz5, Sh.sz6, Sh.sz7, Sh.sz8, Sh.sz9, Sh.sz10, Sh.sz11, Sh.sz12, Sh.sz13, Sh.sz14, Sh.sz15, Sh.sz16, Nat.reduceSub, Nat.reduceLeDiff, reduceCtorEq, Bool.and_true, Bool.true_and, Bool.and_false, Bool.false_and, Bool.or_true, Bool.or_false, Bool.true_or, Bool.false_or, bag0 h, bag1 h, bag2 h, bag3 h, opLt_int, hz, decide_true, bLen_list, List.length_map, show decide ((a : Int) < (cells.length : Int)) = false from decide_eq_false (by omega), opDiv_int d3, opMul_int m1, opAdd_int, opInt_int, hy, opMul_int (m4 _), e]
  · refine ⟨a, b, c, none, none, ?_, by omega, hb, hc0, hc1⟩
    rw [set_self h]
    simp only [eVar_ap, eK_ap, aNil_ap, aCons_ap, eOp2_ap, eOp1_ap, eChain_ap, bOf_ap, bNot_ap, bAnd_ap, bOr_ap, eAnd_ap, eOr_ap, eNot_ap, eIf_ap, eTup_ap, eLst_ap, eLstM_ap, cNop_ap, cBreak_ap, cCont_ap, cSeq_ap, cExpr_ap, cSet_ap, cRet_ap, cRetN_ap, cIf_ap, cAsg_ap, cPar2_ap, cPar3_ap, bYes_ap, eCall_ap, oNone_ap, oSome_ap, eSl_ap, cFor_ap, eMtL_ap, aKw_ap, gNm_ap, gTp2, gTp3, gSb_ap, mkTup0, mkTup1, mkTup2, mkTup3, Out.bind, Out.ofO, exq, fin, callE_ap, List.getElem?_cons_succ, List.getElem?_cons_zero, List.set_cons_succ, List.set_cons_zero, List.map_cons, List.map_nil, List.replicate, List.cons_append, List.nil_append, List.length_cons, List.length_nil, Bool.not_true, Bool.not_false, if_true, if_false, ite_true, ite_false, reduceIte, Bool.false_eq_true, Bool.true_eq_false, Nat.reduceAdd, unD, Option.map_some, Nat.zero_le, Sh.sz1, Sh.sz2, Sh.sz3, Sh.sz4, Sh.sz5, Sh.sz6, Sh.sz7, Sh.sz8, Sh.sz9, Sh.sz10, Sh.sz11, Sh.sz12, Sh.sz13, Sh.sz14, Sh.sz15, Sh.sz16, Nat.reduceSub, Nat.reduceLeDiff, reduceCtorEq, Bool.and_true, Bool.true_and, Bool.and_false, Bool.false_and, Bool.or_true, Bool.or_false, Bool.true_or, Bool.false_or, bag2 h, opLt_int, hz, decide_false]
/-- what is picked, and what is left -/
theorem pick_ok {k : Nat} {many : Int} (hJ : Bag S n k) (hL : k < 2 ^ 40) (h0 : 0 < many) (h1 : many < 2 ^ 62) : ∃ (r : Nat) (o : Ob), mPick [.ref n, .d (.int many)] S = .ok (.d (.int r)) (S.set n o) ∧ (r : Int) < many ∧ Bag (S.set n o) n (k + 1) := by
  obtain ⟨cells, a, b, c, h, hc, ha, hb, hc0, hc1⟩ := hJ
  obtain ⟨a1, b1, c1, w2, w3, eA, ha1, hb1, hd0, hd1⟩ := pickA h ha hb hc0 hc1 hL (many := many)
  have h1' := set_at (o' := bagOb cells a1 b1 c1) h
  unfold mPick defM bPick
  rw [show ([W.ref n, W.d (PyData.int many)].map some ++ List.replicate (5 - 2) none) = [some (W.ref n), some (.d (.int many)), none, none, none] from rfl]
  obtain ⟨S1, hS1⟩ : ∃ S1, S1 = S.set n (bagOb cells a1 b1 c1) := ⟨_, rfl⟩
  have key : ∀ o, S.set n o = S1.set n o := fun o => by rw [hS1, List.set_set]
  rw [← hS1] at eA h1'
  simp only [List.length_cons, List.length_nil, if_true, cSeq, eA, Out.bind, bPickB, key]
  have hd : CDivW b1 many := ⟨h0, by
    have : many.natAbs < 2 ^ 62 := by omega
    have := Nat.log2_lt (n := many.natAbs) (k := 62) (by omega) |>.2 this
    omega⟩
  have e : 0 ≤ b1 % many := Int.emod_nonneg _ (by omega)
  refine ⟨(b1 % many).toNat, bagOb cells a1 (b1 / many) c1, ?_, ?_, cells, _, _, _, set_at h1', hc, ha1, Int.ediv_nonneg hb1 (by omega), hd0, hd1⟩
  · simp only [eVar_ap, eK_ap, aNil_ap, aCons_ap, eOp2_ap, eOp1_ap, eChain_ap, bOf_ap, bNot_ap, bAnd_ap, bOr_ap, eAnd_ap, eOr_ap, eNot_ap, eIf_ap, eTup_ap, eLst_ap, eLstM_ap, cNop_ap, cBreak_ap, cCont_ap, cSeq_ap, cExpr_ap, cSet_ap, cRet_ap, cRetN_ap, cIf_ap, cAsg_ap, cPar2_ap, cPar3_ap, bYes_ap, eCall_ap, oNone_ap, oSome_ap, eSl_ap, cFor_ap, eMtL_ap, aKw_ap, gNm_ap, gTp2, gTp3, gSb_ap, mkTup0, mkTup1, mkTup2, mkTup3, Out.bind, Out.ofO, exq, fin, callE_ap, List.getElem?_cons_succ, List.getElem?_cons_zero, List.set_cons_succ, List.set_cons_zero, List.map_cons, List.map_nil, List.replicate, List.cons_append, List.nil_append, List.length_cons, List.length_nil, Bool.not_true, Bool.not_false, if_true, if_false, ite_true, ite_false, reduceIte, Bool.false_eq_true, Bool.true_eq_false, Nat.reduceAdd, unD, Option.map_some, Nat.zero_le, Sh.sz1, Sh.sz2, Sh.sz3, Sh.sz4, Sh.sz5, Sh.sz6, Sh.sz7, Sh.sz8, Sh.sz9, Sh.sz10, Sh.sz11, Sh.sz12, Sh.sz13, Sh.sz14, Sh.sz15, Sh.sz16, Nat.reduceSub, Nat.reduceLeDiff, reduceCtorEq, Bool.and_true, Bool.true_and, Bool.and_false, Bool.false_and, Bool.or_true, Bool.or_false, Bool.true_or, Bool.false_or, bag2 h1', bInt_int, opMod_int h0, opDiv_int hd, gset2 h1']
    rw [Int.toNat_of_nonneg e]
  · rw [Int.toNat_of_nonneg e]; exact Int.emod_lt_of_pos _ h0
theorem pick_any {k : Nat} {many : Int} (hJ : Bag S n k) (hL : k < 2 ^ 40) (h0 : 0 < many) (h1 : many < 2 ^ 62) : ∃ (r : Nat) (S' : Sto), mPick [.ref n, .d (.int many)] S = .ok (.d (.int r)) S' ∧ (r : Int) < many ∧ Bag S' n (k + 1) ∧ S'.length = S.length ∧ ∀ j, j ≠ n → S'[j]? = S[j]? := by
  obtain ⟨r, o, e, hk, hW⟩ := pick_ok hJ hL h0 h1
  exact ⟨r, _, e, hk, hW, by simp, fun j hj => by rw [List.getElem?_set_ne (Ne.symm hj)]⟩
theorem bag_ok {ns : List Int} (hl : ns.length ≤ 63) : mBag [.fl (ns.map .int)] S = .ok (.ref S.length) (S ++ [bagOb ns 0 0 7]) ∧ Bag (S ++ [bagOb ns 0 0 7]) S.length 0 := by
  refine ⟨?_, ns, 0, 0, 7, by simp, hl, Nat.le_refl _, Int.le_refl _, by decide, by decide⟩
  unfold mBag defM bBag
  simp only [eVar_ap, eK_ap, aNil_ap, aCons_ap, eOp2_ap, eOp1_ap, eChain_ap, bOf_ap, bNot_ap, bAnd_ap, bOr_ap, eAnd_ap, eOr_ap, eNot_ap, eIf_ap, eTup_ap, eLst_ap, eLstM_ap, cNop_ap, cBreak_ap, cCont_ap, cSeq_ap, cExpr_ap, cSet_ap, cRet_ap, cRetN_ap, cIf_ap, cAsg_ap, cPar2_ap, cPar3_ap, bYes_ap, eCall_ap, oNone_ap, oSome_ap, eSl_ap, cFor_ap, eMtL_ap, aKw_ap, gNm_ap, gTp2, gTp3, gSb_ap, mkTup0, mkTup1, mkTup2, mkTup3, Out.bind, Out.ofO, exq, fin, callE_ap, List.getElem?_cons_succ, List.getElem?_cons_zero, List.set_cons_succ, List.set_cons_zero, List.map_cons, List.map_nil, List.replicate, List.cons_append, List.nil_append, List.length_cons, List.length_nil, Bool.not_true, Bool.not_false, if_true, if_false, ite_true, ite_false, reduceIte, Bool.false_eq_true, Bool.true_eq_false, Nat.reduceAdd, unD, Option.map_some, Nat.zero_le, Sh.sz1, Sh.sz2, Sh.sz3, Sh.sz4, Sh.sz5, Sh.sz6, Sh.sz7, Sh.sz8, Sh.sz9, Sh.sz10, Sh.sz11, Sh.sz12, Sh.sz13, Sh.sz14, Sh.sz15, Sh.sz16, Nat.reduceSub, Nat.reduceLeDiff, reduceCtorEq, Bool.and_true, Bool.true_and, Bool.and_false, Bool.false_and, Bool.or_true, Bool.or_false, Bool.true_or, Bool.false_or, bList, newCell]
  rfl
end
end Sh
end

section
/-! Sh: math.gcd. -/
namespace Sh
open PySem PySem.Spec PyProof.Rows L2
open Classical

def bGcd : CF := fun ws S => match ws with
  | [.d (.int a), .d (.int b)] => .ok (.d (.int ((Nat.gcd a.natAbs b.natAbs : Nat) : Int))) S
  | _ => .bad
section
variable {X : Cx} {E : EX} {pos p : Pos} {e e2 : Expr} {ms : AM} {x : Str}
theorem ok_gcd : OkC X rGcd bGcd := by
  intro E F ι S H ws vs Q R r h
  unfold bGcd at h
  split at h
  · cases r with | cons r1 r2 => cases r2 with | cons r2 r3 => cases r3 with | nil =>
    obtain rfl := r1.int_of; obtain rfl := r2.int_of
    exact ⟨_, _, rfl, h.ok R _ (.d (.int _))⟩
  · exact h.elim
theorem s_gcd (hm : X.mg x = some (.builtin "math.gcd")) (ha : SA X E [e, e2] ms) (hg : Gl X x := by rfl) (hdb : (x == ("__debug__" : Str)) = false := by decide) (he : starEach [e, e2] X.env = (false, eval e X.env) :: starEach [e2] X.env := by rfl) (hpl : (backTo pos (starEach [e2] X.env)).any (·.1) = false := by rfl) :
    SE X E (.Call (.Name x p) [e, e2] [] pos) (eCall bGcd ms) :=
  PE.le (pe_callBfun cr_gcd hg hm ha hdb he hpl) fun σ H Q h => call_le ok_gcd h
theorem bGcd_int {S : Sto} {a b : Int} : bGcd [.d (.int a), .d (.int b)] S = .ok (.d (.int ((Nat.gcd a.natAbs b.natAbs : Nat) : Int))) S := rfl
end
end Sh
end

section
/-! Sh: list(range(..)), tuple(range(..)). -/
namespace Sh
open PySem PySem.Spec PyProof.Rows L2
open Classical

def rgD (a b : Int) : List PyData := (List.range (b - a).toNat).map fun (i : Nat) => PyData.int (a + (i : Int))
theorem rds_rg {K : PySem.W.Frag} {F : FS} {H : Hp} {a : Int} : ∀ (l : List Nat), RDs K F H (l.map fun (i : Nat) => PyData.int (a + (i : Int))) (l.map fun (i : Nat) => V.int (a + (i : Int)))
  | [] => .nil
  | i :: r => .cons (.int _) (rds_rg r)
def RgIn (a b : Int) : Prop := RgOk a b
noncomputable instance {a b : Int} : Decidable (RgIn a b) := Classical.propDecidable _
noncomputable def rgR (k : List PyData → PyData) (x y : W) (S : Sto) : Out W := match x, y with
  | .d (.int a), .d (.int b) => if RgIn a b then .ok (.d (k (rgD a b))) S else .bad
  | _, _ => .bad
noncomputable def eRg1 (k : List PyData → PyData) (m : EM) : EM := fun ρ S => (m ρ S).bind fun y S1 => rgR k (.d (.int 0)) y S1
noncomputable def eRg2 (k : List PyData → PyData) (m1 m2 : EM) : EM := fun ρ S => (m1 ρ S).bind fun x S1 => (m2 ρ S1).bind fun y S2 => rgR k x y S2
section
variable {X : Cx} {E : EX} {pos p p2 pos2 : Pos} {e e2 : Expr} {m m2 : EM} {K : PySem.W.Frag} {F : FS} {ι : List Addr} {S : Sto} {H : Hp}
theorem rg_len {a b : Int} (h : RgOk a b) : (rgD a b).length ≤ sizeLine := by
  unfold rgD
  rw [List.length_map, List.length_range]
  exact h.2.2.2.2
theorem rg_l {E : XN} {x y : W} {v u : V} {Q : VK} (R : Rel K F ι S H) (rx : RW K F ι H x v) (ry : RW K F ι H y u) (h : Post K E F ι H (rgR .list x y S) fun F' ι' H' w _ => ∀ v, RW K F' ι' H' w v → Q v H') :
    ∃ i j, v = .int i ∧ u = .int j ∧ RgOk i j ∧ ∀ q, H q = none → Q (.ref q) (upd H q (.lst (rgV i j))) := by
  unfold rgR at h
  split at h
  · obtain rfl := rx.int_of; obtain rfl := ry.int_of
    split at h
    · rename_i hk
      refine ⟨_, _, rfl, rfl, hk, fun q nq => ?_⟩
      obtain ⟨x1, R1, r1⟩ := new_lst R nq (rds_rg (List.range _)) (rg_len hk)
      exact h _ _ _ x1 R1 _ r1
    · exact h.elim
  · exact h.elim
theorem rg_t {E : XN} {x y : W} {v u : V} {Q : VK} (R : Rel K F ι S H) (rx : RW K F ι H x v) (ry : RW K F ι H y u) (h : Post K E F ι H (rgR .tuple x y S) fun F' ι' H' w _ => ∀ v, RW K F' ι' H' w v → Q v H') :
    ∃ i j, v = .int i ∧ u = .int j ∧ RgOk i j ∧ ∀ q, H q = none → Q (.ref q) (upd H q (.tup (rgV i j))) := by
  unfold rgR at h
  split at h
  · obtain rfl := rx.int_of; obtain rfl := ry.int_of
    split at h
    · rename_i hk
      refine ⟨_, _, rfl, rfl, hk, fun q nq => ?_⟩
      obtain ⟨x1, R1, r1⟩ := new_tup (ws := (rgD _ _).map .d) R nq (RWs.ofD (rds_rg (List.range _))) (by rw [List.length_map]; exact rg_len hk)
      rw [mkTup_d] at r1
      exact h _ _ _ x1 R1 _ r1
    · exact h.elim
  · exact h.elim
theorem s_listRg1 (hc : X.calm = true) (hm : X.mg "list" = none) (hmr : X.mg "range" = none) (ha : SE X E e m) (hg : Gl X "list" := by rfl) (hgr : Gl X "range" := by rfl) (na : starEach [e] X.env = (false, eval e X.env) :: starEach [] X.env := by rfl)
    (nl : starEach [.Call (.Name "range" p2) [e] [] pos2] X.env = (false, eval (.Call (.Name "range" p2) [e] [] pos2) X.env) :: starEach [] X.env := by rfl) : SE X E (.Call (.Name "list" p) [.Call (.Name "range" p2) [e] [] pos2] [] pos) (eRg1 .list m) := by
  refine PE.le (pe_listRg hc hg hm (prg_1 hgr hmr ha na) nl) fun σ H Q h => ?_
  obtain ⟨F, ι, S, ρ, R, rs, h⟩ := h
  refine ⟨F, ι, S, ρ, R, rs, h.bind.imp fun F1 ι1 H1 w S1 x1 R1 h v r => ?_⟩
  obtain ⟨i, j, e1, e2, ok, q⟩ := rg_l R1 (.d (.int 0)) r h
  cases e1
  exact ⟨j, e2, ok, q⟩
theorem s_tupleRg1 (hc : X.calm = true) (hm : X.mg "tuple" = none) (hmr : X.mg "range" = none) (ha : SE X E e m) (hg : Gl X "tuple" := by rfl) (hgr : Gl X "range" := by rfl) (na : starEach [e] X.env = (false, eval e X.env) :: starEach [] X.env := by rfl)
    (nl : starEach [.Call (.Name "range" p2) [e] [] pos2] X.env = (false, eval (.Call (.Name "range" p2) [e] [] pos2) X.env) :: starEach [] X.env := by rfl) : SE X E (.Call (.Name "tuple" p) [.Call (.Name "range" p2) [e] [] pos2] [] pos) (eRg1 .tuple m) := by
  refine PE.le (pe_tupRg hc hg hm (prg_1 hgr hmr ha na) nl) fun σ H Q h => ?_
  obtain ⟨F, ι, S, ρ, R, rs, h⟩ := h
  refine ⟨F, ι, S, ρ, R, rs, h.bind.imp fun F1 ι1 H1 w S1 x1 R1 h v r => ?_⟩
  obtain ⟨i, j, e1, e2, ok, q⟩ := rg_t R1 (.d (.int 0)) r h
  cases e1
  exact ⟨j, e2, ok, q⟩
theorem s_tupleRg2 (hc : X.calm = true) (hm : X.mg "tuple" = none) (hmr : X.mg "range" = none) (ha : SE X E e m) (hb : SE X E e2 m2) (hg : Gl X "tuple" := by rfl) (hgr : Gl X "range" := by rfl) (na : starEach [e, e2] X.env = (false, eval e X.env) :: starEach [e2] X.env := by rfl) (nb : starEach [e2] X.env = (false, eval e2 X.env) :: starEach [] X.env := by rfl)
    (hpl : (backTo pos2 (starEach [e2] X.env)).any (·.1) = false := by rfl) (nl : starEach [.Call (.Name "range" p2) [e, e2] [] pos2] X.env = (false, eval (.Call (.Name "range" p2) [e, e2] [] pos2) X.env) :: starEach [] X.env := by rfl) : SE X E (.Call (.Name "tuple" p) [.Call (.Name "range" p2) [e, e2] [] pos2] [] pos) (eRg2 .tuple m m2) := by
  refine PE.le (pe_tupRg hc hg hm (prg_2 hgr hmr ha hb na nb hpl) nl) fun σ H Q h => ?_
  obtain ⟨F, ι, S, ρ, R, rs, h⟩ := h
  refine ⟨F, ι, S, ρ, R, rs, h.bind.imp fun F1 ι1 H1 w S1 x1 R1 h v r => ?_⟩
  refine ⟨F1, ι1, S1, ρ, R1, rs.ext x1, h.bind.imp fun F2 ι2 H2 w2 S2 x2 R2 h u r2 => ?_⟩
  obtain ⟨i, j, e1, e2, ok, q⟩ := rg_t R2 (r.ext x2) r2 h
  exact ⟨i, j, e1, e2, ok, q⟩
theorem s_listRg2 (hc : X.calm = true) (hm : X.mg "list" = none) (hmr : X.mg "range" = none) (ha : SE X E e m) (hb : SE X E e2 m2) (hg : Gl X "list" := by rfl) (hgr : Gl X "range" := by rfl) (na : starEach [e, e2] X.env = (false, eval e X.env) :: starEach [e2] X.env := by rfl) (nb : starEach [e2] X.env = (false, eval e2 X.env) :: starEach [] X.env := by rfl)
    (hpl : (backTo pos2 (starEach [e2] X.env)).any (·.1) = false := by rfl) (nl : starEach [.Call (.Name "range" p2) [e, e2] [] pos2] X.env = (false, eval (.Call (.Name "range" p2) [e, e2] [] pos2) X.env) :: starEach [] X.env := by rfl) : SE X E (.Call (.Name "list" p) [.Call (.Name "range" p2) [e, e2] [] pos2] [] pos) (eRg2 .list m m2) := by
  refine PE.le (pe_listRg hc hg hm (prg_2 hgr hmr ha hb na nb hpl) nl) fun σ H Q h => ?_
  obtain ⟨F, ι, S, ρ, R, rs, h⟩ := h
  refine ⟨F, ι, S, ρ, R, rs, h.bind.imp fun F1 ι1 H1 w S1 x1 R1 h v r => ?_⟩
  refine ⟨F1, ι1, S1, ρ, R1, rs.ext x1, h.bind.imp fun F2 ι2 H2 w2 S2 x2 R2 h u r2 => ?_⟩
  obtain ⟨i, j, e1, e2, ok, q⟩ := rg_l R2 (r.ext x2) r2 h
  exact ⟨i, j, e1, e2, ok, q⟩
end
end Sh
end

section
/-! Sh: two fors without effect. -/
namespace Sh
open PySem PySem.Spec PyProof.Rows L2
open Classical
section
variable {S : Sto} {ρ : Rho} {im im1 : IM} {g g1 : GM} {elt : EM} {vs vs1 : List Nat}
theorem lc2L_y {α β : Type} {grd : Sto → Prop} {ρ0 : Rho} (mk : α → W) (l1 : α → List β) (mk1 : β → W) (f : α → β → PyData) (hg : grd S) : ∀ (l : List α),
    (∀ x ∈ l, ∃ ρ1, g (mk x) ρ0 S = .ok ρ1 S ∧ im1 ρ1 S = .ok ⟨(l1 x).map mk1, fun _ => True⟩ S ∧ ∀ y ∈ l1 x, ∃ ρ2, g1 (mk1 y) (wipeR ρ1 vs1) S = .ok ρ2 S ∧ elt ρ2 S = .ok (.d (f x y)) S) →
    lc2L grd g bYes im1 g1 bYes elt vs1 ρ0 (l.map mk) S = .ok ((l.flatMap fun x => (l1 x).map (f x)).map W.d) S
  | [], _ => by simp [lc2L, hg]
  | x :: l, h => by
    obtain ⟨ρ1, e1, e2, e3⟩ := h x (by simp)
    have ih := lc2L_y mk l1 mk1 f hg l fun y hy => h y (by simp [hy])
    have e4 := lcL_d (grd := fun _ => True) (g := g1) (tt := bYes) (elt := elt) (ρ0 := wipeR ρ1 vs1) (S := S) mk1 (f x) (fun _ => true) trivial (l1 x) fun y hy => by
      obtain ⟨ρ2, q1, q2⟩ := e3 y hy
      exact ⟨ρ2, q1, rfl, fun _ => q2⟩
    rw [List.filter_eq_self.2 fun _ _ => rfl] at e4
    simp only [List.map_cons, lc2L, hg, if_true, e1, Out.bindB, bYes, e2, e4, ih, List.flatMap_cons, List.map_append]
theorem eLc2_y {α β : Type} (l : List α) (mk : α → W) (l1 : α → List β) (mk1 : β → W) (f : α → β → PyData) {grd : Sto → Prop} (him : im ρ S = .ok ⟨l.map mk, grd⟩ S) (hg : grd S) (hz : (l.flatMap fun x => (l1 x).map (f x)).length ≤ sizeLine)
    (h : ∀ x ∈ l, ∃ ρ1, g (mk x) (wipeR ρ vs) S = .ok ρ1 S ∧ im1 ρ1 S = .ok ⟨(l1 x).map mk1, fun _ => True⟩ S ∧ ∀ y ∈ l1 x, ∃ ρ2, g1 (mk1 y) (wipeR ρ1 vs1) S = .ok ρ2 S ∧ elt ρ2 S = .ok (.d (f x y)) S) :
    eLc2 im g bYes im1 g1 bYes elt vs vs1 ρ S = .ok (.d (.list (l.flatMap fun x => (l1 x).map (f x)))) S := by
  simp only [eLc2, him, Out.bind, lc2L_y mk l1 mk1 f hg l h, Out.bindB, List.length_map, hz, if_true, unD_map, Option.map_some, Out.ofO]
end
end Sh
end

section
/-! Sh: walks told place by place, rows of numbers, tries. -/
namespace Sh
open PySem PySem.Spec PyProof.Rows L2
open Classical
section
variable {α β : Type} {mk : α → W} {grd : Sto → Prop} {g : GM} {body : SM} {elt : EM} {tt : BM} {ρ0 ρ : Rho} {im : IM} {vs : List Nat} {S S1 : Sto}
/-- a loop told place by place -/
theorem forL_at : ∀ (l : List α) {Iv : Nat → Rho → Sto → Prop} (hg : ∀ k ρ S, Iv k ρ S → grd S) (h : ∀ j (hj : j < l.length) ρ S, Iv j ρ S → ∃ ρ1 S1, g (mk l[j]) ρ S = .ok ρ1 S1 ∧ ∃ ρ2 S2, (body ρ1 S1 = .ok (.nx ρ2) S2 ∨ body ρ1 S1 = .ok (.ct ρ2) S2) ∧ Iv (j + 1) ρ2 S2) (ρ : Rho) (S : Sto), Iv 0 ρ S →
    ∃ ρ' S', forL grd g body (l.map mk) ρ S = .ok (.nx ρ') S' ∧ Iv l.length ρ' S'
  | [], Iv, hg, h, ρ, S, hp => ⟨ρ, S, by simp [forL, hg 0 ρ S hp], hp⟩
  | x :: l, Iv, hg, h, ρ, S, hp => by
    obtain ⟨ρ1, S1, e1, ρ2, S2, e2, hp2⟩ := h 0 (by simp) ρ S hp
    obtain ⟨ρ', S', e3, hp3⟩ := forL_at l (Iv := fun k => Iv (k + 1)) (fun k => hg (k + 1)) (fun j hj => h (j + 1) (by simp only [List.length_cons]; omega)) ρ2 S2 hp2
    refine ⟨ρ', S', ?_, hp3⟩
    rw [List.getElem_cons_zero] at e1
    simp only [List.map_cons, forL, hg 0 ρ S hp, if_true, e1, exq, Out.bind]
    rcases e2 with e2 | e2 <;> simp only [e2] <;> exact e3
/-- over a range -/
theorem forL_rg {n : Nat} {mk : Nat → W} {Iv : Nat → Rho → Sto → Prop} (hg : ∀ k ρ S, Iv k ρ S → grd S) (h : ∀ j, j < n → ∀ ρ S, Iv j ρ S → ∃ ρ1 S1, g (mk j) ρ S = .ok ρ1 S1 ∧ ∃ ρ2 S2, (body ρ1 S1 = .ok (.nx ρ2) S2 ∨ body ρ1 S1 = .ok (.ct ρ2) S2) ∧ Iv (j + 1) ρ2 S2) (ρ : Rho) (S : Sto) (hp : Iv 0 ρ S) :
    ∃ ρ' S', forL grd g body ((List.range n).map mk) ρ S = .ok (.nx ρ') S' ∧ Iv n ρ' S' := by
  have := forL_at (mk := mk) (grd := grd) (g := g) (body := body) (List.range n) hg (fun j hj => by rw [List.getElem_range]; exact h j (by simpa using hj)) ρ S hp
  rwa [List.length_range] at this
/-- a list of what is made, told place by place -/
theorem lcL_at {enc : β → PyData} : ∀ (l : List α) {Iv : Nat → Sto → Prop} {Pe : Nat → β → Prop} (hg : ∀ k S, Iv k S → grd S) (h : ∀ j (hj : j < l.length) S, Iv j S → ∃ ρ' S1, g (mk l[j]) ρ0 S = .ok ρ' S1 ∧ ∃ y S3, elt ρ' S1 = .ok (.d (enc y)) S3 ∧ Pe j y ∧ Iv (j + 1) S3) (S : Sto), Iv 0 S →
    ∃ (ys : List β) (S' : Sto), lcL grd g bYes elt ρ0 (l.map mk) S = .ok ((ys.map enc).map .d) S' ∧ Iv l.length S' ∧ ys.length = l.length ∧ ∀ j (hj : j < ys.length), Pe j ys[j]
  | [], Iv, Pe, hg, h, S, hp => ⟨[], S, by simp [lcL, hg 0 S hp], hp, rfl, fun _ h => nomatch h⟩
  | x :: l, Iv, Pe, hg, h, S, hp => by
    obtain ⟨ρ', S1, e1, y, S3, e2, hy, hp2⟩ := h 0 (by simp) S hp
    obtain ⟨ys, S', e3, hp3, hl, ha⟩ := lcL_at l (enc := enc) (Iv := fun k => Iv (k + 1)) (Pe := fun k => Pe (k + 1)) (fun k => hg (k + 1)) (fun j hj => h (j + 1) (by simp only [List.length_cons]; omega)) S3 hp2
    refine ⟨y :: ys, S', ?_, hp3, by simp [hl], ?_⟩
    · rw [List.getElem_cons_zero] at e1
      simp only [List.map_cons, lcL, hg 0 S hp, if_true, e1, Out.bindB, bYes, e2, e3]
    · intro j hj
      cases j with
      | zero => exact hy
      | succ j => exact ha j (by simpa using hj)
theorem eLc_at {enc : β → PyData} (l : List α) {Iv : Nat → Sto → Prop} {Pe : Nat → β → Prop} (him : im ρ S = .ok ⟨l.map mk, grd⟩ S1) (hz : l.length ≤ sizeLine) (hp : Iv 0 S1) (hg : ∀ k S, Iv k S → grd S)
    (h : ∀ j (hj : j < l.length) S, Iv j S → ∃ ρ' S1, g (mk l[j]) (wipeR ρ vs) S = .ok ρ' S1 ∧ ∃ y S3, elt ρ' S1 = .ok (.d (enc y)) S3 ∧ Pe j y ∧ Iv (j + 1) S3) :
    ∃ (ys : List β) (S' : Sto), eLc im g bYes elt vs ρ S = .ok (.d (.list (ys.map enc))) S' ∧ Iv l.length S' ∧ ys.length = l.length ∧ ∀ j (hj : j < ys.length), Pe j ys[j] := by
  obtain ⟨ys, S', e, hp', hl, ha⟩ := lcL_at l hg h S1 hp
  exact ⟨ys, S', by simp only [eLc, him, Out.bind, List.length_map (as := l), hz, if_true, e, Out.bindB, unD_map, Option.map_some, Out.ofO], hp', hl, ha⟩
/-- a list of what is chosen, the draws counted -/
theorem lcL_fltN (f : α → PyData) {Pt : α → Prop} : ∀ (l : List α) {Iv : Nat → Sto → Prop} (hg : ∀ k S, Iv k S → grd S) (h : ∀ x ∈ l, ∀ k S, k < l.length → Iv k S → ∃ ρ' S1, g (mk x) ρ0 S = .ok ρ' S1 ∧ ∃ b S2, tt ρ' S1 = .ok b S2 ∧ Iv (k + 1) S2 ∧ (b = true → Pt x ∧ elt ρ' S2 = .ok (.d (f x)) S2)) (S : Sto), Iv 0 S →
    ∃ (l' : List α) (S' : Sto), l'.Sublist l ∧ (∀ x ∈ l', Pt x) ∧ lcL grd g tt elt ρ0 (l.map mk) S = .ok ((l'.map f).map .d) S' ∧ Iv l.length S'
  | [], Iv, hg, h, S, hp => ⟨[], S, .slnil, fun _ h => (nomatch h), by simp [lcL, hg 0 S hp], hp⟩
  | x :: l, Iv, hg, h, S, hp => by
    obtain ⟨ρ', S1, e1, b, S2, e2, hp2, hb⟩ := h x (by simp) 0 S (by simp) hp
    obtain ⟨l', S', hs, hP, e3, hp3⟩ := lcL_fltN f l (Iv := fun k => Iv (k + 1)) (fun k => hg (k + 1)) (fun y hy k S hk => h y (by simp [hy]) (k + 1) S (by simp only [List.length_cons]; omega)) S2 hp2
    cases b with
    | true =>
      refine ⟨x :: l', S', hs.cons₂ x, ?_, by simp only [List.map_cons, lcL, hg 0 S hp, if_true, e1, Out.bindB, e2, (hb rfl).2, e3], hp3⟩
      intro y hy
      rcases List.mem_cons.1 hy with rfl | hy
      · exact (hb rfl).1
      · exact hP y hy
    | false => exact ⟨l', S', hs.cons x, hP, by simp only [List.map_cons, lcL, hg 0 S hp, if_true, e1, Out.bindB, e2, Bool.false_eq_true, if_false, e3], hp3⟩
theorem eLc_fltN (f : α → PyData) {Pt : α → Prop} (l : List α) {Iv : Nat → Sto → Prop} (him : im ρ S = .ok ⟨l.map mk, grd⟩ S1) (hz : l.length ≤ sizeLine) (hp : Iv 0 S1) (hg : ∀ k S, Iv k S → grd S)
    (h : ∀ x ∈ l, ∀ k S, k < l.length → Iv k S → ∃ ρ' S1, g (mk x) (wipeR ρ vs) S = .ok ρ' S1 ∧ ∃ b S2, tt ρ' S1 = .ok b S2 ∧ Iv (k + 1) S2 ∧ (b = true → Pt x ∧ elt ρ' S2 = .ok (.d (f x)) S2)) :
    ∃ (l' : List α) (S' : Sto), l'.Sublist l ∧ (∀ x ∈ l', Pt x) ∧ eLc im g tt elt vs ρ S = .ok (.d (.list (l'.map f))) S' ∧ Iv l.length S' := by
  obtain ⟨l', S', hs, hP, e, hp'⟩ := lcL_fltN f l hg h S1 hp
  exact ⟨l', S', hs, hP, by simp only [eLc, him, Out.bind, List.length_map (as := l), hz, if_true, e, Out.bindB, unD_map, Option.map_some, Out.ofO], hp'⟩
end

/-! ### statements -/
section
variable {S : Sto} {ρ : Rho}
theorem cAug_ap {i : Nat} {f : Op2} {m : EM} : cAug i f m ρ S = match ρ[i]? with
  | some (some w) => exq ρ (m ρ S) fun y S1 => exq ρ (f w y S1) fun z S2 => .ok (.nx (ρ.set i (some z))) S2
  | _ => .bad := rfl
theorem opMulI_int {a b : Int} (h : CMul a b) : opMulI (.d (.int a)) (.d (.int b)) S = .ok (.d (.int (a * b))) S := if_pos h
theorem opAddI_int {a b : Int} : opAddI (.d (.int a)) (.d (.int b)) S = .ok (.d (.int (a + b))) S := rfl
theorem cRaise_ap {n : Str} : cRaise n ρ S = .ok (.ex ⟨n, none⟩ ρ) S := rfl
theorem cTry_ap {sub : Str → Str → Option Bool} {body : SM} {hs : List (Str × SM)} : cTry sub body hs ρ S = (body ρ S).bind fun fl S1 => match fl with
  | .ex e ρ1 => catchL sub e ρ1 S1 hs
  | o => .ok o S1 := rfl
theorem callP_x {f : FM} {ws : List W} {n : Str} {S' : Sto} (h : f ws [] = .exc ⟨n, none⟩ S') (hw : ws.all isD = true := by rfl) : callP f ws S = .exc ⟨n, none⟩ S := by
  simp [callP, hw, h]
end

/-! ### rows of numbers -/
abbrev nI (k : Nat) : PyData := .int (k : Int)
abbrev nT (r : List Nat) : PyData := .tuple (r.map nI)
abbrev nL (r : List Nat) : PyData := .list (r.map nI)
abbrev nTT (rs : List (List Nat)) : PyData := .tuple (rs.map nT)
section
variable {S : Sto} {r : List Nat} {rs : List (List Nat)} {k : Nat} {i : Int}
theorem getD_nI (h : k < r.length) : (r.map nI).getD k .none = .int (r.getD k 0 : Nat) := by simp [List.getD_eq_getElem?_getD, h]
theorem getD_nT (h : k < rs.length) : (rs.map nT).getD k .none = nT (rs.getD k []) := by simp [List.getD_eq_getElem?_getD, h]
theorem atI_nI (h : k < r.length) : atI (r.map nI) (k : Int) = some (.int (r.getD k 0 : Nat)) := by rw [atI_getD (by simpa using h), getD_nI h]
theorem atI_nT (h : k < rs.length) : atI (rs.map nT) (k : Int) = some (nT (rs.getD k [])) := by rw [atI_getD (by simpa using h), getD_nT h]
theorem atI_nI' (e : i = (k : Int)) (h : k < r.length) : atI (r.map nI) i = some (.int (r.getD k 0 : Nat)) := e ▸ atI_nI h
theorem atI_nT' (e : i = (k : Int)) (h : k < rs.length) : atI (rs.map nT) i = some (nT (rs.getD k [])) := e ▸ atI_nT h
theorem ix_nT (h : k < r.length) : opIx (.d (nT r)) (.d (.int (k : Int))) S = .ok (.d (.int (r.getD k 0 : Nat))) S := opIx_tup (atI_nI h)
theorem ix_nL (h : k < r.length) : opIx (.d (nL r)) (.d (.int (k : Int))) S = .ok (.d (.int (r.getD k 0 : Nat))) S := opIx_list (atI_nI h)
theorem ix_nTT (h : k < rs.length) : opIx (.d (nTT rs)) (.d (.int (k : Int))) S = .ok (.d (nT (rs.getD k []))) S := opIx_tup (atI_nT h)
theorem leaf_nI {n : Nat} : sm n (nI k) = true := sm_leaf rfl
theorem tm_nI {n : Nat} : tm n (nI k) = true := tm_leaf rfl
theorem sq_nI {n : Nat} (h : r.length ≤ k) : Sq n k (r.map nI) := ⟨by simpa using h, fun x hx => by obtain ⟨j, _, rfl⟩ := List.mem_map.1 hx; exact leaf_nI⟩
theorem sm_nT {n : Nat} (h : r.length ≤ 1000) : sm (n + 1) (nT r) = true := sm_tup.2 ⟨by simpa using h, (sq_nI (n := n) h).2⟩
theorem sm_nTT {n : Nat} (h : rs.length ≤ 1000) (h2 : ∀ r ∈ rs, r.length ≤ 1000) : sm (n + 2) (nTT rs) = true := sm_tup.2 ⟨by simpa using h, fun x hx => by obtain ⟨r, hr, rfl⟩ := List.mem_map.1 hx; exact sm_nT (h2 r hr)⟩
theorem tm_nT {n : Nat} (h : r.length ≤ 1000) : tm (n + 1) (nT r) = true := tm_tup.2 ⟨by simpa using h, fun x hx => by obtain ⟨j, _, rfl⟩ := List.mem_map.1 hx; exact tm_nI⟩
theorem tm_nTT {n : Nat} (h : rs.length ≤ 1000) (h2 : ∀ r ∈ rs, r.length ≤ 1000) : tm (n + 2) (nTT rs) = true := tm_tup.2 ⟨by simpa using h, fun x hx => by obtain ⟨r, hr, rfl⟩ := List.mem_map.1 hx; exact tm_nT (h2 r hr)⟩
theorem map_nI_range {n : Nat} {ys : List PyData} (h : ys = r.map nI) : (r.map nI).length = r.length := by simp
theorem zipIdx_nT : (rs.map nT).zipIdx = (List.range rs.length).map fun k => (nT (rs.getD k []), k) := by
  rw [zipIdx_range, List.length_map]
  refine List.map_congr_left fun k hk => ?_
  rw [getD_nT (by simpa using hk)]
theorem zipIdx_nI : (r.map nI).zipIdx = (List.range r.length).map fun k => (nI (r.getD k 0), k) := by
  rw [zipIdx_range, List.length_map]
  refine List.map_congr_left fun k hk => ?_
  rw [getD_nI (by simpa using hk)]
theorem iEn_nTT {ρ : Rho} {ms : AM} (h : ms ρ S = .ok [.d (nTT rs)] S) : iEn ms ρ S = .ok ⟨(List.range rs.length).map fun (k : Nat) => W.d (.tuple [.int (k : Int), nT (rs.getD k [])]), fun _ => True⟩ S := by
  rw [iEn_tup h, zipIdx_nT, List.map_map]; rfl
theorem iEn_nL {ρ : Rho} {ms : AM} (h : ms ρ S = .ok [.d (nL r)] S) : iEn ms ρ S = .ok ⟨(List.range r.length).map fun (k : Nat) => W.d (.tuple [.int (k : Int), nI (r.getD k 0)]), fun _ => True⟩ S := by
  rw [iEn_list h, zipIdx_nI, List.map_map]; rfl
theorem iSq_nT {ρ : Rho} {m : EM} (h : m ρ S = .ok (.d (nT r)) S) : iSq m ρ S = .ok ⟨r.map fun (k : Nat) => W.d (.int (k : Int)), fun _ => True⟩ S := by rw [iSq_tup h, List.map_map]; rfl
theorem iSq_nL {ρ : Rho} {m : EM} (h : m ρ S = .ok (.d (nL r)) S) : iSq m ρ S = .ok ⟨r.map fun (k : Nat) => W.d (.int (k : Int)), fun _ => True⟩ S := by rw [iSq_list h, List.map_map]; rfl
theorem iSq_LT {ρ : Rho} {m : EM} (h : m ρ S = .ok (.d (.list (rs.map nT))) S) : iSq m ρ S = .ok ⟨rs.map fun r => W.d (nT r), fun _ => True⟩ S := by rw [iSq_list h, List.map_map]; rfl
theorem iSq_nTT {ρ : Rho} {m : EM} (h : m ρ S = .ok (.d (nTT rs)) S) : iSq m ρ S = .ok ⟨rs.map fun r => W.d (nT r), fun _ => True⟩ S := by rw [iSq_tup h, List.map_map]; rfl
theorem intsD_nI : intsD (r.map nI) = some (r.map fun (k : Nat) => (k : Int)) := by
  induction r with
  | nil => rfl
  | cons x r ih => simp only [List.map_cons, intsD, ih]; rfl
end
end Sh
end

section
/-! Sh: sorted(set(xs)) of tuples of ints. -/
namespace Sh
open PySem PySem.Spec PyProof.Rows L2
open Classical
def tupsD : List PyData → Option (List (List Int))
  | [] => some []
  | .tuple xs :: r => match intsD xs, tupsD r with
    | some k, some ks => some (k :: ks)
    | _, _ => none
  | _ => none
abbrev tZ (k : List Int) : PyData := .tuple (k.map .int)
theorem tupsD_eq : ∀ {xs : List PyData} {ks : List (List Int)}, tupsD xs = some ks → xs = ks.map tZ
  | [], ks, h => by cases h; rfl
  | x :: r, ks, h => by
    cases x <;> simp only [tupsD] at h <;> try cases h
    rename_i ys
    split at h
    · rename_i k ks' q1 q2
      cases h
      rw [intsD_eq q1, tupsD_eq q2]; rfl
    · cases h
theorem tupsD_map : ∀ {ks : List (List Int)}, tupsD (ks.map tZ) = some ks
  | [] => rfl
  | k :: ks => by simp only [List.map_cons, tupsD, intsD_map, tupsD_map (ks := ks)]
/-- strictly ascending, with just the members of ks -/
def Srt (ks ys : List (List Int)) : Prop := ys.Pairwise (fun a b => HT.lexLt a b = true) ∧ ∀ k, k ∈ ys ↔ k ∈ ks
noncomputable def srtT (ks : List (List Int)) : List (List Int) := if h : ∃ ys, Srt ks ys then h.choose else []
theorem lex_irr : ∀ {a : List Int}, HT.lexLt a a = false
  | [] => rfl
  | x :: a => by rw [HT.lexLt_cons, if_pos rfl]; exact lex_irr
theorem lex_asym : ∀ {a b : List Int}, HT.lexLt a b = true → HT.lexLt b a = true → False
  | [], [], h, _ => by cases h
  | [], _ :: _, _, h => by cases h
  | _ :: _, [], h, _ => by cases h
  | x :: a, y :: b, h, g => by
    rw [HT.lexLt_cons] at h g
    by_cases e : x = y
    · subst e
      rw [if_pos rfl] at h g
      exact lex_asym h g
    · rw [if_neg e] at h
      rw [if_neg (Ne.symm e)] at g
      simp only [decide_eq_true_eq] at h g
      omega
theorem asc_uniq {α : Type} {r : α → α → Prop} (irr : ∀ a, ¬ r a a) (asym : ∀ a b, r a b → ¬ r b a) : ∀ {xs ys : List α}, xs.Pairwise r → ys.Pairwise r → (∀ k, k ∈ xs ↔ k ∈ ys) → xs = ys
  | [], [], _, _, _ => rfl
  | [], y :: ys, _, _, h => absurd ((h y).2 (by simp)) (by simp)
  | x :: xs, [], _, _, h => absurd ((h x).1 (by simp)) (by simp)
  | x :: xs, y :: ys, hx, hy, h => by
    rw [List.pairwise_cons] at hx hy
    have e : x = y := by
      rcases List.mem_cons.1 ((h x).1 (by simp)) with e | h1
      · exact e
      · rcases List.mem_cons.1 ((h y).2 (by simp)) with e | h2
        · exact e.symm
        · exact absurd (hx.1 y h2) (asym _ _ (hy.1 x h1))
    subst e
    rw [asc_uniq irr asym hx.2 hy.2 fun k => ?_]
    constructor
    · intro hk
      rcases List.mem_cons.1 ((h k).1 (by simp [hk])) with e | h1
      · subst e; exact absurd (hx.1 _ hk) (irr _)
      · exact h1
    · intro hk
      rcases List.mem_cons.1 ((h k).2 (by simp [hk])) with e | h1
      · subst e; exact absurd (hy.1 _ hk) (irr _)
      · exact h1
theorem srt_uniq {ks xs ys : List (List Int)} (h : Srt ks xs) (g : Srt ks ys) : xs = ys :=
  asc_uniq (fun a h => by rw [lex_irr] at h; cases h) (fun a b h g => lex_asym h g) h.1 g.1 fun k => (h.2 k).trans (g.2 k).symm
theorem srtT_eq {ks ys : List (List Int)} (h : Srt ks ys) : srtT ks = ys := by
  have e : ∃ ys, Srt ks ys := ⟨ys, h⟩
  unfold srtT
  rw [dif_pos e]
  exact srt_uniq e.choose_spec h
theorem code_lex {B : Int} : ∀ {a b : List Int}, a.length = b.length → TS.Bd B a → TS.Bd B b → (TS.code B a < TS.code B b ↔ HT.lexLt a b = true)
  | [], [], _, _, _ => by simp [TS.code, HT.lexLt]
  | [], _ :: _, h, _, _ => by simp at h
  | _ :: _, [], h, _, _ => by simp at h
  | x :: a, y :: b, h, ha, hb => by
    have h' : a.length = b.length := by simpa using h
    rw [HT.lexLt_cons]
    by_cases e : x = y
    · subst e
      rw [if_pos rfl, TS.code_same h']
      exact code_lex h' ha.tail hb.tail
    · rw [if_neg e, decide_eq_true_eq]
      constructor
      · intro hc
        rcases Int.lt_trichotomy x y with q | q | q
        · exact q
        · exact absurd q e
        · have := TS.code_lt h'.symm hb.tail ha.tail q
          omega
      · exact fun q => TS.code_lt h' ha.tail hb.tail q
theorem code_eq {B : Int} : ∀ {a b : List Int}, a.length = b.length → TS.Bd B a → TS.Bd B b → TS.code B a = TS.code B b → a = b
  | [], [], _, _, _, _ => rfl
  | [], _ :: _, h, _, _, _ => by simp at h
  | _ :: _, [], h, _, _, _ => by simp at h
  | x :: a, y :: b, h, ha, hb, hc => by
    have h' : a.length = b.length := by simpa using h
    rcases Int.lt_trichotomy x y with q | q | q
    · have := TS.code_lt h' ha.tail hb.tail q; omega
    · subst q
      have e : TS.code B a = TS.code B b := by
        have h1 : ¬ TS.code B a < TS.code B b := fun z => by have := (TS.code_same (B := B) (d := x) h').2 z; omega
        have h2 : ¬ TS.code B b < TS.code B a := fun z => by have := (TS.code_same (B := B) (d := x) h'.symm).2 z; omega
        omega
      rw [code_eq h' ha.tail hb.tail e]
    · have := TS.code_lt h'.symm hb.tail ha.tail q; omega
def SortOk (ks : List (List Int)) : Prop := ks.length < 64 ∧ ∃ (d : Nat) (B : Int), 1 ≤ d ∧ ∀ k ∈ ks, k.length = d ∧ TS.Bd B k
noncomputable def bSortSet : CF := fun ws S => match ws with
  | [.d (.list xs)] => match tupsD xs with
    | some ks => if SortOk ks then .ok (.d (.list ((srtT ks).map tZ))) S else .bad
    | none => .bad
  | _ => .bad
theorem exists_srt {d : Nat} {B : Int} : ∀ {ks : List (List Int)}, (∀ k ∈ ks, k.length = d ∧ TS.Bd B k) → ∃ ys, Srt ks ys
  | [], _ => ⟨[], .nil, fun _ => Iff.rfl⟩
  | k :: ks, h => by
    obtain ⟨ys, h1, h2⟩ := exists_srt (ks := ks) fun x hx => h x (by simp [hx])
    have hk := h k (by simp)
    have hy : ∀ y ∈ ys, y.length = d ∧ TS.Bd B y := fun y hy => h y (by simp [(h2 y).1 hy])
    refine ⟨ys.filter (fun y => HT.lexLt y k) ++ k :: ys.filter (fun y => HT.lexLt k y), ?_, fun x => ?_⟩
    · rw [List.pairwise_append, List.pairwise_cons]
      refine ⟨h1.filter _, ⟨fun y hy => (List.mem_filter.1 hy).2, h1.filter _⟩, fun a ha b hb => ?_⟩
      rw [List.mem_filter] at ha
      rcases List.mem_cons.1 hb with rfl | hb
      · exact ha.2
      · rw [List.mem_filter] at hb
        have l1 := (code_lex ((hy a ha.1).1.trans hk.1.symm) (hy a ha.1).2 hk.2).2 ha.2
        have l2 := (code_lex (hk.1.trans (hy b hb.1).1.symm) hk.2 (hy b hb.1).2).2 hb.2
        exact (code_lex ((hy a ha.1).1.trans (hy b hb.1).1.symm) (hy a ha.1).2 (hy b hb.1).2).1 (by omega)
    · rw [List.mem_append, List.mem_cons, List.mem_filter, List.mem_filter, List.mem_cons]
      constructor
      · rintro (h | h | h)
        · exact .inr ((h2 x).1 h.1)
        · exact .inl h
        · exact .inr ((h2 x).1 h.1)
      · rintro (h | h)
        · exact .inr (.inl h)
        · have hx := (h2 x).2 h
          have hxb := hy x hx
          rcases Int.lt_trichotomy (TS.code B x) (TS.code B k) with q | q | q
          · exact .inl ⟨hx, (code_lex (hxb.1.trans hk.1.symm) hxb.2 hk.2).1 q⟩
          · exact .inr (.inl (code_eq (hxb.1.trans hk.1.symm) hxb.2 hk.2 q))
          · exact .inr (.inr ⟨hx, (code_lex (hk.1.trans hxb.1.symm) hk.2 hxb.2).1 q⟩)
theorem srtT_spec {d : Nat} {B : Int} {ks : List (List Int)} (h : ∀ k ∈ ks, k.length = d ∧ TS.Bd B k) : Srt ks (srtT ks) := by
  obtain ⟨ys, hy⟩ := exists_srt h
  rw [srtT_eq hy]; exact hy
section
variable {K : PySem.W.Frag} {F : FS} {ι : List Addr} {H : Hp}
theorem RDs.tups : ∀ {ks : List (List Int)} {us : List V}, RDs K F H (ks.map tZ) us → ∃ ps : List (Addr × List Int), us = ps.map (fun p => V.ref p.1) ∧ ps.map (·.2) = ks ∧ ∀ p ∈ ps, StT K F H p.1 (p.2.map V.int)
  | [], _, h => by cases h; exact ⟨[], rfl, rfl, fun _ h => nomatch h⟩
  | k :: ks, _, h => by
    cases h with | cons h1 h2 =>
    obtain ⟨ps, rfl, rfl, h3⟩ := RDs.tups h2
    cases h1 with | tup st rr =>
    have e := rr.ints; subst e
    refine ⟨(_, k) :: ps, rfl, rfl, fun p hp => ?_⟩
    rcases List.mem_cons.1 hp with rfl | hp
    · exact st
    · exact h3 p hp
theorem RDs.ofInts : ∀ {ns : List Int}, RDs K F H (ns.map .int) (ns.map V.int)
  | [] => .nil
  | n :: ns => .cons (.int n) RDs.ofInts
theorem RDs.ofTups : ∀ {ps : List (Addr × List Int)}, (∀ p ∈ ps, StT K F H p.1 (p.2.map V.int)) → RDs K F H (ps.map fun p => tZ p.2) (ps.map fun p => V.ref p.1)
  | [], _ => .nil
  | p :: ps, h => .cons (.tup (h p (by simp)) RDs.ofInts) (RDs.ofTups fun q hq => h q (by simp [hq]))
end
section
variable {X : Cx} {E : EX} {pos pos2 p p2 : Pos} {e : Expr} {ms : AM}
theorem s_sortSet (hc : X.calm = true) (hu : X.A.units + 64 < cLine) (hm : X.mg "sorted" = none) (hm2 : X.mg "set" = none) (ha : SA X E [e] ms) (hg : Gl X "sorted" := by rfl) (hg2 : Gl X "set" := by rfl)
    (he : starEach [e] X.env = (false, eval e X.env) :: starEach [] X.env := by rfl) (hpl : (backTo pos2 (starEach [] X.env)).any (·.1) = false := by rfl)
    (he2 : starEach [.Call (.Name "set" p2) [e] [] pos2] X.env = (false, eval (.Call (.Name "set" p2) [e] [] pos2) X.env) :: starEach [] X.env := by rfl) (hpl2 : (backTo pos (starEach [] X.env)).any (·.1) = false := by rfl) :
    SE X E (.Call (.Name "sorted" p) [.Call (.Name "set" p2) [e] [] pos2] [] pos) (eCall bSortSet ms) := by
  refine PE.le (pe_callB (cr_sortedT hc) hg hm (by decide +kernel) (pa_cons (pe_callTy (cr_setOfT hc hu) hg2 hm2 (by decide +kernel) ha (by decide) (by decide) he hpl) pa_nil he2) (by decide) (by decide) he2 hpl2) fun σ H Q h => ?_
  obtain ⟨F, ι, S, ρ, R, rs, h⟩ := h
  refine ⟨F, ι, S, ρ, R, rs, h.bind.imp fun F1 ι1 H1 ws S1 x1 R1 h vs r => ?_⟩
  unfold bSortSet at h
  split at h
  · split at h
    · rename_i ks q
      split at h
      · rename_i hs
        obtain ⟨v, rfl, r'⟩ := r.one
        obtain ⟨a, us, rfl, st, rr⟩ := r'.lst_of
        rw [tupsD_eq q] at rr
        obtain ⟨ps, rfl, e2, h3⟩ := rr.tups
        obtain ⟨hl, d, B, hd, hB⟩ := hs
        subst e2
        refine ⟨a, ps, rfl, st.now, fun p hp => (h3 p hp).now, by simpa using hl, fun z L hz hsub hall => ?_⟩
        have xz := Ext.lay (F := F1) (ι := ι1) (o := SetTO X.prog X.w z L) hz
        have Rz : Rel X.K F1 ι1 S1 (upd H1 z (SetTO X.prog X.w z L)) := R1.wr0 (fun f => R1.ft z f hz) fun f => R1.there f hz
        refine ⟨z, L, d, B, rfl, upd_same, fun p hp => ((h3 p (hsub p hp)).ext xz).now, hd, fun p hp => hB _ (List.mem_map.2 ⟨p, hsub p hp, rfl⟩), fun L' y hperm hnd hl' hpw hy => ?_⟩
        have hL : ∀ p ∈ L', p ∈ ps := fun p hp => hsub p (hperm.mem_iff.1 hp)
        have hb : ∀ p ∈ L', p.2.length = d ∧ TS.Bd B p.2 := fun p hp => hB _ (List.mem_map.2 ⟨p, hL p hp, rfl⟩)
        have hsrt : Srt (ps.map (·.2)) (L'.map (·.2)) := by
          refine ⟨?_, fun k => ⟨fun hk => ?_, fun hk => ?_⟩⟩
          · rw [List.pairwise_map]
            rw [List.nodup_iff_pairwise_ne, List.pairwise_map] at hnd
            refine (hpw.and hnd).imp_of_mem fun {q r} hq hr hqr => ?_
            have l1 := (hb q hq).1.trans (hb r hr).1.symm
            refine (code_lex l1 (hb q hq).2 (hb r hr).2).1 ?_
            have : TS.code B q.2 ≠ TS.code B r.2 := fun e => hqr.2 (code_eq l1 (hb q hq).2 (hb r hr).2 e)
            have := hqr.1
            omega
          · obtain ⟨p, hp, rfl⟩ := List.mem_map.1 hk
            exact List.mem_map.2 ⟨p, hL p hp, rfl⟩
          · obtain ⟨p, hp, rfl⟩ := List.mem_map.1 hk
            obtain ⟨p', hp', e⟩ := List.mem_map.1 (hall p hp)
            exact List.mem_map.2 ⟨p', hperm.mem_iff.2 hp', e⟩
        rw [srtT_eq hsrt, List.map_map] at h
        obtain ⟨x2, R2, r2⟩ := new_lst (xs := L'.map fun p => tZ p.2) Rz hy (RDs.ofTups fun p hp => (h3 p (hL p hp)).ext xz) (by rw [List.length_map]; exact Nat.le_trans (Nat.le_of_lt hl') (by decide))
        exact h _ _ _ (xz.trans x2) R2 _ r2
      · exact h.elim
    · exact h.elim
  · exact h.elim
end
end Sh
end

section
/-! Sh: walks that end with the first that is found; two fors with a test; more of rows of numbers. -/
namespace Sh
open PySem PySem.Spec PyProof.Rows L2
open Classical
section
variable {α β : Type} {mk : α → W} {grd : Sto → Prop} {g : GM} {body : SM}
theorem forL_find {S : Sto} {r : α → Option W} {P : Rho → Prop} (hg : grd S) : ∀ (l : List α), (∀ x ∈ l, ∀ ρ, P ρ → ∃ ρ1, g (mk x) ρ S = .ok ρ1 S ∧ (∀ w, r x = some w → body ρ1 S = .ok (.rt w) S) ∧ (r x = none → ∃ ρ2, (body ρ1 S = .ok (.nx ρ2) S ∨ body ρ1 S = .ok (.ct ρ2) S) ∧ P ρ2)) →
    ∀ ρ, P ρ → (∀ w, l.findSome? r = some w → forL grd g body (l.map mk) ρ S = .ok (.rt w) S) ∧ (l.findSome? r = none → ∃ ρ', P ρ' ∧ forL grd g body (l.map mk) ρ S = .ok (.nx ρ') S)
  | [], _, ρ, hp => ⟨fun w h => by simp at h, fun _ => ⟨ρ, hp, by simp [forL, hg]⟩⟩
  | x :: l, h, ρ, hp => by
    obtain ⟨ρ1, e1, hs, hn⟩ := h x (by simp) ρ hp
    simp only [List.map_cons, forL, hg, if_true, e1, exq, Out.bind, List.findSome?_cons]
    cases q : r x with
    | some w0 =>
      simp only [hs w0 q]
      exact ⟨fun w e => by cases e; rfl, fun e => nomatch e⟩
    | none =>
      obtain ⟨ρ2, e2, hp2⟩ := hn q
      have ih := forL_find hg l (fun y hy => h y (by simp [hy])) ρ2 hp2
      rcases e2 with e2 | e2 <;> simp only [e2] <;> exact ih
theorem findSome_if {p : α → Bool} {f : α → β} {l : List α} : (l.findSome? fun x => if p x = true then some (f x) else none) = (l.find? p).map f := by
  induction l with
  | nil => rfl
  | cons x l ih =>
    rw [List.findSome?_cons, List.find?_cons]
    cases p x <;> simp [ih]
end
section
variable {S : Sto} {ρ : Rho} {im im1 : IM} {g g1 : GM} {tt1 : BM} {elt : EM} {vs vs1 : List Nat}
theorem lc2L_d {α β : Type} {grd : Sto → Prop} {ρ0 : Rho} (mk : α → W) (l1 : α → List β) (mk1 : β → W) (t1 : α → β → Bool) (f : α → β → PyData) (hg : grd S) : ∀ (l : List α),
    (∀ x ∈ l, ∃ ρ1, g (mk x) ρ0 S = .ok ρ1 S ∧ im1 ρ1 S = .ok ⟨(l1 x).map mk1, fun _ => True⟩ S ∧ ∀ y ∈ l1 x, ∃ ρ2, g1 (mk1 y) (wipeR ρ1 vs1) S = .ok ρ2 S ∧ tt1 ρ2 S = .ok (t1 x y) S ∧ (t1 x y = true → elt ρ2 S = .ok (.d (f x y)) S)) →
    lc2L grd g bYes im1 g1 tt1 elt vs1 ρ0 (l.map mk) S = .ok ((l.flatMap fun x => ((l1 x).filter (t1 x)).map (f x)).map W.d) S
  | [], _ => by simp [lc2L, hg]
  | x :: l, h => by
    obtain ⟨ρ1, e1, e2, e3⟩ := h x (by simp)
    have ih := lc2L_d mk l1 mk1 t1 f hg l fun y hy => h y (by simp [hy])
    have e4 := lcL_d (grd := fun _ => True) (g := g1) (tt := tt1) (elt := elt) (ρ0 := wipeR ρ1 vs1) (S := S) mk1 (f x) (t1 x) trivial (l1 x) e3
    simp only [List.map_cons, lc2L, hg, if_true, e1, Out.bindB, bYes, e2, e4, ih, List.flatMap_cons, List.map_append]
theorem eLc2_d {α β : Type} (l : List α) (mk : α → W) (l1 : α → List β) (mk1 : β → W) (t1 : α → β → Bool) (f : α → β → PyData) {grd : Sto → Prop} (him : im ρ S = .ok ⟨l.map mk, grd⟩ S) (hg : grd S) (hz : (l.flatMap fun x => ((l1 x).filter (t1 x)).map (f x)).length ≤ sizeLine)
    (h : ∀ x ∈ l, ∃ ρ1, g (mk x) (wipeR ρ vs) S = .ok ρ1 S ∧ im1 ρ1 S = .ok ⟨(l1 x).map mk1, fun _ => True⟩ S ∧ ∀ y ∈ l1 x, ∃ ρ2, g1 (mk1 y) (wipeR ρ1 vs1) S = .ok ρ2 S ∧ tt1 ρ2 S = .ok (t1 x y) S ∧ (t1 x y = true → elt ρ2 S = .ok (.d (f x y)) S)) :
    eLc2 im g bYes im1 g1 tt1 elt vs vs1 ρ S = .ok (.d (.list (l.flatMap fun x => ((l1 x).filter (t1 x)).map (f x)))) S := by
  simp only [eLc2, him, Out.bind, lc2L_d mk l1 mk1 t1 f hg l h, Out.bindB, List.length_map, hz, if_true, unD_map, Option.map_some, Out.ofO]
end
section
variable {S : Sto} {r s : List Nat} {x : Nat}
theorem eqI {a b : Nat} : ((a : Int) == (b : Int)) = decide (a = b) := by rw [Bool.eq_iff_iff]; simp; omega
theorem any_nI {r : List Nat} {p : Nat} : ((r.map nI).any fun z => PyData.eqv z (.int (p : Int))) = decide (p ∈ r) := by
  rw [Bool.eq_iff_iff]
  simp only [List.any_eq_true, List.mem_map, decide_eq_true_eq]
  constructor
  · rintro ⟨_, ⟨k, hk, rfl⟩, e⟩
    have : k = p := by simp [PyData.eqv] at e; omega
    exact this ▸ hk
  · intro h
    exact ⟨_, ⟨p, h, rfl⟩, by simp [PyData.eqv]⟩
theorem in_nT (h : r.length ≤ 1000) : opIn false (.d (.int (x : Int))) (.d (nT r)) S = .ok (.d (.bool (decide (x ∈ r)))) S := by
  have hs : shp (.int (x : Int)) (nT r) := ⟨rfl, sm_shaped (n := 1) (sm_nT h) (by decide)⟩
  simp only [opIn, if_pos hs, any_nI, Bool.false_bne]
theorem notin_nT (h : r.length ≤ 1000) : opIn true (.d (.int (x : Int))) (.d (nT r)) S = .ok (.d (.bool (!decide (x ∈ r)))) S := by
  have hs : shp (.int (x : Int)) (nT r) := ⟨rfl, sm_shaped (n := 1) (sm_nT h) (by decide)⟩
  simp only [opIn, if_pos hs, any_nI, Bool.true_bne]
theorem eq_nil_nT (h : r.length ≤ 1000) : opEq (.d (nT r)) (.d (.tuple [])) S = .ok (.d (.bool r.isEmpty)) S := by
  rw [opEq_sh (n := 1) (m := 1) (sm_nT h) rfl, eqv_tnil, List.isEmpty_map]
theorem atI_last {α : Type} {l : List α} {y : α} : atI (l ++ [y]) (-1) = some y := by
  have e : ixN (l ++ [y]).length (-1) = some l.length := by
    unfold ixN
    rw [List.length_append, List.length_singleton]
    first
    | (rw [if_neg (by decide), if_pos (by omega)]; congr 1; omega)
    | (rw [if_neg (by decide)]; split <;> first | (congr 1; omega) | omega)
  unfold atI
  rw [e]; simp
theorem last_nT (h : r ≠ []) : opIx (.d (nT r)) (.d (.int (-1))) S = .ok (.d (nI (r.getLastD 0))) S := by
  rcases List.eq_nil_or_concat r with rfl | ⟨q, z, rfl⟩
  · exact absurd rfl h
  · rw [List.concat_eq_append, List.getLastD_concat]
    refine opIx_tup ?_
    rw [List.map_append]
    exact atI_last
theorem sum_nL {r : List Nat} : bSum [.d (nL r)] S = .ok (.d (.int (r.sum : Nat))) S := by
  unfold bSum
  simp only [intsD_nI]
  congr 3
  induction r with
  | nil => rfl
  | cons x r ih => simp only [List.map_cons, List.sum_cons, ih, Int.natCast_add]
theorem sum_nT {r : List Nat} : bSum [.d (nT r)] S = .ok (.d (.int (r.sum : Nat))) S := by
  unfold bSum
  simp only [intsD_nI]
  congr 3
  induction r with
  | nil => rfl
  | cons x r ih => simp only [List.map_cons, List.sum_cons, ih, Int.natCast_add]
theorem rg_val {a b : Nat} {f : List PyData → PyData} (h : a ≤ b) (hb : b ≤ 1000) : rgR f (.d (.int (a : Int))) (.d (.int (b : Int))) S = .ok (.d (f (((List.range (b - a)).map fun k => a + k).map nI))) S := by
  have hr : RgIn (a : Int) (b : Int) := by
    unfold RgIn RgOk
    refine ⟨by omega, by omega, by omega, by omega, ?_⟩
    have : sizeLine ≥ 1000 := by decide
    omega
  unfold rgR
  simp only [if_pos hr]
  congr 3
  unfold rgD
  rw [List.map_map, show ((b : Int) - (a : Int)).toNat = b - a by omega]
  refine List.map_congr_left fun i _ => ?_
  simp
theorem add_nT {r s : List Nat} (h : r.length + s.length ≤ 1000) : opAdd (.d (nT r)) (.d (nT s)) S = .ok (.d (nT (r ++ s))) S := by
  rw [opAdd_tup, List.length_map, List.length_map, if_pos (len_le h)]
  simp
theorem add_one {r : List Nat} {x : Nat} (h : r.length < 1000) : opAdd (.d (nT r)) (.d (.tuple [.int (x : Int)])) S = .ok (.d (nT (r ++ [x]))) S := add_nT (s := [x]) h
theorem ix_LT {rs : List (List Nat)} {k : Nat} (h : k < rs.length) : opIx (.d (.list (rs.map nT))) (.d (.int (k : Int))) S = .ok (.d (nT (rs.getD k []))) S := opIx_list (atI_nT h)
theorem mulL {x : PyData} {m : Nat} (h : m ≤ 1000) : opMul (.d (.list [x])) (.d (.int (m : Int))) S = .ok (.d (.list (List.replicate m x))) S := by
  rw [opMul_list ⟨⟨by omega, by omega⟩, by rw [Int.toNat_natCast]; simp only [List.length_singleton, Nat.one_mul]; exact len_le h⟩, Int.toNat_natCast]
  congr 3
  induction m with
  | zero => rfl
  | succ m ih => rw [List.replicate_succ, List.flatten_cons, ih (by omega), List.replicate_succ]; rfl
theorem eq_self {m : Nat} {x : PyData} (h : sm m x = true) (hm : m ≤ 64 := by decide) : opEq (.d x) (.d x) S = .ok (.d (.bool true)) S := by
  rw [opEq_sh h h hm hm, SeqAt.eqv_refl _ (sm_shape h).1]
theorem ne_self {m : Nat} {x : PyData} (h : sm m x = true) (hm : m ≤ 64 := by decide) : opNe (.d x) (.d x) S = .ok (.d (.bool false)) S := by
  rw [opNe_sh h h hm hm, SeqAt.eqv_refl _ (sm_shape h).1]; rfl
theorem q_words {ρ : Rho} {im : IM} {elt : EM} {vs : List Nat} {z : Str} {j m : Nat} (him : im ρ S = .ok ⟨(List.range m).map fun (k : Nat) => W.d (.int (k : Int)), fun _ => True⟩ S) (hm : m ≤ 1000)
    (h : ∀ k < m, ∃ ρ', gNm j (.d (.int ((k : Nat) : Int))) (wipeR ρ vs) S = .ok ρ' S ∧ elt ρ' S = .ok (.d (.str z)) S) : eLc im (gNm j) bYes elt vs ρ S = .ok (.d (.list (List.replicate m (.str z)))) S := by
  rw [eLc_y (List.range m) (fun (k : Nat) => W.d (.int (k : Int))) (fun _ => .str z) (grd := fun _ => True) him trivial (by rw [List.length_range]; exact len_le hm) fun k hk => h k (List.mem_range.1 hk)]
  rw [List.map_const', List.length_range]
theorem seq_nx {a b : SM} {ρ ρ1 : Rho} {S S1 : Sto} (e : a ρ S = .ok (.nx ρ1) S1) : cSeq a b ρ S = b ρ1 S1 := by rw [cSeq_ap, e]
theorem kw1 {α : Type} {w : α} : permW [0] [w] = [w] := rfl
theorem kw2 {α : Type} {a b : α} : permW [1, 0] [a, b] = [b, a] := rfl
theorem kw3 {α : Type} {a b c : α} : permW [2, 1, 0] [a, b, c] = [c, b, a] := rfl
theorem kw4 {α : Type} {a b c d : α} : permW [3, 2, 1, 0] [a, b, c, d] = [d, c, b, a] := rfl
end
end Sh
end

section
/-! Sh: how many numbers a list has, each counted once; a new cell by [x] * n; loops with a test ahead. -/
namespace Sh
open PySem PySem.Spec PyProof.Rows L2
open Classical

/-! ### len(set(xs)), xs a list of ints -/
def dN (ns : List Int) : Nat := (firstMet (fun i => ns.getD i 0) ns.length).length
theorem dN_any (ns : List Int) (k : Int) : (firstMet (fun i => ns.getD i 0) ns.length).any (· == k) = ns.any (· == k) := by
  rw [firstMet_any]
  congr 1
  refine List.ext_getElem (by simp) fun i h1 h2 => ?_
  simp [List.getD_eq_getElem?_getD, h2]
theorem dN_mem {ns : List Int} {k : Int} : k ∈ firstMet (fun i => ns.getD i 0) ns.length ↔ k ∈ ns := by
  have := dN_any ns k
  rw [Bool.eq_iff_iff] at this
  simpa using this
theorem dN_le_len (ns : List Int) : dN ns ≤ ns.length := firstMet_length_le _ _
theorem fm_le1 {val : Nat → Int} {c : Int} (h : ∀ i, val i = c) : ∀ n, (firstMet val n).length ≤ 1 ∧ ∀ x ∈ firstMet val n, x = c
  | 0 => ⟨Nat.zero_le _, fun _ h => nomatch h⟩
  | n + 1 => by
    obtain ⟨h1, h2⟩ := fm_le1 h n
    rw [firstMet_succ]
    unfold step_dedup
    split
    · exact ⟨h1, h2⟩
    · rename_i hq
      cases q : firstMet val n with
      | nil => simp [h n]
      | cons y l =>
        rw [q] at hq h2
        have := h2 y (by simp)
        simp [h n, this] at hq
theorem fm_cong {v w : Nat → Int} : ∀ n, (∀ i, i < n → v i = w i) → firstMet v n = firstMet w n
  | 0, _ => rfl
  | n + 1, h => by rw [firstMet_succ, firstMet_succ, fm_cong n fun i hi => h i (by omega), h n (by omega)]
theorem dN_le1 {ns : List Int} {c : Int} (h : ∀ x ∈ ns, x = c) : dN ns ≤ 1 := by
  unfold dN
  rw [fm_cong (w := fun _ => c) _ fun i hi => by rw [List.getD_eq_getElem?_getD, List.getElem?_eq_getElem hi]; exact h _ (List.getElem_mem hi)]
  exact (fm_le1 (fun _ => rfl) _).1
theorem dN_gt1 {ns : List Int} {a b : Int} (ha : a ∈ ns) (hb : b ∈ ns) (h : a ≠ b) : 1 < dN ns := by
  have h1 := dN_mem.2 ha
  have h2 := dN_mem.2 hb
  unfold dN
  generalize firstMet (fun i => ns.getD i 0) ns.length = l at h1 h2
  match l, h1, h2 with
  | [x], h1, h2 => simp at h1 h2; exact absurd (h1.trans h2.symm) h
  | x :: y :: l, _, _ => simp
def opLenSet : Op1 := fun x S => match x with
  | .d (.list xs) => match intsD xs with
    | some ns => if ns.length ≤ 4000 then .ok (.d (.int (dN ns : Nat))) S else .bad
    | none => .bad
  | _ => .bad
abbrev eLenSet (m : EM) : EM := eOp1 opLenSet m
section
variable {X : Cx} {E : EX} {pos p p2 q : Pos} {a : Expr} {m : EM}
def tLenSetN (K : PySem.W.Frag) (ta : TE) : TE := fun σ H Q => ta σ H fun x H1 => ∃ (l : Addr) (ns : List Int), x = V.ref l ∧ SqL K H1 l (ns.map V.int) ∧ ns.length ≤ 4000 ∧ Q (.int (dN ns : Nat)) H1
theorem pe_lenSetN {ta : TE} (hc : X.calm = true) (hm : X.mg "len" = none) (hm2 : X.mg "set" = none) (ha : PE X a ta) (hg : Gl X "len" := by rfl) (hg2 : Gl X "set" := by rfl)
    (na : starEach [a] X.env = (false, eval a X.env) :: starEach [] X.env := by rfl) : PE X (.Call (.Name "len" p) [.Call (.Name "set" p2) [a] [] q] [] pos) (tLenSetN X.K ta) := by
  refine ⟨fun pins s σ H Q I h => ?_⟩
  refine Call_ (ld_blt I hg hm PySem.boot_len ?_)
  refine PyProof.Rows.callWith_builtin1 (PyProof.Rows.args_cons ?_ rfl) rfl rfl
  refine Call_ (ld_blt I hg2 hm2 PyProof.Rows.boot_set ?_)
  refine PyProof.Rows.callWith_type1 (PyProof.Rows.args_cons (thn (ha.run pins s σ H _ I h) fun v s1 ⟨x, H1, I1, r1, q1⟩ => PyProof.Rows.args_nil ?_) na) na rfl
  obtain ⟨l, ns, rfl, hq, h1, q1⟩ := q1
  cases r1
  obtain ⟨its, r, pl, hz⟩ := I1.list hq
  have hl : its.toArray.size = ns.length := by rw [List.size_toArray, ← r.length, List.length_map]
  refine call_set_list (I1.ok.hd hc) pl.isList (ns := ns) (by simpa using r.ints) (by unfold scanBound; omega) fun h' tk hS hk => ?_
  rw [hl] at hS
  refine PyProof.Rows.args_nil ?_
  obtain ⟨o, es, ep, t, ho, hex, hd, _, _, _, hf, hn⟩ := hS
  have I2 : Inv X pins σ H1 { s1 with heap := h', toks := tk } := I1.kept fun b o e => hk b o (Heap.lt_size e) e
  have hle := dN_le_len ns
  unfold dN at hle q1
  refine call_len_set ho hex hd hf (by rw [hn] <;> omega) ⟨.int (firstMet (fun i => ns.getD i 0) ns.length).length, H1, I2.tok _, ⟨_, by rw [hn]⟩, q1⟩
theorem s_lenSet (hc : X.calm = true) (hm : X.mg "len" = none) (hm2 : X.mg "set" = none) (ha : SE X E a m) (hg : Gl X "len" := by rfl) (hg2 : Gl X "set" := by rfl)
    (na : starEach [a] X.env = (false, eval a X.env) :: starEach [] X.env := by rfl) : SE X E (.Call (.Name "len" p) [.Call (.Name "set" p2) [a] [] q] [] pos) (eLenSet m) := by
  refine PE.le (pe_lenSetN hc hm hm2 ha hg hg2 na) fun σ H Q h => ?_
  obtain ⟨F, ι, S, ρ, R, rs, h⟩ := h
  refine ⟨F, ι, S, ρ, R, rs, h.bind.imp fun F1 ι1 H1 w S1 x1 R1 h v r => ?_⟩
  unfold opLenSet at h
  split at h
  · obtain ⟨a, us, rfl, st, rr⟩ := r.lst_of
    split at h
    · rename_i bs q
      rw [intsD_eq q] at rr
      obtain rfl := rr.ints
      split at h
      · rename_i hz
        exact ⟨a, bs, rfl, st.now, hz, h.ok R1 _ (.d (.int _))⟩
      · exact h.elim
    · exact h.elim
  · exact h.elim
end
theorem lenSet_ok {S : Sto} {xs : List PyData} {ns : List Int} (e : intsD xs = some ns) (h : ns.length ≤ 4000) : opLenSet (.d (.list xs)) S = .ok (.d (.int (dN ns : Nat))) S := by simp only [opLenSet, e, if_pos h]

/-! ### [x] * n as a new cell -/
noncomputable def opMulM : Op2 := fun x y S => match x, y with
  | .d (.list a), .d (.int k) => if In63 k ∧ a.length * k.toNat ≤ sizeLine then newCell ((List.replicate k.toNat a).flatten.map .d) S else .bad
  | _, _ => .bad
theorem ok_mulM {X : Cx} : Ok2 X (rMulS X.K) opMulM := by
  intro E F ι S H x y v u Q R rx ry h
  unfold opMulM at h
  split at h
  · rename_i xs k
    obtain ⟨a, vs, rfl, sa, ra⟩ := rx.lst_of; obtain rfl := ry.int_of
    split at h
    · rename_i hz
      refine .inl (.inl (.inr ⟨a, _, vs, rfl, rfl, sa.tr, hz.1.1, hz.1.2, by rw [← ra.length]; exact hz.2, fun p n => ?_⟩))
      have hl : ((List.replicate k.toNat xs).flatten.map W.d).length ≤ sizeLine := by rw [List.length_map, rep_len]; exact hz.2
      obtain ⟨x1, R1, r1⟩ := cell_new R n (RWs.ofD (ra.rep _)) hl
      unfold newCell at h
      rw [if_pos hl] at h
      exact h _ _ _ x1 R1 _ r1
    · exact h.elim
  · exact h.elim
theorem opMulM_one {S : Sto} {x : PyData} {m : Nat} (h : m ≤ 1000) : opMulM (.d (.list [x])) (.d (.int (m : Int))) S = .ok (.ref S.length) (S ++ [.lst (List.replicate m (.d x))]) := by
  have e : ∀ m : Nat, (List.replicate m [x]).flatten.map W.d = List.replicate m (.d x) := fun m => by
    induction m with
    | zero => rfl
    | succ m ih => rw [List.replicate_succ, List.flatten_cons, List.map_append, ih]; rfl
  have h2 : In63 (m : Int) := ⟨by omega, by omega⟩
  have h3 : [x].length * (m : Int).toNat ≤ sizeLine := by rw [Int.toNat_natCast, List.length_singleton, Nat.one_mul]; exact len_le h
  simp only [opMulM]
  rw [if_pos ⟨h2, h3⟩, Int.toNat_natCast, e]
  unfold newCell
  rw [if_pos (by rw [List.length_replicate]; exact len_le h)]
/-! ### while -/
/-- a loop that ends, told turn by turn: f is how many turns are left at most -/
theorem while_inv {c : BM} {body : SM} {Iv : Nat → Rho → Sto → Prop} {Qv : Rho → Sto → Prop} (h : ∀ k ρ S, Iv k ρ S → (c ρ S = .ok false S ∧ Qv ρ S) ∨ (c ρ S = .ok true S ∧ ∃ ρ2 S2, body ρ S = .ok (.nx ρ2) S2 ∧ ∃ j, j < k ∧ Iv j ρ2 S2)) :
    ∀ k ρ S, Iv k ρ S → ∃ ρ' S', cWhile c body ρ S = .ok (.nx ρ') S' ∧ Qv ρ' S' := by
  have key : ∀ n k ρ S, k < n → Iv k ρ S → ∃ ρ' S', whN c body n ρ S = .ok (.nx ρ') S' ∧ Qv ρ' S' := by
    intro n
    induction n with
    | zero => intro k ρ S hk; omega
    | succ n ih =>
      intro k ρ S hk hi
      rcases h k ρ S hi with ⟨e, q⟩ | ⟨e, ρ2, S2, e2, j, hj, hi2⟩
      · exact ⟨ρ, S, by simp only [whN, e, exq, Bool.false_eq_true, if_false], q⟩
      · obtain ⟨ρ', S', e3, q⟩ := ih j ρ2 S2 (by omega) hi2
        exact ⟨ρ', S', by simp only [whN, e, exq, if_true, e2, Out.bind]; exact e3, q⟩
  intro k ρ S hi
  obtain ⟨ρ', S', e, q⟩ := key (k + 1) k ρ S (by omega) hi
  exact ⟨ρ', S', cWhile_of e (by simp), q⟩
end Sh
end

section
/-! Sh: the own equality of the laws that draw from a bag; rows of integers. -/
namespace Sh
open PySem PySem.Spec PyProof.Rows L2
open Classical
noncomputable def qSameB (r : FM) : EM := eLc (iRg1 (eCall bLen (aCons (eVar 1) aNil))) (gNm 2) (bNot (bOf (eCall (callP r) (aCons (eOp2 opIx (eVar 0) (eVar 2)) (aCons (eOp2 opIx (eVar 1) (eVar 2)) aNil))))) (eVar 2) [2]
noncomputable def bSameB (r : FM) : SM := cSeq (cIf (bOf (eOp1 (opIsi "tuple") (eVar 1))) (cSeq (cIf (bOr (bNot (bOf (eOp1 (opIsi "tuple") (eVar 0)))) (bOf (eOp2 (opNe) (eCall bLen (aCons (eVar 0) aNil)) (eCall bLen (aCons (eVar 1) aNil))))) (cRet (eBl false)) (cNop)) (cRet (eOp2 (opEq) ((qSameB r)) (eLst aNil)))) (cNop)) (cSeq (cIf (bOr (bOf (eOp1 (opIsi "tuple") (eVar 0))) (bOf (eOp2 (opNe) (eOp1 (opIsi "bool") (eVar 0)) (eOp1 (opIsi "bool") (eVar 1))))) (cRet (eBl false)) (cNop)) (cRet (eAnd (eOp2 (opEq) (eOp1 (opIsi "str") (eVar 0)) (eOp1 (opIsi "str") (eVar 1))) (eAnd (eOp2 (opEq) (eOp2 (opIsN) (eVar 0) (eNon)) (eOp2 (opIsN) (eVar 1) (eNon))) (eOp2 (opEq) (eVar 0) (eVar 1))))))
noncomputable def mSameB : Nat → FM
  | 0 => badM
  | n + 1 => defM 3 2 (bSameB (mSameB n))
theorem leaf_tup {x : PyData} (h : leafOk x = true) : isiT (tyD x) "tuple" = false := by cases x <;> first | rfl | cases h
theorem sameB_leaf {n : Nat} {x : PyData} {S : Sto} (h : leafOk x = true) : mSameB (n + 1) [.d x, .d x] S = .ok (.d (.bool true)) S := by
  unfold mSameB defM bSameB
  simp only [eVar_ap, eK_ap, aNil_ap, aCons_ap, eOp2_ap, eOp1_ap, eChain_ap, bOf_ap, bNot_ap, bAnd_ap, bOr_ap, eAnd_ap, eOr_ap, eNot_ap, eIf_ap, eTup_ap, eLst_ap, eLstM_ap, cNop_ap, cBreak_ap, cCont_ap, cSeq_ap, cExpr_ap, cSet_ap, cRet_ap, cRetN_ap, cIf_ap, cAsg_ap, cPar2_ap, cPar3_ap, bYes_ap, eCall_ap, oNone_ap, oSome_ap, eSl_ap, cFor_ap, eMtL_ap, aKw_ap, gNm_ap, gTp2, gTp3, gSb_ap, mkTup0, mkTup1, mkTup2, mkTup3, Out.bind, Out.ofO, exq, fin, callE_ap, List.getElem?_cons_succ, List.getElem?_cons_zero, List.set_cons_succ, List.set_cons_zero, List.map_cons, List.map_nil, List.replicate, List.cons_append, List.nil_append, List.length_cons, List.length_nil, Bool.not_true, Bool.not_false, if_true, if_false, ite_true, ite_false, reduceIte, Bool.false_eq_true, Bool.true_eq_false, Nat.reduceAdd, unD, Option.map_some, Nat.zero_le, Sh.sz1, Sh.sz2, Sh.sz3, Sh.sz4, Sh.sz5, Sh.sz6, Sh.sz7, Sh.sz8, Sh.sz9, Sh.sz10, Sh.sz11, Sh.sz12, Sh.sz13, Sh.sz14, Sh.sz15, Sh.sz16, Nat.reduceSub, Nat.reduceLeDiff, reduceCtorEq, Bool.and_true, Bool.true_and, Bool.and_false, Bool.false_and, Bool.or_true, Bool.or_false, Bool.true_or, Bool.false_or, opIsi_d, leaf_tup h, opNe_bool, opEq_bool, beq_self_eq_true, opIsN_d, opEq_sh (x := x) (y := x) (n := 0) (m := 0) (sm_leaf h) (sm_leaf h), SeqAt.eqv_refl x (leaf_shape h).1]
theorem sameB_self : ∀ {n : Nat} {x : PyData} {S : Sto}, tm n x = true → mSameB (n + 1) [.d x, .d x] S = .ok (.d (.bool true)) S := by
  intro n
  induction n with
  | zero => exact fun h => sameB_leaf h
  | succ n ih =>
    intro x S h
    cases x with
    | tuple xs =>
      have h := tm_tup.1 h
      rw [show mSameB (n + 1 + 1) = defM 3 2 (bSameB (mSameB (n + 1))) from rfl]
      unfold defM bSameB
      simp only [eVar_ap, eK_ap, aNil_ap, aCons_ap, eOp2_ap, eOp1_ap, eChain_ap, bOf_ap, bNot_ap, bAnd_ap, bOr_ap, eAnd_ap, eOr_ap, eNot_ap, eIf_ap, eTup_ap, eLst_ap, eLstM_ap, cNop_ap, cBreak_ap, cCont_ap, cSeq_ap, cExpr_ap, cSet_ap, cRet_ap, cRetN_ap, cIf_ap, cAsg_ap, cPar2_ap, cPar3_ap, bYes_ap, eCall_ap, oNone_ap, oSome_ap, eSl_ap, cFor_ap, eMtL_ap, aKw_ap, gNm_ap, gTp2, gTp3, gSb_ap, mkTup0, mkTup1, mkTup2, mkTup3, Out.bind, Out.ofO, exq, fin, callE_ap, List.getElem?_cons_succ, List.getElem?_cons_zero, List.set_cons_succ, List.set_cons_zero, List.map_cons, List.map_nil, List.replicate, List.cons_append, List.nil_append, List.length_cons, List.length_nil, Bool.not_true, Bool.not_false, if_true, if_false, ite_true, ite_false, reduceIte, Bool.false_eq_true, Bool.true_eq_false, Nat.reduceAdd, unD, Option.map_some, Nat.zero_le, Sh.sz1, Sh.sz2, Sh.sz3, Sh.sz4, Sh.sz5, Sh.sz6, Sh.sz7, Sh.sz8, Sh.sz9, Sh.sz10, Sh.sz11, Sh.sz12, Sh.sz13, Sh.sz14, Sh.sz15, Sh.sz16, Nat.reduceSub, Nat.reduceLeDiff, reduceCtorEq, Bool.and_true, Bool.true_and, Bool.and_false, Bool.false_and, Bool.or_true, Bool.or_false, Bool.true_or, Bool.false_or, opIsi_d, show isiT (tyD (.tuple xs)) "tuple" = true from rfl, bLen_tup, opNe_int, beq_self_eq_true]
      have e : qSameB (mSameB (n + 1)) [some (.d (.tuple xs)), some (.d (.tuple xs)), none] S = .ok (.d (.list [])) S := by
        unfold qSameB
        rw [eLc_d (List.range xs.length) (fun (k : Nat) => .d (.int (k : Int))) (fun k => .int (k : Int)) (fun _ => false) (grd := fun _ => True) (iRg1_nat (by simp only [eVar_ap, eK_ap, aNil_ap, aCons_ap, eOp2_ap, eOp1_ap, eChain_ap, bOf_ap, bNot_ap, bAnd_ap, bOr_ap, eAnd_ap, eOr_ap, eNot_ap, eIf_ap, eTup_ap, eLst_ap, eLstM_ap, cNop_ap, cBreak_ap, cCont_ap, cSeq_ap, cExpr_ap, cSet_ap, cRet_ap, cRetN_ap, cIf_ap, cAsg_ap, cPar2_ap, cPar3_ap, bYes_ap, eCall_ap, oNone_ap, oSome_ap, eSl_ap, cFor_ap, eMtL_ap, aKw_ap, gNm_ap, gTp2, gTp3, gSb_ap, mkTup0, mkTup1, mkTup2, mkTup3, Out.bind, Out.ofO, exq, fin, callE_ap, List.getElem?_cons_succ, List.getElem?_cons_zero, List.set_cons_succ, List.set_cons_zero, List.map_cons, List.map_nil, List.replicate, List.cons_append, List.nil_append, List.length_cons, List.length_nil, Bool.not_true, Bool.not_false, if_true, if_false, ite_true, ite_false, reduceIte, Bool.false_eq_true, Bool.true_eq_false, Nat.reduceAdd, unD, Option.map_some, Nat.zero_le, Sh.sz1, Sh.sz2, Sh.sz3, Sh.sz4, Sh.sz5, Sh.sz6, Sh.sz7, Sh.sz8, Sh.sz9, Sh.sz10, Sh.sz11, Sh.sz12, Sh.sz13, Sh.sz14, Sh.sz15, Sh.sz16, Nat.reduceSub, Nat.reduceLeDiff, reduceCtorEq, Bool.and_true, Bool.true_and, Bool.and_false, Bool.false_and, Bool.or_true, Bool.or_false, Bool.true_or, Bool.false_or, bLen_tup]) (by omega)) trivial (by rw [List.length_range]; exact len_le h.1) fun k hk => ?_]
        · rw [List.filter_eq_nil_iff.2 (by simp)]; rfl
        · rw [List.mem_range] at hk
          refine ⟨_, rfl, ?_, fun h => (nomatch h)⟩
          simp only [eVar_ap, eK_ap, aNil_ap, aCons_ap, eOp2_ap, eOp1_ap, eChain_ap, bOf_ap, bNot_ap, bAnd_ap, bOr_ap, eAnd_ap, eOr_ap, eNot_ap, eIf_ap, eTup_ap, eLst_ap, eLstM_ap, cNop_ap, cBreak_ap, cCont_ap, cSeq_ap, cExpr_ap, cSet_ap, cRet_ap, cRetN_ap, cIf_ap, cAsg_ap, cPar2_ap, cPar3_ap, bYes_ap, eCall_ap, oNone_ap, oSome_ap, eSl_ap, cFor_ap, eMtL_ap, aKw_ap, gNm_ap, gTp2, gTp3, gSb_ap, mkTup0, mkTup1, mkTup2, mkTup3, Out.bind, Out.ofO, exq, fin, callE_ap, List.getElem?_cons_succ, List.getElem?_cons_zero, List.set_cons_succ, List.set_cons_zero, List.map_cons, List.map_nil, List.replicate, List.cons_append, List.nil_append, List.length_cons, List.length_nil, Bool.not_true, Bool.not_false, if_true, if_false, ite_true, ite_false, reduceIte, Bool.false_eq_true, Bool.true_eq_false, Nat.reduceAdd, unD, Option.map_some, Nat.zero_le, Sh.sz1, Sh.sz2, Sh.sz3, Sh.sz4, Sh.sz5, Sh.sz6, Sh.sz7, Sh.sz8, Sh.sz9, Sh.sz10, Sh.sz11, Sh.sz12, Sh.sz13, Sh.sz14, Sh.sz15, Sh.sz16, Nat.reduceSub, Nat.reduceLeDiff, reduceCtorEq, Bool.and_true, Bool.true_and, Bool.and_false, Bool.false_and, Bool.or_true, Bool.or_false, Bool.true_or, Bool.false_or, wipeR, opIx_tup (atI_getD (xs := xs) hk)]
          rw [callP_d (ih (S := []) (h.2 _ (getD_mem hk)))]
          simp only [eVar_ap, eK_ap, aNil_ap, aCons_ap, eOp2_ap, eOp1_ap, eChain_ap, bOf_ap, bNot_ap, bAnd_ap, bOr_ap, eAnd_ap, eOr_ap, eNot_ap, eIf_ap, eTup_ap, eLst_ap, eLstM_ap, cNop_ap, cBreak_ap, cCont_ap, cSeq_ap, cExpr_ap, cSet_ap, cRet_ap, cRetN_ap, cIf_ap, cAsg_ap, cPar2_ap, cPar3_ap, bYes_ap, eCall_ap, oNone_ap, oSome_ap, eSl_ap, cFor_ap, eMtL_ap, aKw_ap, gNm_ap, gTp2, gTp3, gSb_ap, mkTup0, mkTup1, mkTup2, mkTup3, Out.bind, Out.ofO, exq, fin, callE_ap, List.getElem?_cons_succ, List.getElem?_cons_zero, List.set_cons_succ, List.set_cons_zero, List.map_cons, List.map_nil, List.replicate, List.cons_append, List.nil_append, List.length_cons, List.length_nil, Bool.not_true, Bool.not_false, if_true, if_false, ite_true, ite_false, reduceIte, Bool.false_eq_true, Bool.true_eq_false, Nat.reduceAdd, unD, Option.map_some, Nat.zero_le, Sh.sz1, Sh.sz2, Sh.sz3, Sh.sz4, Sh.sz5, Sh.sz6, Sh.sz7, Sh.sz8, Sh.sz9, Sh.sz10, Sh.sz11, Sh.sz12, Sh.sz13, Sh.sz14, Sh.sz15, Sh.sz16, Nat.reduceSub, Nat.reduceLeDiff, reduceCtorEq, Bool.and_true, Bool.true_and, Bool.and_false, Bool.false_and, Bool.or_true, Bool.or_false, Bool.true_or, Bool.false_or]
      simp only [eVar_ap, eK_ap, aNil_ap, aCons_ap, eOp2_ap, eOp1_ap, eChain_ap, bOf_ap, bNot_ap, bAnd_ap, bOr_ap, eAnd_ap, eOr_ap, eNot_ap, eIf_ap, eTup_ap, eLst_ap, eLstM_ap, cNop_ap, cBreak_ap, cCont_ap, cSeq_ap, cExpr_ap, cSet_ap, cRet_ap, cRetN_ap, cIf_ap, cAsg_ap, cPar2_ap, cPar3_ap, bYes_ap, eCall_ap, oNone_ap, oSome_ap, eSl_ap, cFor_ap, eMtL_ap, aKw_ap, gNm_ap, gTp2, gTp3, gSb_ap, mkTup0, mkTup1, mkTup2, mkTup3, Out.bind, Out.ofO, exq, fin, callE_ap, List.getElem?_cons_succ, List.getElem?_cons_zero, List.set_cons_succ, List.set_cons_zero, List.map_cons, List.map_nil, List.replicate, List.cons_append, List.nil_append, List.length_cons, List.length_nil, Bool.not_true, Bool.not_false, if_true, if_false, ite_true, ite_false, reduceIte, Bool.false_eq_true, Bool.true_eq_false, Nat.reduceAdd, unD, Option.map_some, Nat.zero_le, Sh.sz1, Sh.sz2, Sh.sz3, Sh.sz4, Sh.sz5, Sh.sz6, Sh.sz7, Sh.sz8, Sh.sz9, Sh.sz10, Sh.sz11, Sh.sz12, Sh.sz13, Sh.sz14, Sh.sz15, Sh.sz16, Nat.reduceSub, Nat.reduceLeDiff, reduceCtorEq, Bool.and_true, Bool.true_and, Bool.and_false, Bool.false_and, Bool.or_true, Bool.or_false, Bool.true_or, Bool.false_or, e, opEq_sh (x := .list []) (y := .list []) (n := 1) (m := 1) rfl rfl, eqv_lnil, List.isEmpty_nil]
    | list xs => cases h
    | dict xs => cases h
    | none => exact sameB_leaf h
    | bool b => exact sameB_leaf h
    | int i => exact sameB_leaf h
    | str z => exact sameB_leaf h

/-! ### rows of integers -/
abbrev zT (r : List Int) : PyData := .tuple (r.map .int)
abbrev zL (r : List Int) : PyData := .list (r.map .int)
abbrev zTT (rs : List (List Int)) : PyData := .tuple (rs.map zT)
section
variable {S : Sto} {r : List Int} {rs : List (List Int)} {k : Nat} {i : Int} {ρ : Rho}
theorem getD_zI (h : k < r.length) : (r.map PyData.int).getD k .none = .int (r.getD k 0) := by simp [List.getD_eq_getElem?_getD, h]
theorem getD_zT (h : k < rs.length) : (rs.map zT).getD k .none = zT (rs.getD k []) := by simp [List.getD_eq_getElem?_getD, h]
theorem getD_zL (h : k < rs.length) : (rs.map zL).getD k .none = zL (rs.getD k []) := by simp [List.getD_eq_getElem?_getD, h]
theorem ix_zT (h : k < r.length) : opIx (.d (zT r)) (.d (.int (k : Int))) S = .ok (.d (.int (r.getD k 0))) S := opIx_tup (by rw [atI_getD (by simpa using h), getD_zI h])
theorem ix_zL (h : k < r.length) : opIx (.d (zL r)) (.d (.int (k : Int))) S = .ok (.d (.int (r.getD k 0))) S := opIx_list (by rw [atI_getD (by simpa using h), getD_zI h])
theorem ix_zTT (h : k < rs.length) : opIx (.d (zTT rs)) (.d (.int (k : Int))) S = .ok (.d (zT (rs.getD k []))) S := opIx_tup (by rw [atI_getD (by simpa using h), getD_zT h])
theorem ix_LzL (h : k < rs.length) : opIx (.d (.list (rs.map zL))) (.d (.int (k : Int))) S = .ok (.d (zL (rs.getD k []))) S := opIx_list (by rw [atI_getD (by simpa using h), getD_zL h])
theorem iSq_zT {m : EM} (h : m ρ S = .ok (.d (zT r)) S) : iSq m ρ S = .ok ⟨r.map fun k => W.d (.int k), fun _ => True⟩ S := by rw [iSq_tup h, List.map_map]; rfl
theorem iSq_zL {m : EM} (h : m ρ S = .ok (.d (zL r)) S) : iSq m ρ S = .ok ⟨r.map fun k => W.d (.int k), fun _ => True⟩ S := by rw [iSq_list h, List.map_map]; rfl
theorem iSq_zTT {m : EM} (h : m ρ S = .ok (.d (zTT rs)) S) : iSq m ρ S = .ok ⟨rs.map fun r => W.d (zT r), fun _ => True⟩ S := by rw [iSq_tup h, List.map_map]; rfl
theorem iSq_LzL {m : EM} (h : m ρ S = .ok (.d (.list (rs.map zL))) S) : iSq m ρ S = .ok ⟨rs.map fun r => W.d (zL r), fun _ => True⟩ S := by rw [iSq_list h, List.map_map]; rfl
theorem sm_zT {n : Nat} (h : r.length ≤ 1000) : sm (n + 1) (zT r) = true := sm_tup.2 ⟨by simpa using h, fun x hx => by obtain ⟨j, _, rfl⟩ := List.mem_map.1 hx; exact sm_leaf rfl⟩
theorem sm_zL {n : Nat} (h : r.length ≤ 1000) : sm (n + 1) (zL r) = true := sm_list.2 ⟨by simpa using h, fun x hx => by obtain ⟨j, _, rfl⟩ := List.mem_map.1 hx; exact sm_leaf rfl⟩
theorem sm_zTT {n : Nat} (h : rs.length ≤ 1000) (h2 : ∀ r ∈ rs, r.length ≤ 1000) : sm (n + 2) (zTT rs) = true := sm_tup.2 ⟨by simpa using h, fun x hx => by obtain ⟨r, hr, rfl⟩ := List.mem_map.1 hx; exact sm_zT (h2 r hr)⟩
theorem tm_zT {n : Nat} (h : r.length ≤ 1000) : tm (n + 1) (zT r) = true := tm_tup.2 ⟨by simpa using h, fun x hx => by obtain ⟨j, _, rfl⟩ := List.mem_map.1 hx; exact tm_leaf rfl⟩
theorem sum_zT : bSum [.d (zT r)] S = .ok (.d (.int r.sum)) S := by simp only [bSum, intsD_map]
theorem sum_zL : bSum [.d (zL r)] S = .ok (.d (.int r.sum)) S := by simp only [bSum, intsD_map]
theorem max_zL (h : r ≠ []) : bMax [.d (zL r)] S = .ok (.d (.int (maxI r))) S := by simp only [bMax, intsD_map, if_neg h]
theorem idxOf_int {y : Int} : ∀ {r : List Int}, y ∈ r → idxOf (.int y) (r.map .int) = some (r.findIdx (· == y))
  | [], h => nomatch h
  | x :: r, h => by
    rw [List.map_cons, idxOf, List.findIdx_cons]
    have e : PyData.eqv (.int x) (.int y) = (x == y) := rfl
    rw [e]
    cases q : x == y with
    | true => rfl
    | false =>
      have hy : y ∈ r := (List.mem_cons.1 h).resolve_left fun e => by subst e; simp at q
      simp only [Bool.false_eq_true, if_false, idxOf_int hy, Option.map_some, cond_false]
theorem index_zL {y : Int} (h : y ∈ r) (hl : r.length ≤ 1000) : mIndex (.d (zL r)) [.d (.int y)] S = .ok (.d (.int (r.findIdx (· == y) : Nat))) S := by
  have hs : shp (zL r) (.int y) := ⟨sm_shaped (n := 1) (sm_zL hl) (by decide), rfl⟩
  simp only [mIndex, if_pos hs, idxOf_int h, Option.map_some, Out.ofO]
theorem mul_tup {x : PyData} {m : Nat} (h1 : 1 ≤ m) (h : m ≤ 1000) : opMul (.d (.tuple [x])) (.d (.int (m : Int))) S = .ok (.d (.tuple (List.replicate m x))) S := by
  rcases Nat.lt_or_ge 1 m with g | g
  · refine (opMul_tup (k := (m : Int)) ⟨by simp, by omega, by omega, by simp⟩).trans ?_
    rw [Int.toNat_natCast]
    congr 3
    clear h1 h g
    induction m with
    | zero => rfl
    | succ m ih => rw [List.replicate_succ, List.flatten_cons, ih, List.replicate_succ]; rfl
  · obtain rfl : m = 1 := by omega
    exact opMul_tup1
end
end Sh
end

section
namespace Law
open PySem PySem.Spec PyProof.Rows L2 Sh
def subT : List (Str × Str × Bool) := [("BadChoice", "BadChoice", true), ("BadChoice", "BadPlan", false), ("BadChoice", "BadSheet", false), ("BadPlan", "BadChoice", false), ("BadPlan", "BadPlan", true), ("BadPlan", "BadSheet", false), ("BadSheet", "BadChoice", false), ("BadSheet", "BadPlan", false), ("BadSheet", "BadSheet", true)]
noncomputable def b_is_int : SM := cRet (eAnd (eOp1 (opIsi "int") (eVar 0)) (eNot (eOp1 (opIsi "bool") (eVar 0))))
noncomputable def m_is_int : FM := defM 1 1 b_is_int
noncomputable def b_is_row : SM := cRet (eAnd (eOp1 (opIsi "tuple") (eVar 0)) (eChain (opLe) (opLe) (eVar 1) (eCall bLen (aCons (eVar 0) aNil)) (eVar 2)))
noncomputable def m_is_row : FM := defM 3 3 b_is_row
noncomputable def b_ratio : SM := cSeq (cSet 2 (eCall bGcd (aCons (eVar 0) (aCons (eVar 1) aNil)))) (cSeq (cIf (bOf (eOp2 (opLt) (eVar 1) (eInt 0))) (cSet 2 (eOp1 opNeg (eVar 2))) (cNop)) (cRet (eTup (aCons (eOp2 opDiv (eVar 0) (eVar 2)) (aCons (eOp2 opDiv (eVar 1) (eVar 2)) aNil)))))
noncomputable def m_ratio : FM := defM 3 2 b_ratio
noncomputable def q_gains_at_0 : EM := eLc (iZp (aCons (eVar 0) (aCons (eVar 3) aNil))) (gTp 2 (gsCons (gNm 4) (gsCons (gNm 5) (gsNil)))) (bYes) (eOp2 opMul (eOp2 opIx (eVar 4) (eVar 2)) (eVar 5)) [4, 5]
noncomputable def q_gains_at_1 : EM := eLc (iSq (eVar 1)) (gNm 3) (bYes) (eCall bSum (aCons (q_gains_at_0) aNil)) [3]
noncomputable def b_gains_at : SM := cRet (q_gains_at_1)
noncomputable def m_gains_at : FM := defM 6 3 b_gains_at
noncomputable def b__law_bag : SM := cRet (eLstM (aCons (eCall bList (aCons (eVar 0) aNil)) (aCons (eInt 0) (aCons (eInt 0) (aCons (eInt 7) aNil)))))
noncomputable def m__law_bag : FM := defM 1 1 b__law_bag
noncomputable def l__law_pick_0 : SM := cSet 3 (eIf (bOf (eOp2 (opLt) (eVar 2) (eCall bLen (aCons (eOp2 opIx (eVar 0) (eInt 0)) aNil)))) (eOp2 opIx (eOp2 opIx (eVar 0) (eInt 0)) (eVar 2)) (eOp2 opAdd (eOp2 opDiv (eOp2 opIx (eVar 0) (eInt 3)) (eInt 3)) (eOp2 opMul (eInt 77003) (eVar 2))))
noncomputable def l__law_pick_1 : SM := cSet 3 (eIf (bOf (eOp2 (opGe) (eVar 3) (eInt 0))) (eOp2 opMul (eInt 2) (eVar 3)) (eOp2 opSub (eOp2 opMul (eOp1 opNeg (eInt 2)) (eVar 3)) (eInt 1)))
noncomputable def l__law_pick_2 : SM := cIf (bOf (eOp2 (opLt) (eVar 3) (eOp2 opPow (eInt 10) (eInt 18)))) (cSeq (cSet 3 (eOp2 opMul (eOp2 opAdd (eOp2 opAdd (eOp2 opMul (eVar 3) (eInt 1103515249)) (eOp2 opMul (eInt 12820163) (eVar 2))) (eInt 2147480009)) (eOp2 opAdd (eOp2 opAdd (eVar 3) (eInt 86028157)) (eVar 2)))) (cSet 3 (eOp2 opAdd (eOp2 opDiv (eOp2 opMul (eVar 3) (eVar 3)) (eInt 4093)) (eOp2 opMul (eVar 3) (eInt 6700417))))) (cNop)
noncomputable def l__law_pick_3 : SM := cAsg (eOp2 opAdd (eVar 2) (eInt 1)) (gSb setIx (eVar 0) (eInt 1))
noncomputable def l__law_pick_4 : SM := cAsg (eVar 3) (gSb setIx (eVar 0) (eInt 2))
noncomputable def l__law_pick_5 : SM := cAsg (eOp2 opMod (eCall bInt (aCons (eOp2 opAdd (eOp2 opMul (eOp2 opIx (eVar 0) (eInt 3)) (eInt 40692)) (eVar 3)) aNil)) (eInt 2305843009213693951)) (gSb setIx (eVar 0) (eInt 3))
noncomputable def b__law_pick : SM := cSeq (cIf (bOf (eOp2 (opLt) (eOp2 opIx (eVar 0) (eInt 2)) (eVar 1))) (cSeq (cSet 2 (eOp2 opIx (eVar 0) (eInt 1))) (cSeq (l__law_pick_0) (cSeq (l__law_pick_1) (cSeq (l__law_pick_2) (cSeq (l__law_pick_3) (cSeq (l__law_pick_4) (l__law_pick_5))))))) (cNop)) (cSeq (cSet 4 (eOp2 opMod (eCall bInt (aCons (eOp2 opIx (eVar 0) (eInt 2)) aNil)) (eVar 1))) (cSeq (cAsg (eOp2 opDiv (eOp2 opIx (eVar 0) (eInt 2)) (eVar 1)) (gSb setIx (eVar 0) (eInt 2))) (cRet (eVar 4))))
noncomputable def m__law_pick : FM := defM 5 2 b__law_pick
noncomputable def l__law_ratio_0 : SM := cPar2 2 3 (aCons (eVar 3) (aCons (eOp2 opMod (eCall bInt (aCons (eVar 2) aNil)) (eVar 3)) aNil))
noncomputable def b__law_ratio : SM := cSeq (cPar2 2 3 (aCons (eCall bAbs (aCons (eVar 0) aNil)) (aCons (eVar 1) aNil))) (cSeq (cWhile (bOf (eOp2 (opNe) (eVar 3) (eInt 0))) l__law_ratio_0) (cRet (eTup (aCons (eOp2 opDiv (eVar 0) (eVar 2)) (aCons (eOp2 opDiv (eVar 1) (eVar 2)) aNil)))))
noncomputable def m__law_ratio : FM := defM 4 2 b__law_ratio
noncomputable def q__law_gains_0 : EM := eLc (iRg1 (eCall bLen (aCons (eVar 0) aNil))) (gNm 4) (bYes) (eOp2 opMul (eOp2 opIx (eOp2 opIx (eVar 0) (eVar 4)) (eVar 2)) (eOp2 opIx (eVar 3) (eVar 4))) [4]
noncomputable def q__law_gains_1 : EM := eLc (iSq (eVar 1)) (gNm 3) (bYes) (eCall bSum (aCons (q__law_gains_0) aNil)) [3]
noncomputable def b__law_gains : SM := cRet (q__law_gains_1)
noncomputable def m__law_gains : FM := defM 5 3 b__law_gains
noncomputable def q__law_plans_0 : EM := eLc (iRg1 (eVar 1)) (gNm 6) (bYes) (eOp2 opAdd (eVar 5) (eTup (aCons (eVar 6) aNil))) [6]
noncomputable def l__law_plans_1 : SM := cExpr (eMtL mExtend (eVar 4) (aCons (q__law_plans_0) aNil))
noncomputable def l__law_plans_2 : SM := cSeq (cSet 4 (eLstM aNil)) (cSeq (cFor (iSq (eVar 2)) (gNm 5) l__law_plans_1) (cSet 2 (eVar 4)))
noncomputable def b__law_plans : SM := cSeq (cSet 2 (eLst (aCons (eTup aNil) aNil))) (cSeq (cFor (iRg1 (eVar 0)) (gNm 3) l__law_plans_2) (cRet (eVar 2)))
noncomputable def m__law_plans : FM := defM 7 2 b__law_plans
noncomputable def b_within : SM := cRet (eAnd (eCall (callP m_is_int) (aCons (eVar 0) aNil)) (eChain (opLe) (opLe) (eVar 1) (eVar 0) (eVar 2)))
noncomputable def m_within : FM := defM 3 3 b_within
noncomputable def q_are_deeds_0 : EM := eLc (iSq (eVar 4)) (gNm 5) (bYes) (eCall (callP m_is_int) (aCons (eVar 5) aNil)) [5]
noncomputable def q_are_deeds_1 : EM := eLc (iSq (eVar 1)) (gNm 4) (bYes) (eAnd (eCall (callP m_is_row) (aCons (eVar 4) (aCons (eVar 0) (aCons (eVar 0) aNil)))) (eCall bAll (aCons (q_are_deeds_0) aNil))) [4]
noncomputable def q_are_deeds_2 : EM := eLc2 (iSq (eVar 1)) (gNm 4) (bYes) (iSq (eVar 4)) (gNm 5) (bYes) (eOp2 (opLe) (eCall bAbs (aCons (eVar 5) aNil)) (eVar 3)) [4, 5] [5]
noncomputable def b_are_deeds : SM := cSeq (cIf (bOr (bNot (bOf (eOp1 (opIsi "tuple") (eVar 1)))) (bOr (bOf (eOp2 (opEq) (eVar 1) (eTup aNil))) (bAnd (bOf (eOp2 (opNotN) (eVar 2) (eNon))) (bOf (eOp2 (opGt) (eCall bLen (aCons (eVar 1) aNil)) (eVar 2)))))) (cRet (eBl false)) (cNop)) (cSeq (cIf (bNot (bOf (eCall bAll (aCons (q_are_deeds_1) aNil)))) (cRet (eBl false)) (cNop)) (cRet (eOr (eOp2 (opIsN) (eVar 3) (eNon)) (eCall bAll (aCons (q_are_deeds_2) aNil)))))
noncomputable def m_are_deeds : FM := defM 6 4 b_are_deeds
noncomputable def q_worth_of_0 : EM := eLc (iRg1 (eCall bLen (aCons (eOp2 opIx (eVar 0) (eInt 0)) aNil))) (gNm 3) (bYes) (eCall bMax (aCons (eCall (callP m_gains_at) (aCons (eVar 0) (aCons (eVar 1) (aCons (eVar 3) aNil)))) aNil)) [3]
noncomputable def b_worth_of : SM := cSeq (cSet 2 q_worth_of_0) (cRet (eCall (callP m_ratio) (aCons (eCall bSum (aCons (eVar 2) aNil)) (aCons (eCall bSum (aCons (eOp2 opIx (eVar 0) (eInt 0)) aNil)) aNil))))
noncomputable def m_worth_of : FM := defM 4 2 b_worth_of
noncomputable def l__law_sheet_0 : SM := cSeq (cSet 8 (eCall (callE m__law_pick) (aCons (eVar 0) (aCons (eVar 2) aNil)))) (cAsg (eOp2 opAdd (eOp2 opIx (eVar 6) (eVar 8)) (eInt 1)) (gSb setIx (eVar 6) (eVar 8)))
noncomputable def l__law_sheet_1 : SM := cSeq (cSet 6 (eOp2 opMulM (eLst (aCons (eInt 0) aNil)) (eVar 2))) (cSeq (cFor (iRg1 (eVar 3)) (gNm 7) l__law_sheet_0) (cExpr (eMtL mAppend (eVar 4) (aCons (eCall bTuple (aCons (eVar 6) aNil)) aNil))))
noncomputable def b__law_sheet : SM := cSeq (cPar2 3 4 (aCons (eOp2 opAdd (eInt 1) (eCall (callE m__law_pick) (aCons (eVar 0) (aCons (eInt 12) aNil)))) (aCons (eLstM aNil) aNil))) (cSeq (cFor (iRg1 (eVar 1)) (gNm 5) l__law_sheet_1) (cRet (eCall bTuple (aCons (eVar 4) aNil))))
noncomputable def m__law_sheet : FM := defM 9 3 b__law_sheet
noncomputable def q__law_worth_0 : EM := eLc (iRg1 (eCall bLen (aCons (eVar 2) aNil))) (gNm 5) (bYes) (eOp2 opMul (eOp2 opIx (eOp2 opIx (eVar 0) (eVar 4)) (eVar 5)) (eOp2 opIx (eOp2 opIx (eVar 1) (eOp2 opIx (eVar 2) (eVar 5))) (eVar 4))) [5]
noncomputable def l__law_worth_1 : SM := cSet 3 (eOp2 opAdd (eVar 3) (eCall bSum (aCons (q__law_worth_0) aNil)))
noncomputable def b__law_worth : SM := cSeq (cSet 3 (eInt 0)) (cSeq (cFor (iRg1 (eCall bLen (aCons (eVar 0) aNil))) (gNm 4) l__law_worth_1) (cRet (eCall (callP m__law_ratio) (aCons (eVar 3) (aCons (eCall bSum (aCons (eOp2 opIx (eVar 0) (eInt 0)) aNil)) aNil)))))
noncomputable def m__law_worth : FM := defM 6 3 b__law_worth
noncomputable def q_are_counts_0 : EM := eLc (iSq (eVar 0)) (gNm 6) (bYes) (eAnd (eOp1 (opIsi "tuple") (eVar 6)) (eOp2 (opGe) (eCall bLen (aCons (eVar 6) aNil)) (eInt 1))) [6]
noncomputable def q_are_counts_1 : EM := eLc2 (iSq (eVar 0)) (gNm 6) (bYes) (iSq (eVar 6)) (gNm 7) (bYes) (eAnd (eCall (callP m_is_int) (aCons (eVar 7) aNil)) (eOp2 (opGe) (eVar 7) (eInt 0))) [6, 7] [7]
noncomputable def q_are_counts_2 : EM := eLc (iSq (eVar 0)) (gNm 6) (bYes) (eCall bLen (aCons (eVar 6) aNil)) [6]
noncomputable def q_are_counts_3 : EM := eLc (iSq (eVar 0)) (gNm 6) (bYes) (eCall bSum (aCons (eVar 6) aNil)) [6]
noncomputable def l_are_counts_4 : SM := cIf (bOr (bNot (bOf (eOp1 (opIsi "tuple") (eVar 0)))) (bNot (bOf (eCall (callP m_within) (aCons (eCall bLen (aCons (eVar 0) aNil)) (aCons (eOp2 opIx (eVar 1) (eInt 0)) (aCons (eOp2 opIx (eVar 1) (eInt 1)) aNil))))))) (cRet (eBl false)) (cNop)
noncomputable def l_are_counts_5 : SM := cIf (bNot (bOf (eCall bAll (aCons (q_are_counts_0) aNil)))) (cRet (eBl false)) (cNop)
noncomputable def l_are_counts_6 : SM := cIf (bNot (bOf (eCall bAll (aCons (q_are_counts_1) aNil)))) (cRet (eBl false)) (cNop)
noncomputable def l_are_counts_7 : SM := cIf (bOr (bOf (eOp2 (opGt) (eLenSet (q_are_counts_2)) (eInt 1))) (bOf (eOp2 (opGt) (eLenSet (q_are_counts_3)) (eInt 1)))) (cRet (eBl false)) (cNop)
noncomputable def l_are_counts_8 : SM := cPar2 4 5 (aCons (eCall bSum (aCons (eOp2 opIx (eVar 0) (eInt 0)) aNil)) (aCons (eCall bLen (aCons (eOp2 opIx (eVar 0) (eInt 0)) aNil)) aNil))
noncomputable def l_are_counts_9 : SM := cRet (eAnd (eOp2 (opGe) (eVar 4) (eInt 1)) (eAnd (eOr (eOp2 (opIsN) (eVar 3) (eNon)) (eOp2 (opLe) (eVar 4) (eVar 3))) (eOr (eOp2 (opIsN) (eVar 2) (eNon)) (eOp2 (opLe) (eVar 5) (eVar 2)))))
noncomputable def b_are_counts : SM := cSeq (l_are_counts_4) (cSeq (l_are_counts_5) (cSeq (l_are_counts_6) (cSeq (l_are_counts_7) (cSeq (l_are_counts_8) (l_are_counts_9)))))
noncomputable def m_are_counts : FM := defM 8 4 b_are_counts
noncomputable def b_is_sheet : SM := cRet (eCall (callP m_are_counts) (aCons (eVar 0) (aCons (eTup (aCons (eInt 1) (aCons (eK (.d (.int 6))) aNil))) (aCons (eK (.d (.int 6))) (aCons (eK (.d (.int 1000))) aNil)))))
noncomputable def m_is_sheet : FM := defM 1 1 b_is_sheet
noncomputable def b_need_sheet : SM := cIf (bNot (bOf (eCall (callP m_is_sheet) (aCons (eVar 0) aNil)))) (cRaise "BadSheet") (cNop)
noncomputable def m_need_sheet : FM := defM 1 1 b_need_sheet
noncomputable def b_need_choice : SM := cSeq (cExpr (eCall (callP m_need_sheet) (aCons (eVar 0) aNil))) (cIf (bNot (bOf (eCall (callP m_are_deeds) (aCons (eCall bLen (aCons (eVar 0) aNil)) (aCons (eVar 1) (aCons (eK (.d (.int 8))) (aCons (eK (.d (.int 1000000))) aNil))))))) (cRaise "BadChoice") (cNop))
noncomputable def m_need_choice : FM := defM 2 2 b_need_choice
noncomputable def q_plan_worth_0 : EM := eLc (iSq (eVar 2)) (gNm 6) (bYes) (eCall (callP m_within) (aCons (eVar 6) (aCons (eInt 0) (aCons (eOp2 opSub (eCall bLen (aCons (eVar 1) aNil)) (eInt 1)) aNil)))) [6]
noncomputable def q_plan_worth_1 : EM := eLc (iEn (aCons (eVar 2) aNil)) (gTp 2 (gsCons (gNm 5) (gsCons (gNm 6) (gsNil)))) (bYes) (eOp2 opIx (eCall (callP m_gains_at) (aCons (eVar 0) (aCons (eVar 1) (aCons (eVar 5) aNil)))) (eVar 6)) [5, 6]
noncomputable def l_plan_worth_2 : SM := cExpr (eCall (callP m_need_choice) (aCons (eVar 0) (aCons (eVar 1) aNil)))
noncomputable def l_plan_worth_3 : SM := cSet 3 (eCall bLen (aCons (eOp2 opIx (eVar 0) (eInt 0)) aNil))
noncomputable def l_plan_worth_4 : SM := cIf (bOr (bNot (bOf (eCall (callP m_is_row) (aCons (eVar 2) (aCons (eVar 3) (aCons (eVar 3) aNil)))))) (bNot (bOf (eCall bAll (aCons (q_plan_worth_0) aNil))))) (cRaise "BadPlan") (cNop)
noncomputable def l_plan_worth_5 : SM := cSet 4 (eCall bSum (aCons (q_plan_worth_1) aNil))
noncomputable def l_plan_worth_6 : SM := cRet (eCall (callP m_ratio) (aCons (eVar 4) (aCons (eCall bSum (aCons (eOp2 opIx (eVar 0) (eInt 0)) aNil)) aNil)))
noncomputable def b_plan_worth : SM := cSeq (l_plan_worth_2) (cSeq (l_plan_worth_3) (cSeq (l_plan_worth_4) (cSeq (l_plan_worth_5) (l_plan_worth_6))))
noncomputable def m_plan_worth : FM := defM 7 3 b_plan_worth
noncomputable def l_best_plan_0 : SM := cSeq (cSet 4 (eCall (callP m_gains_at) (aCons (eVar 0) (aCons (eVar 1) (aCons (eVar 3) aNil))))) (cExpr (eMtL mAppend (eVar 2) (aCons (eMtL mIndex (eVar 4) (aCons (eCall bMax (aCons (eVar 4) aNil)) aNil)) aNil)))
noncomputable def b_best_plan : SM := cSeq (cExpr (eCall (callP m_need_choice) (aCons (eVar 0) (aCons (eVar 1) aNil)))) (cSeq (cSet 2 (eLstM aNil)) (cSeq (cFor (iRg1 (eCall bLen (aCons (eOp2 opIx (eVar 0) (eInt 0)) aNil))) (gNm 3) l_best_plan_0) (cRet (eCall bTuple (aCons (eVar 2) aNil)))))
noncomputable def m_best_plan : FM := defM 5 2 b_best_plan
noncomputable def b_worth : SM := cSeq (cExpr (eCall (callP m_need_choice) (aCons (eVar 0) (aCons (eVar 1) aNil)))) (cRet (eCall (callP m_worth_of) (aCons (eVar 0) (aCons (eVar 1) aNil))))
noncomputable def m_worth : FM := defM 2 2 b_worth
noncomputable def b__law_word : SM := cSeq (cSet 4 (eStr "told")) (cSeq (cTry (subL subT) (cIf (bOf (eOp2 (opEq) (eVar 0) (eInt 0))) (cExpr (eCall (callP m_plan_worth) (aCons (eVar 1) (aCons (eVar 2) (aCons (eVar 3) aNil))))) (cIf (bOf (eOp2 (opEq) (eVar 0) (eInt 1))) (cExpr (eCall (callP m_best_plan) (aCons (eVar 1) (aCons (eVar 2) aNil)))) (cExpr (eCall (callP m_worth) (aCons (eVar 1) (aCons (eVar 2) aNil)))))) [("BadSheet", cSet 4 (eStr "sheet")), ("BadChoice", cSet 4 (eStr "choice")), ("BadPlan", cSet 4 (eStr "plan"))]) (cRet (eVar 4)))
noncomputable def m__law_word : FM := defM 5 4 b__law_word
noncomputable def q__law_same_0 (r : FM) : EM := eLc (iRg1 (eCall bLen (aCons (eVar 1) aNil))) (gNm 2) (bNot (bOf (eCall (callP r) (aCons (eOp2 opIx (eVar 0) (eVar 2)) (aCons (eOp2 opIx (eVar 1) (eVar 2)) aNil))))) (eVar 2) [2]
noncomputable def b__law_same (r : FM) : SM := cSeq (cIf (bOf (eOp1 (opIsi "tuple") (eVar 1))) (cSeq (cIf (bOr (bNot (bOf (eOp1 (opIsi "tuple") (eVar 0)))) (bOf (eOp2 (opNe) (eCall bLen (aCons (eVar 0) aNil)) (eCall bLen (aCons (eVar 1) aNil))))) (cRet (eBl false)) (cNop)) (cRet (eOp2 (opEq) ((q__law_same_0 r)) (eLst aNil)))) (cNop)) (cSeq (cIf (bOr (bOf (eOp1 (opIsi "tuple") (eVar 0))) (bOf (eOp2 (opNe) (eOp1 (opIsi "bool") (eVar 0)) (eOp1 (opIsi "bool") (eVar 1))))) (cRet (eBl false)) (cNop)) (cRet (eAnd (eOp2 (opEq) (eOp1 (opIsi "str") (eVar 0)) (eOp1 (opIsi "str") (eVar 1))) (eAnd (eOp2 (opEq) (eOp2 (opIsN) (eVar 0) (eNon)) (eOp2 (opIsN) (eVar 1) (eNon))) (eOp2 (opEq) (eVar 0) (eVar 1))))))
noncomputable def mr__law_same : Nat → FM
  | 0 => badM
  | n + 1 => defM 3 2 (b__law_same (mr__law_same n))
noncomputable def m__law_same : FM := mr__law_same 8
noncomputable def q_law_0 : EM := eLc (iRg1 (eVar 3)) (gNm 20) (bYes) (eOp2 opSub (eCall (callE m__law_pick) (aCons (eVar 1) (aCons (eInt 19) aNil))) (eInt 9)) [20]
noncomputable def q_law_1 : EM := eLc (iRg1 (eVar 5)) (gNm 18) (bYes) (eCall bTuple (aCons (q_law_0) aNil)) [18]
noncomputable def q_law_2 : EM := eLc (iRg1 (eVar 4)) (gNm 16) (bYes) (eCall (callE m__law_pick) (aCons (eVar 1) (aCons (eVar 5) aNil))) [16]
noncomputable def q_law_3 : EM := eLc (iRg1 (eVar 4)) (gNm 16) (bYes) (eCall (callP m__law_gains) (aCons (eVar 6) (aCons (eVar 7) (aCons (eVar 16) aNil)))) [16]
noncomputable def q_law_4 : EM := eLc (iSq (eVar 10)) (gNm 21) (bYes) (eMtL mIndex (eVar 21) (aCons (eCall bMax (aCons (eVar 21) aNil)) aNil)) [21]
noncomputable def q_law_5 : EM := eLc (iRg1 (eVar 4)) (gNm 16) (bYes) (eOp2 opIx (eOp2 opIx (eVar 10) (eVar 16)) (eOp2 opIx (eVar 17) (eVar 16))) [16]
noncomputable def q_law_6 : EM := eLc (iSq (eVar 11)) (gNm 17) (bYes) (eCall bSum (aCons (q_law_5) aNil)) [17]
noncomputable def q_law_7 : EM := eLc (iRg1 (eInt 3)) (gNm 19) (bYes) (eCall (callP m__law_word) (aCons (eVar 19) (aCons (eVar 13) (aCons (eNon) (aCons (eNon) aNil))))) [19]
noncomputable def q_law_8 : EM := eLc (iRg1 (eInt 3)) (gNm 19) (bYes) (eCall (callP m__law_word) (aCons (eVar 19) (aCons (eVar 6) (aCons (eVar 14) (aCons (eNon) aNil))))) [19]
noncomputable def l_law_9 : SM := cAsg (eTup (aCons (eOp2 opAdd (eInt 1) (eCall (callE m__law_pick) (aCons (eVar 1) (aCons (eInt 4) aNil)))) (aCons (eOp2 opAdd (eInt 1) (eCall (callE m__law_pick) (aCons (eVar 1) (aCons (eInt 4) aNil)))) (aCons (eOp2 opAdd (eInt 1) (eCall (callE m__law_pick) (aCons (eVar 1) (aCons (eInt 4) aNil)))) aNil)))) (gTp 3 (gsCons (gNm 3) (gsCons (gNm 4) (gsCons (gNm 5) (gsNil)))))
noncomputable def l_law_10 : SM := cSet 6 (eCall (callE m__law_sheet) (aCons (eVar 1) (aCons (eVar 3) (aCons (eVar 4) aNil))))
noncomputable def l_law_11 : SM := cSet 7 (eCall bTuple (aCons (q_law_1) aNil))
noncomputable def l_law_12 : SM := cSet 8 (eCall bTuple (aCons (q_law_2) aNil))
noncomputable def l_law_13 : SM := cIf (bOr (bOf (eOp2 (opNotB) (eCall (callP m_is_sheet) (aCons (eVar 6) aNil)) (eBl true))) (bNot (bOf (eCall (callP m__law_same) (aCons (eCall (callP m_plan_worth) (aKw [2, 1, 0] (aCons (eVar 8) (aCons (eVar 7) (aCons (eVar 6) aNil))))) (aCons (eCall (callP m__law_worth) (aCons (eVar 6) (aCons (eVar 7) (aCons (eVar 8) aNil)))) aNil)))))) (cRet (eBl false)) (cNop)
noncomputable def l_law_14 : SM := cSet 9 (eCall (callP m_best_plan) (aKw [1, 0] (aCons (eVar 7) (aCons (eVar 6) aNil))))
noncomputable def l_law_15 : SM := cIf (bNot (bOf (eCall (callP m__law_same) (aCons (eVar 9) (aCons (eCall bTuple (aCons (q_law_4) aNil)) aNil))))) (cRet (eBl false)) (cNop)
noncomputable def l_law_16 : SM := cSet 11 (eIf (bOr (bOf (eOp2 (opLt) (eVar 4) (eInt 4))) (bOf (eOp2 (opLt) (eVar 5) (eInt 4)))) (eCall (callP m__law_plans) (aCons (eVar 4) (aCons (eVar 5) aNil))) (eLst (aCons (eVar 9) aNil)))
noncomputable def l_law_17 : SM := cIf (bOf (eOp2 (opNe) (eOp2 opIx (eVar 11) (eMtL mIndex (eVar 12) (aCons (eCall bMax (aCons (eVar 12) aNil)) aNil))) (eVar 9))) (cRet (eBl false)) (cNop)
noncomputable def l_law_18 : SM := cIf (bNot (bOf (eCall (callP m__law_same) (aCons (eCall (callP m_worth) (aKw [1, 0] (aCons (eVar 7) (aCons (eVar 6) aNil)))) (aCons (eCall (callP m__law_worth) (aCons (eVar 6) (aCons (eVar 7) (aCons (eVar 9) aNil)))) aNil))))) (cRet (eBl false)) (cNop)
noncomputable def l_law_19 : SM := cSet 13 (eOp2 opIx (eLst (aCons (eNon) (aCons (eTup aNil) (aCons (eTup (aCons (eTup aNil) aNil)) (aCons (eOp2 opAdd (eVar 6) (eTup (aCons (eOp2 opAdd (eOp2 opIx (eVar 6) (eInt 0)) (eTup (aCons (eInt 0) aNil))) aNil))) (aCons (eOp2 opAdd (eVar 6) (eTup (aCons (eOp2 opMul (eTup (aCons (eInt 0) aNil)) (eVar 4)) aNil))) (aCons (eCall bList (aCons (eVar 6) aNil)) (aCons (eTup (aCons (eTup (aCons (eOp1 opNeg (eInt 1)) (aCons (eInt 2) aNil))) aNil)) (aCons (eTup (aCons (eTup (aCons (eBl true) aNil)) aNil)) (aCons (eTup (aCons (eTup (aCons (eInt 0) aNil)) aNil)) (aCons (eTup (aCons (eTup (aCons (eInt 1001) aNil)) aNil)) (aCons (eTup (aCons (eOp2 opMul (eTup (aCons (eInt 1) aNil)) (eInt 7)) aNil)) (aCons (eOp2 opMul (eTup (aCons (eTup (aCons (eInt 1) aNil)) aNil)) (eInt 7)) aNil))))))))))))) (eCall (callE m__law_pick) (aCons (eVar 1) (aCons (eInt 12) aNil))))
noncomputable def l_law_20 : SM := cSet 14 (eOp2 opIx (eLst (aCons (eNon) (aCons (eTup aNil) (aCons (eOp2 opAdd (eVar 7) (eTup (aCons (eOp2 opMul (eTup (aCons (eInt 0) aNil)) (eOp2 opAdd (eVar 3) (eInt 1))) aNil))) (aCons (eCall bList (aCons (eVar 7) aNil)) (aCons (eOp2 opMul (eTup (aCons (eOp2 opIx (eVar 7) (eInt 0)) aNil)) (eInt 9)) (aCons (eTup (aCons (eOp2 opMul (eTup (aCons (eInt 1000001) aNil)) (eVar 3)) aNil)) (aCons (eTup (aCons (eOp2 opMul (eTup (aCons (eNon) aNil)) (eVar 3)) aNil)) (aCons (eTup (aCons (eOp2 opMul (eTup (aCons (eBl true) aNil)) (eVar 3)) aNil)) aNil))))))))) (eCall (callE m__law_pick) (aCons (eVar 1) (aCons (eInt 8) aNil))))
noncomputable def l_law_21 : SM := cSet 15 (eOp2 opIx (eLst (aCons (eNon) (aCons (eOp2 opAdd (eVar 8) (eTup (aCons (eInt 0) aNil))) (aCons (eSl (eVar 8) (oSome (eInt 1)) oNone) (aCons (eOp2 opMul (eTup (aCons (eVar 5) aNil)) (eVar 4)) (aCons (eOp2 opMul (eTup (aCons (eOp1 opNeg (eInt 1)) aNil)) (eVar 4)) (aCons (eOp2 opMul (eTup (aCons (eBl true) aNil)) (eVar 4)) (aCons (eCall bList (aCons (eVar 8) aNil)) aNil)))))))) (eCall (callE m__law_pick) (aCons (eVar 1) (aCons (eInt 7) aNil))))
noncomputable def l_law_22 : SM := cIf (bOr (bOf (eOp2 (opNotB) (eCall (callP m_is_sheet) (aCons (eVar 13) aNil)) (eBl false))) (bOf (eOp2 (opNe) (q_law_7) (eOp2 opMul (eLst (aCons (eStr "sheet") aNil)) (eInt 3))))) (cRet (eBl false)) (cNop)
noncomputable def l_law_23 : SM := cIf (bOr (bOf (eOp2 (opNe) (q_law_8) (eOp2 opMul (eLst (aCons (eStr "choice") aNil)) (eInt 3)))) (bOf (eOp2 (opNe) (eCall (callP m__law_word) (aCons (eInt 0) (aCons (eVar 6) (aCons (eVar 7) (aCons (eVar 15) aNil))))) (eStr "plan")))) (cRet (eBl false)) (cNop)
noncomputable def l_law_24 : SM := cSeq (l_law_9) (cSeq (l_law_10) (cSeq (l_law_11) (cSeq (l_law_12) (cSeq (l_law_13) (cSeq (l_law_14) (cSeq (cSet 10 q_law_3) (cSeq (l_law_15) (cSeq (l_law_16) (cSeq (cSet 12 q_law_6) (cSeq (l_law_17) (cSeq (l_law_18) (cSeq (l_law_19) (cSeq (l_law_20) (cSeq (l_law_21) (cSeq (l_law_22) (l_law_23))))))))))))))))
noncomputable def b_law : SM := cSeq (cSet 1 (eCall (callE m__law_bag) (aCons (eVar 0) aNil))) (cSeq (cFor (iRg1 (eInt 3)) (gNm 2) l_law_24) (cRet (eBl true)))
noncomputable def m_law : FM := defM 22 1 b_law
end Law
end

section
/-! Sheets, choices, plans: plain. -/
namespace Sheet
open Sh
/-- sums -/
theorem sum_add {α : Type} (f g : α → Int) (l : List α) : (l.map fun x => f x + g x).sum = (l.map f).sum + (l.map g).sum := by
  induction l with
  | nil => rfl
  | cons x l ih => simp only [List.map_cons, List.sum_cons, ih]; omega
theorem sum_swap {α β : Type} (F : α → β → Int) (l : List α) (m : List β) : (l.map fun s => (m.map fun a => F s a).sum).sum = (m.map fun a => (l.map fun s => F s a).sum).sum := by
  induction l with
  | nil =>
    simp only [List.map_nil, List.sum_nil]
    induction m with
    | nil => rfl
    | cons x m ih => simp only [List.map_cons, List.sum_cons, ← ih]; rfl
  | cons x l ih => simp only [List.map_cons, List.sum_cons, ih, sum_add]
theorem zip_range {α β γ : Type} (f : α → β → γ) (x0 : α) (y0 : β) : ∀ {l : List α} {m : List β}, l.length = m.length → ((l.zip m).map fun p => f p.1 p.2) = (List.range l.length).map fun k => f (l.getD k x0) (m.getD k y0)
  | [], [], _ => rfl
  | x :: l, y :: m, h => by
    have ih := zip_range f x0 y0 (l := l) (m := m) (by simpa using h)
    rw [List.zip_cons_cons, List.map_cons, ih, List.length_cons, List.range_succ_eq_map, List.map_cons, List.map_map]
    rfl
/-- gains -/
abbrev M := List (List Int)
def gn (sh ch : M) (a : Nat) : List Int := ch.map fun d => ((sh.zip d).map fun p => p.1.getD a 0 * p.2).sum
theorem gn_range {sh ch : M} {a : Nat} (h : ∀ d ∈ ch, d.length = sh.length) : gn sh ch a = ch.map fun d => ((List.range sh.length).map fun s => (sh.getD s []).getD a 0 * d.getD s 0).sum :=
  List.map_congr_left fun d hd => by rw [zip_range (fun (r : List Int) (p : Int) => r.getD a 0 * p) [] 0 (h d hd).symm]
theorem gn_getD {sh ch : M} {a x : Nat} (hx : x < ch.length) (h : ∀ d ∈ ch, d.length = sh.length) : (gn sh ch a).getD x 0 = ((List.range sh.length).map fun s => (sh.getD s []).getD a 0 * (ch.getD x []).getD s 0).sum := by
  rw [gn_range h, List.getD_eq_getElem?_getD, List.getElem?_map, List.getElem?_eq_getElem hx, List.getD_eq_getElem?_getD (l := ch), List.getElem?_eq_getElem hx]; rfl
/-- the worth of a plan, in two orders -/
theorem worth_swap {sh ch : M} {pl : List Nat} (h : ∀ d ∈ ch, d.length = sh.length) (hp : ∀ x ∈ pl, x < ch.length) :
    ((List.range pl.length).map fun a => (gn sh ch a).getD (pl.getD a 0) 0).sum = ((List.range sh.length).map fun s => ((List.range pl.length).map fun a => (sh.getD s []).getD a 0 * (ch.getD (pl.getD a 0) []).getD s 0).sum).sum := by
  rw [sum_swap (fun s a => (sh.getD s []).getD a 0 * (ch.getD (pl.getD a 0) []).getD s 0)]
  congr 1
  refine List.map_congr_left fun a ha => ?_
  have ha := List.mem_range.1 ha
  refine gn_getD (hp _ ?_) h
  rw [List.getD_eq_getElem?_getD, List.getElem?_eq_getElem ha]; exact List.getElem_mem ha
/-- the first place of the greatest -/
def ax (g : List Int) : Nat := g.findIdx fun y => y == maxI g
theorem ax_lt {g : List Int} (h : g ≠ []) : ax g < g.length := List.findIdx_lt_length_of_exists ⟨maxI g, (maxI_spec h).1, by simp⟩
theorem ax_get {g : List Int} (h : g ≠ []) : g.getD (ax g) 0 = maxI g := by
  have := List.findIdx_getElem (w := ax_lt h)
  rw [List.getD_eq_getElem?_getD, List.getElem?_eq_getElem (ax_lt h)]
  exact beq_iff_eq.1 this
theorem ax_first {g : List Int} (h : g ≠ []) : (List.range g.length).find? (fun x => g.getD x 0 == maxI g) = some (ax g) := by
  rw [List.find?_range_eq_some]
  refine ⟨by simp only [ax_get h, beq_self_eq_true], List.mem_range.2 (ax_lt h), fun j hj => ?_⟩
  have hl := ax_lt h
  have := List.not_of_lt_findIdx hj
  rw [List.getD_eq_getElem?_getD, List.getElem?_eq_getElem (by omega)]
  simpa using this
/-- all plans -/
def plans (d : Nat) : Nat → List (List Nat)
  | 0 => [[]]
  | k + 1 => (plans d k).flatMap fun r => (List.range d).map fun x => r ++ [x]
theorem plans_len {d : Nat} : ∀ {k : Nat}, (plans d k).length = d ^ k
  | 0 => rfl
  | k + 1 => by
    have e : ∀ l : List (List Nat), (l.flatMap fun r => (List.range d).map fun x => r ++ [x]).length = l.length * d := fun l => by
      induction l with
      | nil => simp
      | cons x l ih => rw [List.flatMap_cons, List.length_append, ih, List.length_map, List.length_range, List.length_cons, Nat.succ_mul, Nat.add_comm]
    rw [plans, e, plans_len, Nat.pow_succ]
theorem plans_mem {d : Nat} : ∀ {k : Nat} {r : List Nat}, r ∈ plans d k → r.length = k ∧ ∀ x ∈ r, x < d
  | 0, r, h => by simp [plans] at h; subst h; simp
  | k + 1, r, h => by
    simp only [plans, List.mem_flatMap, List.mem_map, List.mem_range] at h
    obtain ⟨q, hq, x, hx, rfl⟩ := h
    obtain ⟨h1, h2⟩ := plans_mem hq
    refine ⟨by simp [h1], fun y hy => ?_⟩
    rcases List.mem_append.1 hy with hy | hy
    · exact h2 y hy
    · rw [List.mem_singleton] at hy; omega
def ok (gs : M) (one : List Nat) : Bool := (gs.zip one).all fun p => p.1.getD p.2 0 == maxI p.1
def tot (gs : M) (one : List Nat) : Int := ((gs.zip one).map fun p => p.1.getD p.2 0).sum
theorem tot_range {gs : M} {one : List Nat} (h : gs.length = one.length) : tot gs one = ((List.range gs.length).map fun a => (gs.getD a []).getD (one.getD a 0) 0).sum := by
  unfold tot; rw [zip_range (fun (g : List Int) (x : Nat) => g.getD x 0) [] 0 h]
theorem ok_snoc {gs : M} {g : List Int} {one : List Nat} {x : Nat} (h : gs.length = one.length) : ok (gs ++ [g]) (one ++ [x]) = (ok gs one && (g.getD x 0 == maxI g)) := by
  unfold ok
  rw [List.zip_append h, List.all_append]
  simp
theorem find_congr {α : Type} {p q : α → Bool} : ∀ {l : List α}, (∀ x ∈ l, p x = q x) → l.find? p = l.find? q
  | [], _ => rfl
  | x :: l, h => by rw [List.find?_cons, List.find?_cons, h x (by simp), find_congr fun y hy => h y (by simp [hy])]
theorem findSome_congr {α β : Type} {p q : α → Option β} : ∀ {l : List α}, (∀ x ∈ l, p x = q x) → l.findSome? p = l.findSome? q
  | [], _ => rfl
  | x :: l, h => by rw [List.findSome?_cons, List.findSome?_cons, h x (by simp), findSome_congr fun y hy => h y (by simp [hy])]
theorem find_best {d : Nat} (hd : 0 < d) : ∀ (n : Nat) (gs : M), gs.length = n → (∀ g ∈ gs, g.length = d) → (plans d n).find? (ok gs) = some (gs.map ax)
  | 0, gs, h, _ => by obtain rfl := List.length_eq_zero_iff.1 h; rfl
  | n + 1, gs, h, hg => by
    rcases List.eq_nil_or_concat gs with rfl | ⟨gs', g, rfl⟩
    · simp at h
    · rw [List.concat_eq_append] at h hg ⊢
      have hl : gs'.length = n := by simpa using h
      have ih := find_best hd n gs' hl fun y hy => hg y (by simp [hy])
      have hgl : g.length = d := hg g (by simp)
      have hne : g ≠ [] := fun e => by rw [e] at hgl; simp at hgl; omega
      rw [plans, List.find?_flatMap, findSome_congr (q := fun r => if ok gs' r = true then some (r ++ [ax g]) else none), findSome_if, ih]
      · simp
      · intro r hr
        rw [List.find?_map]
        have e : (ok (gs' ++ [g]) ∘ fun x => r ++ [x]) = fun x => ok gs' r && (g.getD x 0 == maxI g) := by
          funext x
          exact ok_snoc (by rw [hl, (plans_mem hr).1])
        rw [e]
        cases q : ok gs' r with
        | false =>
          have : (List.range d).find? (fun x => false && (g.getD x 0 == maxI g)) = none := by rw [List.find?_eq_none]; simp
          rw [this]; rfl
        | true =>
          have := ax_first hne
          rw [hgl] at this
          simp only [Bool.true_and, this, if_true, Option.map_some]
theorem tot_le : ∀ {gs : M} {one : List Nat}, gs.length = one.length → (∀ p ∈ gs.zip one, p.2 < p.1.length) → tot gs one ≤ (gs.map maxI).sum ∧ (tot gs one = (gs.map maxI).sum ↔ ok gs one = true)
  | [], [], _, _ => ⟨Int.le_refl _, by simp [tot, ok]⟩
  | g :: gs, x :: one, h, hp => by
    obtain ⟨h1, h2⟩ := tot_le (gs := gs) (one := one) (by simpa using h) fun p hp' => hp p (by simp [hp'])
    have hx : x < g.length := hp (g, x) (by simp)
    have hm : g.getD x 0 ≤ maxI g := by
      have hne : g ≠ [] := by rintro rfl; simp at hx
      rw [List.getD_eq_getElem?_getD, List.getElem?_eq_getElem hx]
      exact (maxI_spec hne).2 _ (List.getElem_mem hx)
    have e1 : tot (g :: gs) (x :: one) = g.getD x 0 + tot gs one := by simp [tot]
    have e2 : ok (g :: gs) (x :: one) = ((g.getD x 0 == maxI g) && ok gs one) := by simp [ok]
    rw [e1, e2, List.map_cons, List.sum_cons]
    refine ⟨by omega, ?_⟩
    rw [Bool.and_eq_true, beq_iff_eq, ← h2]
    omega
theorem best_mem {d : Nat} {gs : M} (hg : ∀ g ∈ gs, g.length = d) (hd : 0 < d) : gs.map ax ∈ plans d gs.length := List.mem_of_find?_eq_some (find_best hd _ gs rfl hg)
theorem best_ok {d : Nat} {gs : M} (hg : ∀ g ∈ gs, g.length = d) (hd : 0 < d) : ok gs (gs.map ax) = true := List.find?_some (find_best hd _ gs rfl hg)
theorem zip_lt {d : Nat} {gs : M} {one : List Nat} (hg : ∀ g ∈ gs, g.length = d) (ho : ∀ x ∈ one, x < d) : ∀ p ∈ gs.zip one, p.2 < p.1.length := fun p hp => by
  have h := List.of_mem_zip (show (p.1, p.2) ∈ gs.zip one from hp)
  rw [hg _ h.1]; exact ho _ h.2
theorem findIdx_get {α : Type} {p : α → Bool} {x0 : α} : ∀ {l : List α}, l.getD (l.findIdx p) x0 = (l.find? p).getD x0
  | [] => rfl
  | x :: l => by
    rw [List.findIdx_cons, List.find?_cons]
    cases p x with
    | true => rfl
    | false => simpa using findIdx_get (l := l)
/-- the first of all plans with the greatest sum -/
theorem first_best {d : Nat} {gs : M} (hg : ∀ g ∈ gs, g.length = d) (hd : 0 < d) : (plans d gs.length).getD (ax ((plans d gs.length).map (tot gs))) [] = gs.map ax := by
  have hl : ∀ one ∈ plans d gs.length, gs.length = one.length ∧ ∀ p ∈ gs.zip one, p.2 < p.1.length := fun one h => ⟨(plans_mem h).1.symm, zip_lt hg (plans_mem h).2⟩
  have hb := best_mem hg hd
  have ht : tot gs (gs.map ax) = (gs.map maxI).sum := ((tot_le (hl _ hb).1 (hl _ hb).2).2).2 (best_ok hg hd)
  have hne : (plans d gs.length).map (tot gs) ≠ [] := fun e => by
    have := List.mem_map_of_mem (f := tot gs) hb
    rw [e] at this; cases this
  have hM : maxI ((plans d gs.length).map (tot gs)) = (gs.map maxI).sum := by
    obtain ⟨h1, h2⟩ := maxI_spec hne
    obtain ⟨one, ho, e⟩ := List.mem_map.1 h1
    have := (tot_le (hl _ ho).1 (hl _ ho).2).1
    have := h2 _ (List.mem_map_of_mem hb)
    omega
  unfold ax
  rw [List.findIdx_map, findIdx_get, hM]
  rw [find_congr (q := ok gs) fun one ho => by
    rw [Bool.eq_iff_iff]
    simp only [Function.comp, beq_iff_eq]
    exact (tot_le (hl _ ho).1 (hl _ ho).2).2]
  rw [find_best hd _ gs rfl hg]; rfl
theorem tot_best {d : Nat} {gs : M} (hg : ∀ g ∈ gs, g.length = d) (hd : 0 < d) : tot gs (gs.map ax) = (gs.map maxI).sum := by
  have hb := best_mem hg hd
  exact ((tot_le (by simp) (zip_lt hg (plans_mem hb).2)).2).2 (best_ok hg hd)
end Sheet
end

section
namespace Law
open PySem PySem.Spec PyProof.Rows L2 Sh Sheet
open Classical
theorem is_int_eq : m_is_int = Wn.m_is_int := rfl
theorem within_eq : m_within = Wn.m_within := rfl
theorem is_row_eq : m_is_row = Wn.m_is_row := rfl
section
variable {S : Sto} {x : PyData} {xs : List PyData} {R : List (List PyData)} {rs sh ch : List (List Int)} {a4 a5 a6 a7 : Option W}
abbrev bnd : PyData := .tuple [.int 1, .int 6]
theorem bnd0 : opIx (.d bnd) (.d (.int 0)) S = .ok (.d (.int 1)) S := opIx_tup rfl
theorem bnd1 : opIx (.d bnd) (.d (.int 1)) S = .ok (.d (.int 6)) S := opIx_tup rfl
abbrev rTT (R : List (List PyData)) : PyData := .tuple (R.map .tuple)
theorem iSq_rTT {ρ : Rho} {m : EM} (h : m ρ S = .ok (.d (rTT R)) S) : iSq m ρ S = .ok ⟨R.map fun r => W.d (.tuple r), fun _ => True⟩ S := by rw [iSq_tup h, List.map_map]; rfl
theorem zTT_rTT : zTT rs = rTT (rs.map fun r => r.map .int) := by simp only [zTT, rTT, List.map_map]; rfl
def okE : PyData → Bool
  | .int i => decide (0 ≤ i)
  | _ => false
def szOk (n : Nat) : Bool := decide (1 ≤ n) && decide (n ≤ 6)
abbrev cR (x : PyData) (a4 a5 a6 a7 : Option W) : Rho := [some (.d x), some (.d bnd), some (.d (.int 6)), some (.d (.int 1000)), a4, a5, a6, a7]
theorem c4_kind (h : isiT (tyD x) "tuple" = false) : l_are_counts_4 (cR x a4 a5 a6 a7) S = .ok (.rt (.d (.bool false))) S := by
  unfold l_are_counts_4
  simp only [eVar_ap, eK_ap, aNil_ap, aCons_ap, eOp2_ap, eOp1_ap, eChain_ap, bOf_ap, bNot_ap, bAnd_ap, bOr_ap, eAnd_ap, eOr_ap, eNot_ap, eIf_ap, eTup_ap, eLst_ap, eLstM_ap, cNop_ap, cBreak_ap, cCont_ap, cSeq_ap, cExpr_ap, cSet_ap, cRet_ap, cRetN_ap, cIf_ap, cAsg_ap, cPar2_ap, cPar3_ap, bYes_ap, eCall_ap, oNone_ap, oSome_ap, eSl_ap, cFor_ap, eMtL_ap, aKw_ap, gNm_ap, gTp2, gTp3, gSb_ap, mkTup0, mkTup1, mkTup2, mkTup3, Out.bind, Out.ofO, exq, fin, callE_ap, List.getElem?_cons_succ, List.getElem?_cons_zero, List.set_cons_succ, List.set_cons_zero, List.map_cons, List.map_nil, List.replicate, List.cons_append, List.nil_append, List.length_cons, List.length_nil, Bool.not_true, Bool.not_false, if_true, if_false, ite_true, ite_false, reduceIte, Bool.false_eq_true, Bool.true_eq_false, Nat.reduceAdd, unD, Option.map_some, Nat.zero_le, Sh.sz1, Sh.sz2, Sh.sz3, Sh.sz4, Sh.sz5, Sh.sz6, Sh.sz7, Sh.sz8, Sh.sz9, Sh.sz10, Sh.sz11, Sh.sz12, Sh.sz13, Sh.sz14, Sh.sz15, Sh.sz16, Nat.reduceSub, Nat.reduceLeDiff, reduceCtorEq, Bool.and_true, Bool.true_and, Bool.and_false, Bool.false_and, Bool.or_true, Bool.or_false, Bool.true_or, Bool.false_or, opIsi_d, h]
theorem c4_tup : l_are_counts_4 (cR (.tuple xs) a4 a5 a6 a7) S = .ok (if szOk xs.length = true then .nx (cR (.tuple xs) a4 a5 a6 a7) else .rt (.d (.bool false))) S := by
  unfold l_are_counts_4
  simp only [eVar_ap, eK_ap, aNil_ap, aCons_ap, eOp2_ap, eOp1_ap, eChain_ap, bOf_ap, bNot_ap, bAnd_ap, bOr_ap, eAnd_ap, eOr_ap, eNot_ap, eIf_ap, eTup_ap, eLst_ap, eLstM_ap, cNop_ap, cBreak_ap, cCont_ap, cSeq_ap, cExpr_ap, cSet_ap, cRet_ap, cRetN_ap, cIf_ap, cAsg_ap, cPar2_ap, cPar3_ap, bYes_ap, eCall_ap, oNone_ap, oSome_ap, eSl_ap, cFor_ap, eMtL_ap, aKw_ap, gNm_ap, gTp2, gTp3, gSb_ap, mkTup0, mkTup1, mkTup2, mkTup3, Out.bind, Out.ofO, exq, fin, callE_ap, List.getElem?_cons_succ, List.getElem?_cons_zero, List.set_cons_succ, List.set_cons_zero, List.map_cons, List.map_nil, List.replicate, List.cons_append, List.nil_append, List.length_cons, List.length_nil, Bool.not_true, Bool.not_false, if_true, if_false, ite_true, ite_false, reduceIte, Bool.false_eq_true, Bool.true_eq_false, Nat.reduceAdd, unD, Option.map_some, Nat.zero_le, Sh.sz1, Sh.sz2, Sh.sz3, Sh.sz4, Sh.sz5, Sh.sz6, Sh.sz7, Sh.sz8, Sh.sz9, Sh.sz10, Sh.sz11, Sh.sz12, Sh.sz13, Sh.sz14, Sh.sz15, Sh.sz16, Nat.reduceSub, Nat.reduceLeDiff, reduceCtorEq, Bool.and_true, Bool.true_and, Bool.and_false, Bool.false_and, Bool.or_true, Bool.or_false, Bool.true_or, Bool.false_or, opIsi_d, show isiT (tyD (.tuple xs)) "tuple" = true from rfl, bLen_tup, bnd0, bnd1, within_eq]
  rw [callP_d (Wn.within_ok (S := []) (x := .int (xs.length : Int)) (lo := 1) (hi := 6))]
  have e : Wn.inR (.int (xs.length : Int)) 1 6 = szOk xs.length := by
    unfold Wn.inR szOk
    rw [Bool.eq_iff_iff]; simp; omega
  rw [e]
  cases szOk xs.length <;> simp only [eVar_ap, eK_ap, aNil_ap, aCons_ap, eOp2_ap, eOp1_ap, eChain_ap, bOf_ap, bNot_ap, bAnd_ap, bOr_ap, eAnd_ap, eOr_ap, eNot_ap, eIf_ap, eTup_ap, eLst_ap, eLstM_ap, cNop_ap, cBreak_ap, cCont_ap, cSeq_ap, cExpr_ap, cSet_ap, cRet_ap, cRetN_ap, cIf_ap, cAsg_ap, cPar2_ap, cPar3_ap, bYes_ap, eCall_ap, oNone_ap, oSome_ap, eSl_ap, cFor_ap, eMtL_ap, aKw_ap, gNm_ap, gTp2, gTp3, gSb_ap, mkTup0, mkTup1, mkTup2, mkTup3, Out.bind, Out.ofO, exq, fin, callE_ap, List.getElem?_cons_succ, List.getElem?_cons_zero, List.set_cons_succ, List.set_cons_zero, List.map_cons, List.map_nil, List.replicate, List.cons_append, List.nil_append, List.length_cons, List.length_nil, Bool.not_true, Bool.not_false, if_true, if_false, ite_true, ite_false, reduceIte, Bool.false_eq_true, Bool.true_eq_false, Nat.reduceAdd, unD, Option.map_some, Nat.zero_le, Sh.sz1, Sh.sz2, Sh.sz3, Sh.sz4, Sh.sz5, Sh.sz6, Sh.sz7, Sh.sz8, Sh.sz9, Sh.sz10, Sh.sz11, Sh.sz12, Sh.sz13, Sh.sz14, Sh.sz15, Sh.sz16, Nat.reduceSub, Nat.reduceLeDiff, reduceCtorEq, Bool.and_true, Bool.true_and, Bool.and_false, Bool.false_and, Bool.or_true, Bool.or_false, Bool.true_or, Bool.false_or]
theorem c5 (hR : R.length ≤ 1000) : l_are_counts_5 (cR (rTT R) a4 a5 a6 a7) S = .ok (if R.all (fun r => decide (1 ≤ r.length)) = true then .nx (cR (rTT R) a4 a5 a6 a7) else .rt (.d (.bool false))) S := by
  unfold l_are_counts_5 q_are_counts_0
  simp only [eVar_ap, eK_ap, aNil_ap, aCons_ap, eOp2_ap, eOp1_ap, eChain_ap, bOf_ap, bNot_ap, bAnd_ap, bOr_ap, eAnd_ap, eOr_ap, eNot_ap, eIf_ap, eTup_ap, eLst_ap, eLstM_ap, cNop_ap, cBreak_ap, cCont_ap, cSeq_ap, cExpr_ap, cSet_ap, cRet_ap, cRetN_ap, cIf_ap, cAsg_ap, cPar2_ap, cPar3_ap, bYes_ap, eCall_ap, oNone_ap, oSome_ap, eSl_ap, cFor_ap, eMtL_ap, aKw_ap, gNm_ap, gTp2, gTp3, gSb_ap, mkTup0, mkTup1, mkTup2, mkTup3, Out.bind, Out.ofO, exq, fin, callE_ap, List.getElem?_cons_succ, List.getElem?_cons_zero, List.set_cons_succ, List.set_cons_zero, List.map_cons, List.map_nil, List.replicate, List.cons_append, List.nil_append, List.length_cons, List.length_nil, Bool.not_true, Bool.not_false, if_true, if_false, ite_true, ite_false, reduceIte, Bool.false_eq_true, Bool.true_eq_false, Nat.reduceAdd, unD, Option.map_some, Nat.zero_le, Sh.sz1, Sh.sz2, Sh.sz3, Sh.sz4, Sh.sz5, Sh.sz6, Sh.sz7, Sh.sz8, Sh.sz9, Sh.sz10, Sh.sz11, Sh.sz12, Sh.sz13, Sh.sz14, Sh.sz15, Sh.sz16, Nat.reduceSub, Nat.reduceLeDiff, reduceCtorEq, Bool.and_true, Bool.true_and, Bool.and_false, Bool.false_and, Bool.or_true, Bool.or_false, Bool.true_or, Bool.false_or]
  rw [eLc_y R (fun r => W.d (.tuple r)) (fun r => .bool (decide (1 ≤ r.length))) (grd := fun _ => True) (iSq_rTT rfl) trivial (len_le hR) fun r hr => ⟨_, rfl, ?_⟩]
  · simp only [eVar_ap, eK_ap, aNil_ap, aCons_ap, eOp2_ap, eOp1_ap, eChain_ap, bOf_ap, bNot_ap, bAnd_ap, bOr_ap, eAnd_ap, eOr_ap, eNot_ap, eIf_ap, eTup_ap, eLst_ap, eLstM_ap, cNop_ap, cBreak_ap, cCont_ap, cSeq_ap, cExpr_ap, cSet_ap, cRet_ap, cRetN_ap, cIf_ap, cAsg_ap, cPar2_ap, cPar3_ap, bYes_ap, eCall_ap, oNone_ap, oSome_ap, eSl_ap, cFor_ap, eMtL_ap, aKw_ap, gNm_ap, gTp2, gTp3, gSb_ap, mkTup0, mkTup1, mkTup2, mkTup3, Out.bind, Out.ofO, exq, fin, callE_ap, List.getElem?_cons_succ, List.getElem?_cons_zero, List.set_cons_succ, List.set_cons_zero, List.map_cons, List.map_nil, List.replicate, List.cons_append, List.nil_append, List.length_cons, List.length_nil, Bool.not_true, Bool.not_false, if_true, if_false, ite_true, ite_false, reduceIte, Bool.false_eq_true, Bool.true_eq_false, Nat.reduceAdd, unD, Option.map_some, Nat.zero_le, Sh.sz1, Sh.sz2, Sh.sz3, Sh.sz4, Sh.sz5, Sh.sz6, Sh.sz7, Sh.sz8, Sh.sz9, Sh.sz10, Sh.sz11, Sh.sz12, Sh.sz13, Sh.sz14, Sh.sz15, Sh.sz16, Nat.reduceSub, Nat.reduceLeDiff, reduceCtorEq, Bool.and_true, Bool.true_and, Bool.and_false, Bool.false_and, Bool.or_true, Bool.or_false, Bool.true_or, Bool.false_or, bAll_map]
    cases R.all fun r => decide (1 ≤ r.length) <;> simp only [eVar_ap, eK_ap, aNil_ap, aCons_ap, eOp2_ap, eOp1_ap, eChain_ap, bOf_ap, bNot_ap, bAnd_ap, bOr_ap, eAnd_ap, eOr_ap, eNot_ap, eIf_ap, eTup_ap, eLst_ap, eLstM_ap, cNop_ap, cBreak_ap, cCont_ap, cSeq_ap, cExpr_ap, cSet_ap, cRet_ap, cRetN_ap, cIf_ap, cAsg_ap, cPar2_ap, cPar3_ap, bYes_ap, eCall_ap, oNone_ap, oSome_ap, eSl_ap, cFor_ap, eMtL_ap, aKw_ap, gNm_ap, gTp2, gTp3, gSb_ap, mkTup0, mkTup1, mkTup2, mkTup3, Out.bind, Out.ofO, exq, fin, callE_ap, List.getElem?_cons_succ, List.getElem?_cons_zero, List.set_cons_succ, List.set_cons_zero, List.map_cons, List.map_nil, List.replicate, List.cons_append, List.nil_append, List.length_cons, List.length_nil, Bool.not_true, Bool.not_false, if_true, if_false, ite_true, ite_false, reduceIte, Bool.false_eq_true, Bool.true_eq_false, Nat.reduceAdd, unD, Option.map_some, Nat.zero_le, Sh.sz1, Sh.sz2, Sh.sz3, Sh.sz4, Sh.sz5, Sh.sz6, Sh.sz7, Sh.sz8, Sh.sz9, Sh.sz10, Sh.sz11, Sh.sz12, Sh.sz13, Sh.sz14, Sh.sz15, Sh.sz16, Nat.reduceSub, Nat.reduceLeDiff, reduceCtorEq, Bool.and_true, Bool.true_and, Bool.and_false, Bool.false_and, Bool.or_true, Bool.or_false, Bool.true_or, Bool.false_or]
  · simp only [eVar_ap, eK_ap, aNil_ap, aCons_ap, eOp2_ap, eOp1_ap, eChain_ap, bOf_ap, bNot_ap, bAnd_ap, bOr_ap, eAnd_ap, eOr_ap, eNot_ap, eIf_ap, eTup_ap, eLst_ap, eLstM_ap, cNop_ap, cBreak_ap, cCont_ap, cSeq_ap, cExpr_ap, cSet_ap, cRet_ap, cRetN_ap, cIf_ap, cAsg_ap, cPar2_ap, cPar3_ap, bYes_ap, eCall_ap, oNone_ap, oSome_ap, eSl_ap, cFor_ap, eMtL_ap, aKw_ap, gNm_ap, gTp2, gTp3, gSb_ap, mkTup0, mkTup1, mkTup2, mkTup3, Out.bind, Out.ofO, exq, fin, callE_ap, List.getElem?_cons_succ, List.getElem?_cons_zero, List.set_cons_succ, List.set_cons_zero, List.map_cons, List.map_nil, List.replicate, List.cons_append, List.nil_append, List.length_cons, List.length_nil, Bool.not_true, Bool.not_false, if_true, if_false, ite_true, ite_false, reduceIte, Bool.false_eq_true, Bool.true_eq_false, Nat.reduceAdd, unD, Option.map_some, Nat.zero_le, Sh.sz1, Sh.sz2, Sh.sz3, Sh.sz4, Sh.sz5, Sh.sz6, Sh.sz7, Sh.sz8, Sh.sz9, Sh.sz10, Sh.sz11, Sh.sz12, Sh.sz13, Sh.sz14, Sh.sz15, Sh.sz16, Nat.reduceSub, Nat.reduceLeDiff, reduceCtorEq, Bool.and_true, Bool.true_and, Bool.and_false, Bool.false_and, Bool.or_true, Bool.or_false, Bool.true_or, Bool.false_or, wipeR, opIsi_d, show isiT (tyD (.tuple r)) "tuple" = true from rfl, bLen_tup, opInt_int]
    have : decide ((r.length : Int) ≥ 1) = decide (1 ≤ r.length) := decide_eq_decide.2 (by omega)
    rw [this]
theorem ent_ok {ρ : Rho} {e : PyData} (h : ρ[7]? = some (some (.d e))) : (eAnd (eCall (callP m_is_int) (aCons (eVar 7) aNil)) (eOp2 (opGe) (eVar 7) (eInt 0))) ρ S = .ok (.d (.bool (okE e))) S := by
  simp only [eVar_ap, eK_ap, aNil_ap, aCons_ap, eOp2_ap, eOp1_ap, eChain_ap, bOf_ap, bNot_ap, bAnd_ap, bOr_ap, eAnd_ap, eOr_ap, eNot_ap, eIf_ap, eTup_ap, eLst_ap, eLstM_ap, cNop_ap, cBreak_ap, cCont_ap, cSeq_ap, cExpr_ap, cSet_ap, cRet_ap, cRetN_ap, cIf_ap, cAsg_ap, cPar2_ap, cPar3_ap, bYes_ap, eCall_ap, oNone_ap, oSome_ap, eSl_ap, cFor_ap, eMtL_ap, aKw_ap, gNm_ap, gTp2, gTp3, gSb_ap, mkTup0, mkTup1, mkTup2, mkTup3, Out.bind, Out.ofO, exq, fin, callE_ap, List.getElem?_cons_succ, List.getElem?_cons_zero, List.set_cons_succ, List.set_cons_zero, List.map_cons, List.map_nil, List.replicate, List.cons_append, List.nil_append, List.length_cons, List.length_nil, Bool.not_true, Bool.not_false, if_true, if_false, ite_true, ite_false, reduceIte, Bool.false_eq_true, Bool.true_eq_false, Nat.reduceAdd, unD, Option.map_some, Nat.zero_le, Sh.sz1, Sh.sz2, Sh.sz3, Sh.sz4, Sh.sz5, Sh.sz6, Sh.sz7, Sh.sz8, Sh.sz9, Sh.sz10, Sh.sz11, Sh.sz12, Sh.sz13, Sh.sz14, Sh.sz15, Sh.sz16, Nat.reduceSub, Nat.reduceLeDiff, reduceCtorEq, Bool.and_true, Bool.true_and, Bool.and_false, Bool.false_and, Bool.or_true, Bool.or_false, Bool.true_or, Bool.false_or, h, is_int_eq]
  rw [callP_d (Wn.is_int_ok (S := []) (x := e))]
  cases e <;> simp only [isI, okE] <;> try simp only [eVar_ap, eK_ap, aNil_ap, aCons_ap, eOp2_ap, eOp1_ap, eChain_ap, bOf_ap, bNot_ap, bAnd_ap, bOr_ap, eAnd_ap, eOr_ap, eNot_ap, eIf_ap, eTup_ap, eLst_ap, eLstM_ap, cNop_ap, cBreak_ap, cCont_ap, cSeq_ap, cExpr_ap, cSet_ap, cRet_ap, cRetN_ap, cIf_ap, cAsg_ap, cPar2_ap, cPar3_ap, bYes_ap, eCall_ap, oNone_ap, oSome_ap, eSl_ap, cFor_ap, eMtL_ap, aKw_ap, gNm_ap, gTp2, gTp3, gSb_ap, mkTup0, mkTup1, mkTup2, mkTup3, Out.bind, Out.ofO, exq, fin, callE_ap, List.getElem?_cons_succ, List.getElem?_cons_zero, List.set_cons_succ, List.set_cons_zero, List.map_cons, List.map_nil, List.replicate, List.cons_append, List.nil_append, List.length_cons, List.length_nil, Bool.not_true, Bool.not_false, if_true, if_false, ite_true, ite_false, reduceIte, Bool.false_eq_true, Bool.true_eq_false, Nat.reduceAdd, unD, Option.map_some, Nat.zero_le, Sh.sz1, Sh.sz2, Sh.sz3, Sh.sz4, Sh.sz5, Sh.sz6, Sh.sz7, Sh.sz8, Sh.sz9, Sh.sz10, Sh.sz11, Sh.sz12, Sh.sz13, Sh.sz14, Sh.sz15, Sh.sz16, Nat.reduceSub, Nat.reduceLeDiff, reduceCtorEq, Bool.and_true, Bool.true_and, Bool.and_false, Bool.false_and, Bool.or_true, Bool.or_false, Bool.true_or, Bool.false_or, h]
  rename_i i
  simp only [eVar_ap, eK_ap, aNil_ap, aCons_ap, eOp2_ap, eOp1_ap, eChain_ap, bOf_ap, bNot_ap, bAnd_ap, bOr_ap, eAnd_ap, eOr_ap, eNot_ap, eIf_ap, eTup_ap, eLst_ap, eLstM_ap, cNop_ap, cBreak_ap, cCont_ap, cSeq_ap, cExpr_ap, cSet_ap, cRet_ap, cRetN_ap, cIf_ap, cAsg_ap, cPar2_ap, cPar3_ap, bYes_ap, eCall_ap, oNone_ap, oSome_ap, eSl_ap, cFor_ap, eMtL_ap, aKw_ap, gNm_ap, gTp2, gTp3, gSb_ap, mkTup0, mkTup1, mkTup2, mkTup3, Out.bind, Out.ofO, exq, fin, callE_ap, List.getElem?_cons_succ, List.getElem?_cons_zero, List.set_cons_succ, List.set_cons_zero, List.map_cons, List.map_nil, List.replicate, List.cons_append, List.nil_append, List.length_cons, List.length_nil, Bool.not_true, Bool.not_false, if_true, if_false, ite_true, ite_false, reduceIte, Bool.false_eq_true, Bool.true_eq_false, Nat.reduceAdd, unD, Option.map_some, Nat.zero_le, Sh.sz1, Sh.sz2, Sh.sz3, Sh.sz4, Sh.sz5, Sh.sz6, Sh.sz7, Sh.sz8, Sh.sz9, Sh.sz10, Sh.sz11, Sh.sz12, Sh.sz13, Sh.sz14, Sh.sz15, Sh.sz16, Nat.reduceSub, Nat.reduceLeDiff, reduceCtorEq, Bool.and_true, Bool.true_and, Bool.and_false, Bool.false_and, Bool.or_true, Bool.or_false, Bool.true_or, Bool.false_or, opInt_int]
theorem flat_map {α β : Type} {f : α → β} {R : List (List α)} : (R.flatMap fun r => r.map f) = (R.flatMap id).map f := by rw [List.map_flatMap]; rfl
theorem c6 (hR : (R.flatMap id).length ≤ 1000) : l_are_counts_6 (cR (rTT R) a4 a5 a6 a7) S = .ok (if (R.flatMap id).all okE = true then .nx (cR (rTT R) a4 a5 a6 a7) else .rt (.d (.bool false))) S := by
  unfold l_are_counts_6 q_are_counts_1
  simp only [eVar_ap, eK_ap, aNil_ap, aCons_ap, eOp2_ap, eOp1_ap, eChain_ap, bOf_ap, bNot_ap, bAnd_ap, bOr_ap, eAnd_ap, eOr_ap, eNot_ap, eIf_ap, eTup_ap, eLst_ap, eLstM_ap, cNop_ap, cBreak_ap, cCont_ap, cSeq_ap, cExpr_ap, cSet_ap, cRet_ap, cRetN_ap, cIf_ap, cAsg_ap, cPar2_ap, cPar3_ap, bYes_ap, eCall_ap, oNone_ap, oSome_ap, eSl_ap, cFor_ap, eMtL_ap, aKw_ap, gNm_ap, gTp2, gTp3, gSb_ap, mkTup0, mkTup1, mkTup2, mkTup3, Out.bind, Out.ofO, exq, fin, callE_ap, List.getElem?_cons_succ, List.getElem?_cons_zero, List.set_cons_succ, List.set_cons_zero, List.map_cons, List.map_nil, List.replicate, List.cons_append, List.nil_append, List.length_cons, List.length_nil, Bool.not_true, Bool.not_false, if_true, if_false, ite_true, ite_false, reduceIte, Bool.false_eq_true, Bool.true_eq_false, Nat.reduceAdd, unD, Option.map_some, Nat.zero_le, Sh.sz1, Sh.sz2, Sh.sz3, Sh.sz4, Sh.sz5, Sh.sz6, Sh.sz7, Sh.sz8, Sh.sz9, Sh.sz10, Sh.sz11, Sh.sz12, Sh.sz13, Sh.sz14, Sh.sz15, Sh.sz16, Nat.reduceSub, Nat.reduceLeDiff, reduceCtorEq, Bool.and_true, Bool.true_and, Bool.and_false, Bool.false_and, Bool.or_true, Bool.or_false, Bool.true_or, Bool.false_or]
  rw [eLc2_y R (fun r => W.d (.tuple r)) (fun r => r) (fun e => W.d e) (fun r e => .bool (okE e)) (grd := fun _ => True) (iSq_rTT rfl) trivial ?_ fun r hr => ⟨_, rfl, iSq_tup rfl, fun e he => ⟨_, rfl, ent_ok rfl⟩⟩]
  · rw [flat_map]
    simp only [eVar_ap, eK_ap, aNil_ap, aCons_ap, eOp2_ap, eOp1_ap, eChain_ap, bOf_ap, bNot_ap, bAnd_ap, bOr_ap, eAnd_ap, eOr_ap, eNot_ap, eIf_ap, eTup_ap, eLst_ap, eLstM_ap, cNop_ap, cBreak_ap, cCont_ap, cSeq_ap, cExpr_ap, cSet_ap, cRet_ap, cRetN_ap, cIf_ap, cAsg_ap, cPar2_ap, cPar3_ap, bYes_ap, eCall_ap, oNone_ap, oSome_ap, eSl_ap, cFor_ap, eMtL_ap, aKw_ap, gNm_ap, gTp2, gTp3, gSb_ap, mkTup0, mkTup1, mkTup2, mkTup3, Out.bind, Out.ofO, exq, fin, callE_ap, List.getElem?_cons_succ, List.getElem?_cons_zero, List.set_cons_succ, List.set_cons_zero, List.map_cons, List.map_nil, List.replicate, List.cons_append, List.nil_append, List.length_cons, List.length_nil, Bool.not_true, Bool.not_false, if_true, if_false, ite_true, ite_false, reduceIte, Bool.false_eq_true, Bool.true_eq_false, Nat.reduceAdd, unD, Option.map_some, Nat.zero_le, Sh.sz1, Sh.sz2, Sh.sz3, Sh.sz4, Sh.sz5, Sh.sz6, Sh.sz7, Sh.sz8, Sh.sz9, Sh.sz10, Sh.sz11, Sh.sz12, Sh.sz13, Sh.sz14, Sh.sz15, Sh.sz16, Nat.reduceSub, Nat.reduceLeDiff, reduceCtorEq, Bool.and_true, Bool.true_and, Bool.and_false, Bool.false_and, Bool.or_true, Bool.or_false, Bool.true_or, Bool.false_or, bAll_map]
    cases (R.flatMap id).all okE <;> simp only [eVar_ap, eK_ap, aNil_ap, aCons_ap, eOp2_ap, eOp1_ap, eChain_ap, bOf_ap, bNot_ap, bAnd_ap, bOr_ap, eAnd_ap, eOr_ap, eNot_ap, eIf_ap, eTup_ap, eLst_ap, eLstM_ap, cNop_ap, cBreak_ap, cCont_ap, cSeq_ap, cExpr_ap, cSet_ap, cRet_ap, cRetN_ap, cIf_ap, cAsg_ap, cPar2_ap, cPar3_ap, bYes_ap, eCall_ap, oNone_ap, oSome_ap, eSl_ap, cFor_ap, eMtL_ap, aKw_ap, gNm_ap, gTp2, gTp3, gSb_ap, mkTup0, mkTup1, mkTup2, mkTup3, Out.bind, Out.ofO, exq, fin, callE_ap, List.getElem?_cons_succ, List.getElem?_cons_zero, List.set_cons_succ, List.set_cons_zero, List.map_cons, List.map_nil, List.replicate, List.cons_append, List.nil_append, List.length_cons, List.length_nil, Bool.not_true, Bool.not_false, if_true, if_false, ite_true, ite_false, reduceIte, Bool.false_eq_true, Bool.true_eq_false, Nat.reduceAdd, unD, Option.map_some, Nat.zero_le, Sh.sz1, Sh.sz2, Sh.sz3, Sh.sz4, Sh.sz5, Sh.sz6, Sh.sz7, Sh.sz8, Sh.sz9, Sh.sz10, Sh.sz11, Sh.sz12, Sh.sz13, Sh.sz14, Sh.sz15, Sh.sz16, Nat.reduceSub, Nat.reduceLeDiff, reduceCtorEq, Bool.and_true, Bool.true_and, Bool.and_false, Bool.false_and, Bool.or_true, Bool.or_false, Bool.true_or, Bool.false_or]
  · rw [flat_map, List.length_map]; exact len_le hR
def lns (rs : List (List Int)) : List Int := rs.map fun r => (r.length : Int)
def sms (rs : List (List Int)) : List Int := rs.map fun r => r.sum
theorem c7 (hR : rs.length ≤ 1000) : l_are_counts_7 (cR (zTT rs) a4 a5 a6 a7) S = .ok (if decide (1 < dN (lns rs)) || decide (1 < dN (sms rs)) then .rt (.d (.bool false)) else .nx (cR (zTT rs) a4 a5 a6 a7)) S := by
  have e2 : q_are_counts_2 (cR (zTT rs) a4 a5 a6 a7) S = .ok (.d (zL (lns rs))) S := by
    unfold q_are_counts_2
    rw [eLc_y rs (fun r => W.d (zT r)) (fun r => .int (r.length : Int)) (grd := fun _ => True) (iSq_zTT rfl) trivial (len_le hR) fun r hr => ⟨_, rfl, by simp only [eVar_ap, eK_ap, aNil_ap, aCons_ap, eOp2_ap, eOp1_ap, eChain_ap, bOf_ap, bNot_ap, bAnd_ap, bOr_ap, eAnd_ap, eOr_ap, eNot_ap, eIf_ap, eTup_ap, eLst_ap, eLstM_ap, cNop_ap, cBreak_ap, cCont_ap, cSeq_ap, cExpr_ap, cSet_ap, cRet_ap, cRetN_ap, cIf_ap, cAsg_ap, cPar2_ap, cPar3_ap, bYes_ap, eCall_ap, oNone_ap, oSome_ap, eSl_ap, cFor_ap, eMtL_ap, aKw_ap, gNm_ap, gTp2, gTp3, gSb_ap, mkTup0, mkTup1, mkTup2, mkTup3, Out.bind, Out.ofO, exq, fin, callE_ap, List.getElem?_cons_succ, List.getElem?_cons_zero, List.set_cons_succ, List.set_cons_zero, List.map_cons, List.map_nil, List.replicate, List.cons_append, List.nil_append, List.length_cons, List.length_nil, Bool.not_true, Bool.not_false, if_true, if_false, ite_true, ite_false, reduceIte, Bool.false_eq_true, Bool.true_eq_false, Nat.reduceAdd, unD, Option.map_some, Nat.zero_le, Sh.sz1, Sh.sz2, Sh.sz3, Sh.sz4, Sh.sz5, Sh.sz6, Sh.sz7, Sh.sz8, Sh.sz9, Sh.sz10, Sh.sz11, Sh.sz12, Sh.sz13, Sh.sz14, Sh.sz15, Sh.sz16, Nat.reduceSub, Nat.reduceLeDiff, reduceCtorEq, Bool.and_true, Bool.true_and, Bool.and_false, Bool.false_and, Bool.or_true, Bool.or_false, Bool.true_or, Bool.false_or, wipeR, bLen_tup, List.length_map]⟩]
    simp only [lns, zL, List.map_map]; rfl
  have e3 : q_are_counts_3 (cR (zTT rs) a4 a5 a6 a7) S = .ok (.d (zL (sms rs))) S := by
    unfold q_are_counts_3
    rw [eLc_y rs (fun r => W.d (zT r)) (fun r => .int r.sum) (grd := fun _ => True) (iSq_zTT rfl) trivial (len_le hR) fun r hr => ⟨_, rfl, by simp only [eVar_ap, eK_ap, aNil_ap, aCons_ap, eOp2_ap, eOp1_ap, eChain_ap, bOf_ap, bNot_ap, bAnd_ap, bOr_ap, eAnd_ap, eOr_ap, eNot_ap, eIf_ap, eTup_ap, eLst_ap, eLstM_ap, cNop_ap, cBreak_ap, cCont_ap, cSeq_ap, cExpr_ap, cSet_ap, cRet_ap, cRetN_ap, cIf_ap, cAsg_ap, cPar2_ap, cPar3_ap, bYes_ap, eCall_ap, oNone_ap, oSome_ap, eSl_ap, cFor_ap, eMtL_ap, aKw_ap, gNm_ap, gTp2, gTp3, gSb_ap, mkTup0, mkTup1, mkTup2, mkTup3, Out.bind, Out.ofO, exq, fin, callE_ap, List.getElem?_cons_succ, List.getElem?_cons_zero, List.set_cons_succ, List.set_cons_zero, List.map_cons, List.map_nil, List.replicate, List.cons_append, List.nil_append, List.length_cons, List.length_nil, Bool.not_true, Bool.not_false, if_true, if_false, ite_true, ite_false, reduceIte, Bool.false_eq_true, Bool.true_eq_false, Nat.reduceAdd, unD, Option.map_some, Nat.zero_le, Sh.sz1, Sh.sz2, Sh.sz3, Sh.sz4, Sh.sz5, Sh.sz6, Sh.sz7, Sh.sz8, Sh.sz9, Sh.sz10, Sh.sz11, Sh.sz12, Sh.sz13, Sh.sz14, Sh.sz15, Sh.sz16, Nat.reduceSub, Nat.reduceLeDiff, reduceCtorEq, Bool.and_true, Bool.true_and, Bool.and_false, Bool.false_and, Bool.or_true, Bool.or_false, Bool.true_or, Bool.false_or, wipeR, sum_zT]⟩]
    simp only [sms, zL, List.map_map]; rfl
  unfold l_are_counts_7 eLenSet
  simp only [eVar_ap, eK_ap, aNil_ap, aCons_ap, eOp2_ap, eOp1_ap, eChain_ap, bOf_ap, bNot_ap, bAnd_ap, bOr_ap, eAnd_ap, eOr_ap, eNot_ap, eIf_ap, eTup_ap, eLst_ap, eLstM_ap, cNop_ap, cBreak_ap, cCont_ap, cSeq_ap, cExpr_ap, cSet_ap, cRet_ap, cRetN_ap, cIf_ap, cAsg_ap, cPar2_ap, cPar3_ap, bYes_ap, eCall_ap, oNone_ap, oSome_ap, eSl_ap, cFor_ap, eMtL_ap, aKw_ap, gNm_ap, gTp2, gTp3, gSb_ap, mkTup0, mkTup1, mkTup2, mkTup3, Out.bind, Out.ofO, exq, fin, callE_ap, List.getElem?_cons_succ, List.getElem?_cons_zero, List.set_cons_succ, List.set_cons_zero, List.map_cons, List.map_nil, List.replicate, List.cons_append, List.nil_append, List.length_cons, List.length_nil, Bool.not_true, Bool.not_false, if_true, if_false, ite_true, ite_false, reduceIte, Bool.false_eq_true, Bool.true_eq_false, Nat.reduceAdd, unD, Option.map_some, Nat.zero_le, Sh.sz1, Sh.sz2, Sh.sz3, Sh.sz4, Sh.sz5, Sh.sz6, Sh.sz7, Sh.sz8, Sh.sz9, Sh.sz10, Sh.sz11, Sh.sz12, Sh.sz13, Sh.sz14, Sh.sz15, Sh.sz16, Nat.reduceSub, Nat.reduceLeDiff, reduceCtorEq, Bool.and_true, Bool.true_and, Bool.and_false, Bool.false_and, Bool.or_true, Bool.or_false, Bool.true_or, Bool.false_or, e2, e3]
  rw [lenSet_ok (intsD_map _) (by simp [lns]; omega)]
  simp only [eVar_ap, eK_ap, aNil_ap, aCons_ap, eOp2_ap, eOp1_ap, eChain_ap, bOf_ap, bNot_ap, bAnd_ap, bOr_ap, eAnd_ap, eOr_ap, eNot_ap, eIf_ap, eTup_ap, eLst_ap, eLstM_ap, cNop_ap, cBreak_ap, cCont_ap, cSeq_ap, cExpr_ap, cSet_ap, cRet_ap, cRetN_ap, cIf_ap, cAsg_ap, cPar2_ap, cPar3_ap, bYes_ap, eCall_ap, oNone_ap, oSome_ap, eSl_ap, cFor_ap, eMtL_ap, aKw_ap, gNm_ap, gTp2, gTp3, gSb_ap, mkTup0, mkTup1, mkTup2, mkTup3, Out.bind, Out.ofO, exq, fin, callE_ap, List.getElem?_cons_succ, List.getElem?_cons_zero, List.set_cons_succ, List.set_cons_zero, List.map_cons, List.map_nil, List.replicate, List.cons_append, List.nil_append, List.length_cons, List.length_nil, Bool.not_true, Bool.not_false, if_true, if_false, ite_true, ite_false, reduceIte, Bool.false_eq_true, Bool.true_eq_false, Nat.reduceAdd, unD, Option.map_some, Nat.zero_le, Sh.sz1, Sh.sz2, Sh.sz3, Sh.sz4, Sh.sz5, Sh.sz6, Sh.sz7, Sh.sz8, Sh.sz9, Sh.sz10, Sh.sz11, Sh.sz12, Sh.sz13, Sh.sz14, Sh.sz15, Sh.sz16, Nat.reduceSub, Nat.reduceLeDiff, reduceCtorEq, Bool.and_true, Bool.true_and, Bool.and_false, Bool.false_and, Bool.or_true, Bool.or_false, Bool.true_or, Bool.false_or, opInt_int]
  have d1 : decide ((dN (lns rs) : Int) > 1) = decide (1 < dN (lns rs)) := decide_eq_decide.2 (by omega)
  rw [d1]
  cases decide (1 < dN (lns rs))
  · simp only [eVar_ap, eK_ap, aNil_ap, aCons_ap, eOp2_ap, eOp1_ap, eChain_ap, bOf_ap, bNot_ap, bAnd_ap, bOr_ap, eAnd_ap, eOr_ap, eNot_ap, eIf_ap, eTup_ap, eLst_ap, eLstM_ap, cNop_ap, cBreak_ap, cCont_ap, cSeq_ap, cExpr_ap, cSet_ap, cRet_ap, cRetN_ap, cIf_ap, cAsg_ap, cPar2_ap, cPar3_ap, bYes_ap, eCall_ap, oNone_ap, oSome_ap, eSl_ap, cFor_ap, eMtL_ap, aKw_ap, gNm_ap, gTp2, gTp3, gSb_ap, mkTup0, mkTup1, mkTup2, mkTup3, Out.bind, Out.ofO, exq, fin, callE_ap, List.getElem?_cons_succ, List.getElem?_cons_zero, List.set_cons_succ, List.set_cons_zero, List.map_cons, List.map_nil, List.replicate, List.cons_append, List.nil_append, List.length_cons, List.length_nil, Bool.not_true, Bool.not_false, if_true, if_false, ite_true, ite_false, reduceIte, Bool.false_eq_true, Bool.true_eq_false, Nat.reduceAdd, unD, Option.map_some, Nat.zero_le, Sh.sz1, Sh.sz2, Sh.sz3, Sh.sz4, Sh.sz5, Sh.sz6, Sh.sz7, Sh.sz8, Sh.sz9, Sh.sz10, Sh.sz11, Sh.sz12, Sh.sz13, Sh.sz14, Sh.sz15, Sh.sz16, Nat.reduceSub, Nat.reduceLeDiff, reduceCtorEq, Bool.and_true, Bool.true_and, Bool.and_false, Bool.false_and, Bool.or_true, Bool.or_false, Bool.true_or, Bool.false_or, e3]
    rw [lenSet_ok (intsD_map _) (by simp [sms]; omega)]
    simp only [eVar_ap, eK_ap, aNil_ap, aCons_ap, eOp2_ap, eOp1_ap, eChain_ap, bOf_ap, bNot_ap, bAnd_ap, bOr_ap, eAnd_ap, eOr_ap, eNot_ap, eIf_ap, eTup_ap, eLst_ap, eLstM_ap, cNop_ap, cBreak_ap, cCont_ap, cSeq_ap, cExpr_ap, cSet_ap, cRet_ap, cRetN_ap, cIf_ap, cAsg_ap, cPar2_ap, cPar3_ap, bYes_ap, eCall_ap, oNone_ap, oSome_ap, eSl_ap, cFor_ap, eMtL_ap, aKw_ap, gNm_ap, gTp2, gTp3, gSb_ap, mkTup0, mkTup1, mkTup2, mkTup3, Out.bind, Out.ofO, exq, fin, callE_ap, List.getElem?_cons_succ, List.getElem?_cons_zero, List.set_cons_succ, List.set_cons_zero, List.map_cons, List.map_nil, List.replicate, List.cons_append, List.nil_append, List.length_cons, List.length_nil, Bool.not_true, Bool.not_false, if_true, if_false, ite_true, ite_false, reduceIte, Bool.false_eq_true, Bool.true_eq_false, Nat.reduceAdd, unD, Option.map_some, Nat.zero_le, Sh.sz1, Sh.sz2, Sh.sz3, Sh.sz4, Sh.sz5, Sh.sz6, Sh.sz7, Sh.sz8, Sh.sz9, Sh.sz10, Sh.sz11, Sh.sz12, Sh.sz13, Sh.sz14, Sh.sz15, Sh.sz16, Nat.reduceSub, Nat.reduceLeDiff, reduceCtorEq, Bool.and_true, Bool.true_and, Bool.and_false, Bool.false_and, Bool.or_true, Bool.or_false, Bool.true_or, Bool.false_or, opInt_int]
    have d2 : decide ((dN (sms rs) : Int) > 1) = decide (1 < dN (sms rs)) := decide_eq_decide.2 (by omega)
    rw [d2]
    cases decide (1 < dN (sms rs)) <;> simp only [eVar_ap, eK_ap, aNil_ap, aCons_ap, eOp2_ap, eOp1_ap, eChain_ap, bOf_ap, bNot_ap, bAnd_ap, bOr_ap, eAnd_ap, eOr_ap, eNot_ap, eIf_ap, eTup_ap, eLst_ap, eLstM_ap, cNop_ap, cBreak_ap, cCont_ap, cSeq_ap, cExpr_ap, cSet_ap, cRet_ap, cRetN_ap, cIf_ap, cAsg_ap, cPar2_ap, cPar3_ap, bYes_ap, eCall_ap, oNone_ap, oSome_ap, eSl_ap, cFor_ap, eMtL_ap, aKw_ap, gNm_ap, gTp2, gTp3, gSb_ap, mkTup0, mkTup1, mkTup2, mkTup3, Out.bind, Out.ofO, exq, fin, callE_ap, List.getElem?_cons_succ, List.getElem?_cons_zero, List.set_cons_succ, List.set_cons_zero, List.map_cons, List.map_nil, List.replicate, List.cons_append, List.nil_append, List.length_cons, List.length_nil, Bool.not_true, Bool.not_false, if_true, if_false, ite_true, ite_false, reduceIte, Bool.false_eq_true, Bool.true_eq_false, Nat.reduceAdd, unD, Option.map_some, Nat.zero_le, Sh.sz1, Sh.sz2, Sh.sz3, Sh.sz4, Sh.sz5, Sh.sz6, Sh.sz7, Sh.sz8, Sh.sz9, Sh.sz10, Sh.sz11, Sh.sz12, Sh.sz13, Sh.sz14, Sh.sz15, Sh.sz16, Nat.reduceSub, Nat.reduceLeDiff, reduceCtorEq, Bool.and_true, Bool.true_and, Bool.and_false, Bool.false_and, Bool.or_true, Bool.or_false, Bool.true_or, Bool.false_or]
  · simp only [eVar_ap, eK_ap, aNil_ap, aCons_ap, eOp2_ap, eOp1_ap, eChain_ap, bOf_ap, bNot_ap, bAnd_ap, bOr_ap, eAnd_ap, eOr_ap, eNot_ap, eIf_ap, eTup_ap, eLst_ap, eLstM_ap, cNop_ap, cBreak_ap, cCont_ap, cSeq_ap, cExpr_ap, cSet_ap, cRet_ap, cRetN_ap, cIf_ap, cAsg_ap, cPar2_ap, cPar3_ap, bYes_ap, eCall_ap, oNone_ap, oSome_ap, eSl_ap, cFor_ap, eMtL_ap, aKw_ap, gNm_ap, gTp2, gTp3, gSb_ap, mkTup0, mkTup1, mkTup2, mkTup3, Out.bind, Out.ofO, exq, fin, callE_ap, List.getElem?_cons_succ, List.getElem?_cons_zero, List.set_cons_succ, List.set_cons_zero, List.map_cons, List.map_nil, List.replicate, List.cons_append, List.nil_append, List.length_cons, List.length_nil, Bool.not_true, Bool.not_false, if_true, if_false, ite_true, ite_false, reduceIte, Bool.false_eq_true, Bool.true_eq_false, Nat.reduceAdd, unD, Option.map_some, Nat.zero_le, Sh.sz1, Sh.sz2, Sh.sz3, Sh.sz4, Sh.sz5, Sh.sz6, Sh.sz7, Sh.sz8, Sh.sz9, Sh.sz10, Sh.sz11, Sh.sz12, Sh.sz13, Sh.sz14, Sh.sz15, Sh.sz16, Nat.reduceSub, Nat.reduceLeDiff, reduceCtorEq, Bool.and_true, Bool.true_and, Bool.and_false, Bool.false_and, Bool.or_true, Bool.or_false, Bool.true_or, Bool.false_or]
theorem c8 (h0 : 0 < rs.length) : l_are_counts_8 (cR (zTT rs) a4 a5 a6 a7) S = .ok (.nx (cR (zTT rs) (some (.d (.int (rs.getD 0 []).sum))) (some (.d (.int ((rs.getD 0 []).length : Int)))) a6 a7)) S := by
  have x0 : opIx (.d (zTT rs)) (.d (.int 0)) S = .ok (.d (zT (rs.getD 0 []))) S := ix_zTT (k := 0) h0
  unfold l_are_counts_8
  simp only [eVar_ap, eK_ap, aNil_ap, aCons_ap, eOp2_ap, eOp1_ap, eChain_ap, bOf_ap, bNot_ap, bAnd_ap, bOr_ap, eAnd_ap, eOr_ap, eNot_ap, eIf_ap, eTup_ap, eLst_ap, eLstM_ap, cNop_ap, cBreak_ap, cCont_ap, cSeq_ap, cExpr_ap, cSet_ap, cRet_ap, cRetN_ap, cIf_ap, cAsg_ap, cPar2_ap, cPar3_ap, bYes_ap, eCall_ap, oNone_ap, oSome_ap, eSl_ap, cFor_ap, eMtL_ap, aKw_ap, gNm_ap, gTp2, gTp3, gSb_ap, mkTup0, mkTup1, mkTup2, mkTup3, Out.bind, Out.ofO, exq, fin, callE_ap, List.getElem?_cons_succ, List.getElem?_cons_zero, List.set_cons_succ, List.set_cons_zero, List.map_cons, List.map_nil, List.replicate, List.cons_append, List.nil_append, List.length_cons, List.length_nil, Bool.not_true, Bool.not_false, if_true, if_false, ite_true, ite_false, reduceIte, Bool.false_eq_true, Bool.true_eq_false, Nat.reduceAdd, unD, Option.map_some, Nat.zero_le, Sh.sz1, Sh.sz2, Sh.sz3, Sh.sz4, Sh.sz5, Sh.sz6, Sh.sz7, Sh.sz8, Sh.sz9, Sh.sz10, Sh.sz11, Sh.sz12, Sh.sz13, Sh.sz14, Sh.sz15, Sh.sz16, Nat.reduceSub, Nat.reduceLeDiff, reduceCtorEq, Bool.and_true, Bool.true_and, Bool.and_false, Bool.false_and, Bool.or_true, Bool.or_false, Bool.true_or, Bool.false_or, x0, sum_zT, bLen_tup, List.length_map]
def topOk (r : List Int) : Bool := decide (1 ≤ r.sum) && (decide (r.sum ≤ 1000) && decide (r.length ≤ 6))
theorem isN_int {i : Int} : opIsN (.d (.int i)) (.d .none) S = .ok (.d (.bool false)) S := rfl
theorem c9 {r : List Int} : l_are_counts_9 (cR x (some (.d (.int r.sum))) (some (.d (.int (r.length : Int)))) a6 a7) S = .ok (.rt (.d (.bool (topOk r)))) S := by
  unfold l_are_counts_9
  simp only [eVar_ap, eK_ap, aNil_ap, aCons_ap, eOp2_ap, eOp1_ap, eChain_ap, bOf_ap, bNot_ap, bAnd_ap, bOr_ap, eAnd_ap, eOr_ap, eNot_ap, eIf_ap, eTup_ap, eLst_ap, eLstM_ap, cNop_ap, cBreak_ap, cCont_ap, cSeq_ap, cExpr_ap, cSet_ap, cRet_ap, cRetN_ap, cIf_ap, cAsg_ap, cPar2_ap, cPar3_ap, bYes_ap, eCall_ap, oNone_ap, oSome_ap, eSl_ap, cFor_ap, eMtL_ap, aKw_ap, gNm_ap, gTp2, gTp3, gSb_ap, mkTup0, mkTup1, mkTup2, mkTup3, Out.bind, Out.ofO, exq, fin, callE_ap, List.getElem?_cons_succ, List.getElem?_cons_zero, List.set_cons_succ, List.set_cons_zero, List.map_cons, List.map_nil, List.replicate, List.cons_append, List.nil_append, List.length_cons, List.length_nil, Bool.not_true, Bool.not_false, if_true, if_false, ite_true, ite_false, reduceIte, Bool.false_eq_true, Bool.true_eq_false, Nat.reduceAdd, unD, Option.map_some, Nat.zero_le, Sh.sz1, Sh.sz2, Sh.sz3, Sh.sz4, Sh.sz5, Sh.sz6, Sh.sz7, Sh.sz8, Sh.sz9, Sh.sz10, Sh.sz11, Sh.sz12, Sh.sz13, Sh.sz14, Sh.sz15, Sh.sz16, Nat.reduceSub, Nat.reduceLeDiff, reduceCtorEq, Bool.and_true, Bool.true_and, Bool.and_false, Bool.false_and, Bool.or_true, Bool.or_false, Bool.true_or, Bool.false_or, isN_int, opInt_int]
  have d1 : decide (r.sum ≥ 1) = decide (1 ≤ r.sum) := rfl
  have d3 : decide ((r.length : Int) ≤ 6) = decide (r.length ≤ 6) := decide_eq_decide.2 (by omega)
  rw [d1, d3]
  unfold topOk
  cases decide (1 ≤ r.sum) <;> simp only [eVar_ap, eK_ap, aNil_ap, aCons_ap, eOp2_ap, eOp1_ap, eChain_ap, bOf_ap, bNot_ap, bAnd_ap, bOr_ap, eAnd_ap, eOr_ap, eNot_ap, eIf_ap, eTup_ap, eLst_ap, eLstM_ap, cNop_ap, cBreak_ap, cCont_ap, cSeq_ap, cExpr_ap, cSet_ap, cRet_ap, cRetN_ap, cIf_ap, cAsg_ap, cPar2_ap, cPar3_ap, bYes_ap, eCall_ap, oNone_ap, oSome_ap, eSl_ap, cFor_ap, eMtL_ap, aKw_ap, gNm_ap, gTp2, gTp3, gSb_ap, mkTup0, mkTup1, mkTup2, mkTup3, Out.bind, Out.ofO, exq, fin, callE_ap, List.getElem?_cons_succ, List.getElem?_cons_zero, List.set_cons_succ, List.set_cons_zero, List.map_cons, List.map_nil, List.replicate, List.cons_append, List.nil_append, List.length_cons, List.length_nil, Bool.not_true, Bool.not_false, if_true, if_false, ite_true, ite_false, reduceIte, Bool.false_eq_true, Bool.true_eq_false, Nat.reduceAdd, unD, Option.map_some, Nat.zero_le, Sh.sz1, Sh.sz2, Sh.sz3, Sh.sz4, Sh.sz5, Sh.sz6, Sh.sz7, Sh.sz8, Sh.sz9, Sh.sz10, Sh.sz11, Sh.sz12, Sh.sz13, Sh.sz14, Sh.sz15, Sh.sz16, Nat.reduceSub, Nat.reduceLeDiff, reduceCtorEq, Bool.and_true, Bool.true_and, Bool.and_false, Bool.false_and, Bool.or_true, Bool.or_false, Bool.true_or, Bool.false_or]
  cases decide (r.sum ≤ 1000) <;> simp only [eVar_ap, eK_ap, aNil_ap, aCons_ap, eOp2_ap, eOp1_ap, eChain_ap, bOf_ap, bNot_ap, bAnd_ap, bOr_ap, eAnd_ap, eOr_ap, eNot_ap, eIf_ap, eTup_ap, eLst_ap, eLstM_ap, cNop_ap, cBreak_ap, cCont_ap, cSeq_ap, cExpr_ap, cSet_ap, cRet_ap, cRetN_ap, cIf_ap, cAsg_ap, cPar2_ap, cPar3_ap, bYes_ap, eCall_ap, oNone_ap, oSome_ap, eSl_ap, cFor_ap, eMtL_ap, aKw_ap, gNm_ap, gTp2, gTp3, gSb_ap, mkTup0, mkTup1, mkTup2, mkTup3, Out.bind, Out.ofO, exq, fin, callE_ap, List.getElem?_cons_succ, List.getElem?_cons_zero, List.set_cons_succ, List.set_cons_zero, List.map_cons, List.map_nil, List.replicate, List.cons_append, List.nil_append, List.length_cons, List.length_nil, Bool.not_true, Bool.not_false, if_true, if_false, ite_true, ite_false, reduceIte, Bool.false_eq_true, Bool.true_eq_false, Nat.reduceAdd, unD, Option.map_some, Nat.zero_le, Sh.sz1, Sh.sz2, Sh.sz3, Sh.sz4, Sh.sz5, Sh.sz6, Sh.sz7, Sh.sz8, Sh.sz9, Sh.sz10, Sh.sz11, Sh.sz12, Sh.sz13, Sh.sz14, Sh.sz15, Sh.sz16, Nat.reduceSub, Nat.reduceLeDiff, reduceCtorEq, Bool.and_true, Bool.true_and, Bool.and_false, Bool.false_and, Bool.or_true, Bool.or_false, Bool.true_or, Bool.false_or]
/-- is_sheet of rows of integers -/
def shOk (rs : List (List Int)) : Bool := szOk rs.length && (rs.all (fun r => decide (1 ≤ r.length)) && ((rs.flatMap id).all (fun e => decide (0 ≤ e)) && ((!(decide (1 < dN (lns rs)) || decide (1 < dN (sms rs)))) && topOk (rs.getD 0 []))))
theorem sheet_of {b : Bool} (h : m_are_counts [.d x, .d bnd, .d (.int 6), .d (.int 1000)] [] = .ok (.d (.bool b)) []) : m_is_sheet [.d x] S = .ok (.d (.bool b)) S := by
  unfold m_is_sheet defM b_is_sheet
  simp only [eVar_ap, eK_ap, aNil_ap, aCons_ap, eOp2_ap, eOp1_ap, eChain_ap, bOf_ap, bNot_ap, bAnd_ap, bOr_ap, eAnd_ap, eOr_ap, eNot_ap, eIf_ap, eTup_ap, eLst_ap, eLstM_ap, cNop_ap, cBreak_ap, cCont_ap, cSeq_ap, cExpr_ap, cSet_ap, cRet_ap, cRetN_ap, cIf_ap, cAsg_ap, cPar2_ap, cPar3_ap, bYes_ap, eCall_ap, oNone_ap, oSome_ap, eSl_ap, cFor_ap, eMtL_ap, aKw_ap, gNm_ap, gTp2, gTp3, gSb_ap, mkTup0, mkTup1, mkTup2, mkTup3, Out.bind, Out.ofO, exq, fin, callE_ap, List.getElem?_cons_succ, List.getElem?_cons_zero, List.set_cons_succ, List.set_cons_zero, List.map_cons, List.map_nil, List.replicate, List.cons_append, List.nil_append, List.length_cons, List.length_nil, Bool.not_true, Bool.not_false, if_true, if_false, ite_true, ite_false, reduceIte, Bool.false_eq_true, Bool.true_eq_false, Nat.reduceAdd, unD, Option.map_some, Nat.zero_le, Sh.sz1, Sh.sz2, Sh.sz3, Sh.sz4, Sh.sz5, Sh.sz6, Sh.sz7, Sh.sz8, Sh.sz9, Sh.sz10, Sh.sz11, Sh.sz12, Sh.sz13, Sh.sz14, Sh.sz15, Sh.sz16, Nat.reduceSub, Nat.reduceLeDiff, reduceCtorEq, Bool.and_true, Bool.true_and, Bool.and_false, Bool.false_and, Bool.or_true, Bool.or_false, Bool.true_or, Bool.false_or]
  rw [callP_d h]
theorem sheet_kind (h : isiT (tyD x) "tuple" = false) : m_is_sheet [.d x] S = .ok (.d (.bool false)) S := by
  refine sheet_of ?_
  unfold m_are_counts defM b_are_counts
  simp only [eVar_ap, eK_ap, aNil_ap, aCons_ap, eOp2_ap, eOp1_ap, eChain_ap, bOf_ap, bNot_ap, bAnd_ap, bOr_ap, eAnd_ap, eOr_ap, eNot_ap, eIf_ap, eTup_ap, eLst_ap, eLstM_ap, cNop_ap, cBreak_ap, cCont_ap, cSeq_ap, cExpr_ap, cSet_ap, cRet_ap, cRetN_ap, cIf_ap, cAsg_ap, cPar2_ap, cPar3_ap, bYes_ap, eCall_ap, oNone_ap, oSome_ap, eSl_ap, cFor_ap, eMtL_ap, aKw_ap, gNm_ap, gTp2, gTp3, gSb_ap, mkTup0, mkTup1, mkTup2, mkTup3, Out.bind, Out.ofO, exq, fin, callE_ap, List.getElem?_cons_succ, List.getElem?_cons_zero, List.set_cons_succ, List.set_cons_zero, List.map_cons, List.map_nil, List.replicate, List.cons_append, List.nil_append, List.length_cons, List.length_nil, Bool.not_true, Bool.not_false, if_true, if_false, ite_true, ite_false, reduceIte, Bool.false_eq_true, Bool.true_eq_false, Nat.reduceAdd, unD, Option.map_some, Nat.zero_le, Sh.sz1, Sh.sz2, Sh.sz3, Sh.sz4, Sh.sz5, Sh.sz6, Sh.sz7, Sh.sz8, Sh.sz9, Sh.sz10, Sh.sz11, Sh.sz12, Sh.sz13, Sh.sz14, Sh.sz15, Sh.sz16, Nat.reduceSub, Nat.reduceLeDiff, reduceCtorEq, Bool.and_true, Bool.true_and, Bool.and_false, Bool.false_and, Bool.or_true, Bool.or_false, Bool.true_or, Bool.false_or, c4_kind h]
theorem sheet_int (hR : (rs.flatMap id).length ≤ 1000) (hl : rs.length ≤ 1000) : m_is_sheet [.d (zTT rs)] S = .ok (.d (.bool (shOk rs))) S := by
  refine sheet_of ?_
  unfold m_are_counts defM b_are_counts
  have e5 := c5 (S := []) (R := rs.map fun r => r.map PyData.int) (a4 := none) (a5 := none) (a6 := none) (a7 := none) (by simpa using hl)
  have e6 := c6 (S := []) (R := rs.map fun r => r.map PyData.int) (a4 := none) (a5 := none) (a6 := none) (a7 := none) (by rw [List.flatMap_map, show (fun a : List Int => id (a.map PyData.int)) = fun a => a.map PyData.int from rfl, flat_map, List.length_map]; exact hR)
  rw [← zTT_rTT] at e5 e6
  have h5 : ((rs.map fun r => r.map PyData.int).all fun r => decide (1 ≤ r.length)) = rs.all fun r => decide (1 ≤ r.length) := by rw [List.all_map]; simp [Function.comp_def]
  have h6 : (((rs.map fun r => r.map PyData.int).flatMap id).all okE) = (rs.flatMap id).all fun e => decide (0 ≤ e) := by
    rw [List.flatMap_map, show (fun a : List Int => id (a.map PyData.int)) = fun a => a.map PyData.int from rfl, flat_map, List.all_map]; rfl
  rw [h5] at e5
  rw [h6] at e6
  unfold shOk
  simp only [eVar_ap, eK_ap, aNil_ap, aCons_ap, eOp2_ap, eOp1_ap, eChain_ap, bOf_ap, bNot_ap, bAnd_ap, bOr_ap, eAnd_ap, eOr_ap, eNot_ap, eIf_ap, eTup_ap, eLst_ap, eLstM_ap, cNop_ap, cBreak_ap, cCont_ap, cSeq_ap, cExpr_ap, cSet_ap, cRet_ap, cRetN_ap, cIf_ap, cAsg_ap, cPar2_ap, cPar3_ap, bYes_ap, eCall_ap, oNone_ap, oSome_ap, eSl_ap, cFor_ap, eMtL_ap, aKw_ap, gNm_ap, gTp2, gTp3, gSb_ap, mkTup0, mkTup1, mkTup2, mkTup3, Out.bind, Out.ofO, exq, fin, callE_ap, List.getElem?_cons_succ, List.getElem?_cons_zero, List.set_cons_succ, List.set_cons_zero, List.map_cons, List.map_nil, List.replicate, List.cons_append, List.nil_append, List.length_cons, List.length_nil, Bool.not_true, Bool.not_false, if_true, if_false, ite_true, ite_false, reduceIte, Bool.false_eq_true, Bool.true_eq_false, Nat.reduceAdd, unD, Option.map_some, Nat.zero_le, Sh.sz1, Sh.sz2, Sh.sz3, Sh.sz4, Sh.sz5, Sh.sz6, Sh.sz7, Sh.sz8, Sh.sz9, Sh.sz10, Sh.sz11, Sh.sz12, Sh.sz13, Sh.sz14, Sh.sz15, Sh.sz16, Nat.reduceSub, Nat.reduceLeDiff, reduceCtorEq, Bool.and_true, Bool.true_and, Bool.and_false, Bool.false_and, Bool.or_true, Bool.or_false, Bool.true_or, Bool.false_or, c4_tup, List.length_map]
  cases q4 : szOk rs.length
  · simp only [eVar_ap, eK_ap, aNil_ap, aCons_ap, eOp2_ap, eOp1_ap, eChain_ap, bOf_ap, bNot_ap, bAnd_ap, bOr_ap, eAnd_ap, eOr_ap, eNot_ap, eIf_ap, eTup_ap, eLst_ap, eLstM_ap, cNop_ap, cBreak_ap, cCont_ap, cSeq_ap, cExpr_ap, cSet_ap, cRet_ap, cRetN_ap, cIf_ap, cAsg_ap, cPar2_ap, cPar3_ap, bYes_ap, eCall_ap, oNone_ap, oSome_ap, eSl_ap, cFor_ap, eMtL_ap, aKw_ap, gNm_ap, gTp2, gTp3, gSb_ap, mkTup0, mkTup1, mkTup2, mkTup3, Out.bind, Out.ofO, exq, fin, callE_ap, List.getElem?_cons_succ, List.getElem?_cons_zero, List.set_cons_succ, List.set_cons_zero, List.map_cons, List.map_nil, List.replicate, List.cons_append, List.nil_append, List.length_cons, List.length_nil, Bool.not_true, Bool.not_false, if_true, if_false, ite_true, ite_false, reduceIte, Bool.false_eq_true, Bool.true_eq_false, Nat.reduceAdd, unD, Option.map_some, Nat.zero_le, Sh.sz1, Sh.sz2, Sh.sz3, Sh.sz4, Sh.sz5, Sh.sz6, Sh.sz7, Sh.sz8, Sh.sz9, Sh.sz10, Sh.sz11, Sh.sz12, Sh.sz13, Sh.sz14, Sh.sz15, Sh.sz16, Nat.reduceSub, Nat.reduceLeDiff, reduceCtorEq, Bool.and_true, Bool.true_and, Bool.and_false, Bool.false_and, Bool.or_true, Bool.or_false, Bool.true_or, Bool.false_or]
  · simp only [eVar_ap, eK_ap, aNil_ap, aCons_ap, eOp2_ap, eOp1_ap, eChain_ap, bOf_ap, bNot_ap, bAnd_ap, bOr_ap, eAnd_ap, eOr_ap, eNot_ap, eIf_ap, eTup_ap, eLst_ap, eLstM_ap, cNop_ap, cBreak_ap, cCont_ap, cSeq_ap, cExpr_ap, cSet_ap, cRet_ap, cRetN_ap, cIf_ap, cAsg_ap, cPar2_ap, cPar3_ap, bYes_ap, eCall_ap, oNone_ap, oSome_ap, eSl_ap, cFor_ap, eMtL_ap, aKw_ap, gNm_ap, gTp2, gTp3, gSb_ap, mkTup0, mkTup1, mkTup2, mkTup3, Out.bind, Out.ofO, exq, fin, callE_ap, List.getElem?_cons_succ, List.getElem?_cons_zero, List.set_cons_succ, List.set_cons_zero, List.map_cons, List.map_nil, List.replicate, List.cons_append, List.nil_append, List.length_cons, List.length_nil, Bool.not_true, Bool.not_false, if_true, if_false, ite_true, ite_false, reduceIte, Bool.false_eq_true, Bool.true_eq_false, Nat.reduceAdd, unD, Option.map_some, Nat.zero_le, Sh.sz1, Sh.sz2, Sh.sz3, Sh.sz4, Sh.sz5, Sh.sz6, Sh.sz7, Sh.sz8, Sh.sz9, Sh.sz10, Sh.sz11, Sh.sz12, Sh.sz13, Sh.sz14, Sh.sz15, Sh.sz16, Nat.reduceSub, Nat.reduceLeDiff, reduceCtorEq, Bool.and_true, Bool.true_and, Bool.and_false, Bool.false_and, Bool.or_true, Bool.or_false, Bool.true_or, Bool.false_or, e5]
    cases rs.all fun r => decide (1 ≤ r.length)
    · simp only [eVar_ap, eK_ap, aNil_ap, aCons_ap, eOp2_ap, eOp1_ap, eChain_ap, bOf_ap, bNot_ap, bAnd_ap, bOr_ap, eAnd_ap, eOr_ap, eNot_ap, eIf_ap, eTup_ap, eLst_ap, eLstM_ap, cNop_ap, cBreak_ap, cCont_ap, cSeq_ap, cExpr_ap, cSet_ap, cRet_ap, cRetN_ap, cIf_ap, cAsg_ap, cPar2_ap, cPar3_ap, bYes_ap, eCall_ap, oNone_ap, oSome_ap, eSl_ap, cFor_ap, eMtL_ap, aKw_ap, gNm_ap, gTp2, gTp3, gSb_ap, mkTup0, mkTup1, mkTup2, mkTup3, Out.bind, Out.ofO, exq, fin, callE_ap, List.getElem?_cons_succ, List.getElem?_cons_zero, List.set_cons_succ, List.set_cons_zero, List.map_cons, List.map_nil, List.replicate, List.cons_append, List.nil_append, List.length_cons, List.length_nil, Bool.not_true, Bool.not_false, if_true, if_false, ite_true, ite_false, reduceIte, Bool.false_eq_true, Bool.true_eq_false, Nat.reduceAdd, unD, Option.map_some, Nat.zero_le, Sh.sz1, Sh.sz2, Sh.sz3, Sh.sz4, Sh.sz5, Sh.sz6, Sh.sz7, Sh.sz8, Sh.sz9, Sh.sz10, Sh.sz11, Sh.sz12, Sh.sz13, Sh.sz14, Sh.sz15, Sh.sz16, Nat.reduceSub, Nat.reduceLeDiff, reduceCtorEq, Bool.and_true, Bool.true_and, Bool.and_false, Bool.false_and, Bool.or_true, Bool.or_false, Bool.true_or, Bool.false_or]
    · simp only [eVar_ap, eK_ap, aNil_ap, aCons_ap, eOp2_ap, eOp1_ap, eChain_ap, bOf_ap, bNot_ap, bAnd_ap, bOr_ap, eAnd_ap, eOr_ap, eNot_ap, eIf_ap, eTup_ap, eLst_ap, eLstM_ap, cNop_ap, cBreak_ap, cCont_ap, cSeq_ap, cExpr_ap, cSet_ap, cRet_ap, cRetN_ap, cIf_ap, cAsg_ap, cPar2_ap, cPar3_ap, bYes_ap, eCall_ap, oNone_ap, oSome_ap, eSl_ap, cFor_ap, eMtL_ap, aKw_ap, gNm_ap, gTp2, gTp3, gSb_ap, mkTup0, mkTup1, mkTup2, mkTup3, Out.bind, Out.ofO, exq, fin, callE_ap, List.getElem?_cons_succ, List.getElem?_cons_zero, List.set_cons_succ, List.set_cons_zero, List.map_cons, List.map_nil, List.replicate, List.cons_append, List.nil_append, List.length_cons, List.length_nil, Bool.not_true, Bool.not_false, if_true, if_false, ite_true, ite_false, reduceIte, Bool.false_eq_true, Bool.true_eq_false, Nat.reduceAdd, unD, Option.map_some, Nat.zero_le, Sh.sz1, Sh.sz2, Sh.sz3, Sh.sz4, Sh.sz5, Sh.sz6, Sh.sz7, Sh.sz8, Sh.sz9, Sh.sz10, Sh.sz11, Sh.sz12, Sh.sz13, Sh.sz14, Sh.sz15, Sh.sz16, Nat.reduceSub, Nat.reduceLeDiff, reduceCtorEq, Bool.and_true, Bool.true_and, Bool.and_false, Bool.false_and, Bool.or_true, Bool.or_false, Bool.true_or, Bool.false_or, e6]
      cases (rs.flatMap id).all fun e => decide (0 ≤ e)
      · simp only [eVar_ap, eK_ap, aNil_ap, aCons_ap, eOp2_ap, eOp1_ap, eChain_ap, bOf_ap, bNot_ap, bAnd_ap, bOr_ap, eAnd_ap, eOr_ap, eNot_ap, eIf_ap, eTup_ap, eLst_ap, eLstM_ap, cNop_ap, cBreak_ap, cCont_ap, cSeq_ap, cExpr_ap, cSet_ap, cRet_ap, cRetN_ap, cIf_ap, cAsg_ap, cPar2_ap, cPar3_ap, bYes_ap, eCall_ap, oNone_ap, oSome_ap, eSl_ap, cFor_ap, eMtL_ap, aKw_ap, gNm_ap, gTp2, gTp3, gSb_ap, mkTup0, mkTup1, mkTup2, mkTup3, Out.bind, Out.ofO, exq, fin, callE_ap, List.getElem?_cons_succ, List.getElem?_cons_zero, List.set_cons_succ, List.set_cons_zero, List.map_cons, List.map_nil, List.replicate, List.cons_append, List.nil_append, List.length_cons, List.length_nil, Bool.not_true, Bool.not_false, if_true, if_false, ite_true, ite_false, reduceIte, Bool.false_eq_true, Bool.true_eq_false, Nat.reduceAdd, unD, Option.map_some, Nat.zero_le, Sh.sz1, Sh.sz2, Sh.sz3, Sh.sz4, Sh.sz5, Sh.sz6, Sh.sz7, Sh.sz8, Sh.sz9, Sh.sz10, Sh.sz11, Sh.sz12, Sh.sz13, Sh.sz14, Sh.sz15, Sh.sz16, Nat.reduceSub, Nat.reduceLeDiff, reduceCtorEq, Bool.and_true, Bool.true_and, Bool.and_false, Bool.false_and, Bool.or_true, Bool.or_false, Bool.true_or, Bool.false_or]
      · have h0 : 0 < rs.length := by
          unfold szOk at q4
          simp at q4; omega
        simp only [eVar_ap, eK_ap, aNil_ap, aCons_ap, eOp2_ap, eOp1_ap, eChain_ap, bOf_ap, bNot_ap, bAnd_ap, bOr_ap, eAnd_ap, eOr_ap, eNot_ap, eIf_ap, eTup_ap, eLst_ap, eLstM_ap, cNop_ap, cBreak_ap, cCont_ap, cSeq_ap, cExpr_ap, cSet_ap, cRet_ap, cRetN_ap, cIf_ap, cAsg_ap, cPar2_ap, cPar3_ap, bYes_ap, eCall_ap, oNone_ap, oSome_ap, eSl_ap, cFor_ap, eMtL_ap, aKw_ap, gNm_ap, gTp2, gTp3, gSb_ap, mkTup0, mkTup1, mkTup2, mkTup3, Out.bind, Out.ofO, exq, fin, callE_ap, List.getElem?_cons_succ, List.getElem?_cons_zero, List.set_cons_succ, List.set_cons_zero, List.map_cons, List.map_nil, List.replicate, List.cons_append, List.nil_append, List.length_cons, List.length_nil, Bool.not_true, Bool.not_false, if_true, if_false, ite_true, ite_false, reduceIte, Bool.false_eq_true, Bool.true_eq_false, Nat.reduceAdd, unD, Option.map_some, Nat.zero_le, Sh.sz1, Sh.sz2, Sh.sz3, Sh.sz4, Sh.sz5, Sh.sz6, Sh.sz7, Sh.sz8, Sh.sz9, Sh.sz10, Sh.sz11, Sh.sz12, Sh.sz13, Sh.sz14, Sh.sz15, Sh.sz16, Nat.reduceSub, Nat.reduceLeDiff, reduceCtorEq, Bool.and_true, Bool.true_and, Bool.and_false, Bool.false_and, Bool.or_true, Bool.or_false, Bool.true_or, Bool.false_or, c7 hl]
        cases decide (1 < dN (lns rs)) || decide (1 < dN (sms rs))
        · simp only [eVar_ap, eK_ap, aNil_ap, aCons_ap, eOp2_ap, eOp1_ap, eChain_ap, bOf_ap, bNot_ap, bAnd_ap, bOr_ap, eAnd_ap, eOr_ap, eNot_ap, eIf_ap, eTup_ap, eLst_ap, eLstM_ap, cNop_ap, cBreak_ap, cCont_ap, cSeq_ap, cExpr_ap, cSet_ap, cRet_ap, cRetN_ap, cIf_ap, cAsg_ap, cPar2_ap, cPar3_ap, bYes_ap, eCall_ap, oNone_ap, oSome_ap, eSl_ap, cFor_ap, eMtL_ap, aKw_ap, gNm_ap, gTp2, gTp3, gSb_ap, mkTup0, mkTup1, mkTup2, mkTup3, Out.bind, Out.ofO, exq, fin, callE_ap, List.getElem?_cons_succ, List.getElem?_cons_zero, List.set_cons_succ, List.set_cons_zero, List.map_cons, List.map_nil, List.replicate, List.cons_append, List.nil_append, List.length_cons, List.length_nil, Bool.not_true, Bool.not_false, if_true, if_false, ite_true, ite_false, reduceIte, Bool.false_eq_true, Bool.true_eq_false, Nat.reduceAdd, unD, Option.map_some, Nat.zero_le, Sh.sz1, Sh.sz2, Sh.sz3, Sh.sz4, Sh.sz5, Sh.sz6, Sh.sz7, Sh.sz8, Sh.sz9, Sh.sz10, Sh.sz11, Sh.sz12, Sh.sz13, Sh.sz14, Sh.sz15, Sh.sz16, Nat.reduceSub, Nat.reduceLeDiff, reduceCtorEq, Bool.and_true, Bool.true_and, Bool.and_false, Bool.false_and, Bool.or_true, Bool.or_false, Bool.true_or, Bool.false_or, c8 h0, c9]
        · simp only [eVar_ap, eK_ap, aNil_ap, aCons_ap, eOp2_ap, eOp1_ap, eChain_ap, bOf_ap, bNot_ap, bAnd_ap, bOr_ap, eAnd_ap, eOr_ap, eNot_ap, eIf_ap, eTup_ap, eLst_ap, eLstM_ap, cNop_ap, cBreak_ap, cCont_ap, cSeq_ap, cExpr_ap, cSet_ap, cRet_ap, cRetN_ap, cIf_ap, cAsg_ap, cPar2_ap, cPar3_ap, bYes_ap, eCall_ap, oNone_ap, oSome_ap, eSl_ap, cFor_ap, eMtL_ap, aKw_ap, gNm_ap, gTp2, gTp3, gSb_ap, mkTup0, mkTup1, mkTup2, mkTup3, Out.bind, Out.ofO, exq, fin, callE_ap, List.getElem?_cons_succ, List.getElem?_cons_zero, List.set_cons_succ, List.set_cons_zero, List.map_cons, List.map_nil, List.replicate, List.cons_append, List.nil_append, List.length_cons, List.length_nil, Bool.not_true, Bool.not_false, if_true, if_false, ite_true, ite_false, reduceIte, Bool.false_eq_true, Bool.true_eq_false, Nat.reduceAdd, unD, Option.map_some, Nat.zero_le, Sh.sz1, Sh.sz2, Sh.sz3, Sh.sz4, Sh.sz5, Sh.sz6, Sh.sz7, Sh.sz8, Sh.sz9, Sh.sz10, Sh.sz11, Sh.sz12, Sh.sz13, Sh.sz14, Sh.sz15, Sh.sz16, Nat.reduceSub, Nat.reduceLeDiff, reduceCtorEq, Bool.and_true, Bool.true_and, Bool.and_false, Bool.false_and, Bool.or_true, Bool.or_false, Bool.true_or, Bool.false_or]
theorem sheet_true : m_is_sheet [.d (.tuple [.tuple [.bool true]])] S = .ok (.d (.bool false)) S := by
  refine sheet_of ?_
  unfold m_are_counts defM b_are_counts
  have e5 := c5 (S := []) (R := [[.bool true]]) (a4 := none) (a5 := none) (a6 := none) (a7 := none) (by decide)
  have e6 := c6 (S := []) (R := [[.bool true]]) (a4 := none) (a5 := none) (a6 := none) (a7 := none) (by decide)
  rw [show ([[PyData.bool true]].all fun r => decide (1 ≤ r.length)) = true from rfl] at e5
  rw [show (([[PyData.bool true]].flatMap id).all okE) = false from rfl] at e6
  simp only [if_true, show rTT [[PyData.bool true]] = .tuple [.tuple [.bool true]] from rfl] at e5
  simp only [Bool.false_eq_true, if_false, show rTT [[PyData.bool true]] = .tuple [.tuple [.bool true]] from rfl] at e6
  simp only [eVar_ap, eK_ap, aNil_ap, aCons_ap, eOp2_ap, eOp1_ap, eChain_ap, bOf_ap, bNot_ap, bAnd_ap, bOr_ap, eAnd_ap, eOr_ap, eNot_ap, eIf_ap, eTup_ap, eLst_ap, eLstM_ap, cNop_ap, cBreak_ap, cCont_ap, cSeq_ap, cExpr_ap, cSet_ap, cRet_ap, cRetN_ap, cIf_ap, cAsg_ap, cPar2_ap, cPar3_ap, bYes_ap, eCall_ap, oNone_ap, oSome_ap, eSl_ap, cFor_ap, eMtL_ap, aKw_ap, gNm_ap, gTp2, gTp3, gSb_ap, mkTup0, mkTup1, mkTup2, mkTup3, Out.bind, Out.ofO, exq, fin, callE_ap, List.getElem?_cons_succ, List.getElem?_cons_zero, List.set_cons_succ, List.set_cons_zero, List.map_cons, List.map_nil, List.replicate, List.cons_append, List.nil_append, List.length_cons, List.length_nil, Bool.not_true, Bool.not_false, if_true, if_false, ite_true, ite_false, reduceIte, Bool.false_eq_true, Bool.true_eq_false, Nat.reduceAdd, unD, Option.map_some, Nat.zero_le, Sh.sz1, Sh.sz2, Sh.sz3, Sh.sz4, Sh.sz5, Sh.sz6, Sh.sz7, Sh.sz8, Sh.sz9, Sh.sz10, Sh.sz11, Sh.sz12, Sh.sz13, Sh.sz14, Sh.sz15, Sh.sz16, Nat.reduceSub, Nat.reduceLeDiff, reduceCtorEq, Bool.and_true, Bool.true_and, Bool.and_false, Bool.false_and, Bool.or_true, Bool.or_false, Bool.true_or, Bool.false_or, c4_tup, show szOk (0 + 1) = true from rfl, e5, e6]
end
end Law
end

section
namespace Law
open PySem PySem.Spec PyProof.Rows L2 Sh Sheet
open Classical
section
variable {S : Sto} {x : PyData} {xs : List PyData} {R : List (List PyData)} {rs sh ch : List (List Int)} {n m d t : Nat} {pl : List Nat}
/-! deeds -/
theorem notN_int {i : Int} : opNotN (.d (.int i)) (.d .none) S = .ok (.d (.bool true)) S := rfl
theorem deeds_kind {k : Int} (h : isiT (tyD x) "tuple" = false) : m_are_deeds [.d (.int k), .d x, .d (.int 8), .d (.int 1000000)] S = .ok (.d (.bool false)) S := by
  unfold m_are_deeds defM b_are_deeds
  simp only [eVar_ap, eK_ap, aNil_ap, aCons_ap, eOp2_ap, eOp1_ap, eChain_ap, bOf_ap, bNot_ap, bAnd_ap, bOr_ap, eAnd_ap, eOr_ap, eNot_ap, eIf_ap, eTup_ap, eLst_ap, eLstM_ap, cNop_ap, cBreak_ap, cCont_ap, cSeq_ap, cExpr_ap, cSet_ap, cRet_ap, cRetN_ap, cIf_ap, cAsg_ap, cPar2_ap, cPar3_ap, bYes_ap, eCall_ap, oNone_ap, oSome_ap, eSl_ap, cFor_ap, eMtL_ap, aKw_ap, gNm_ap, gTp2, gTp3, gSb_ap, mkTup0, mkTup1, mkTup2, mkTup3, Out.bind, Out.ofO, exq, fin, callE_ap, List.getElem?_cons_succ, List.getElem?_cons_zero, List.set_cons_succ, List.set_cons_zero, List.map_cons, List.map_nil, List.replicate, List.cons_append, List.nil_append, List.length_cons, List.length_nil, Bool.not_true, Bool.not_false, if_true, if_false, ite_true, ite_false, reduceIte, Bool.false_eq_true, Bool.true_eq_false, Nat.reduceAdd, unD, Option.map_some, Nat.zero_le, Sh.sz1, Sh.sz2, Sh.sz3, Sh.sz4, Sh.sz5, Sh.sz6, Sh.sz7, Sh.sz8, Sh.sz9, Sh.sz10, Sh.sz11, Sh.sz12, Sh.sz13, Sh.sz14, Sh.sz15, Sh.sz16, Nat.reduceSub, Nat.reduceLeDiff, reduceCtorEq, Bool.and_true, Bool.true_and, Bool.and_false, Bool.false_and, Bool.or_true, Bool.or_false, Bool.true_or, Bool.false_or, opIsi_d, h]
theorem deeds_len {k : Int} (hs : sm 3 (.tuple xs) = true) (h : xs = [] ∨ 8 < xs.length) : m_are_deeds [.d (.int k), .d (.tuple xs), .d (.int 8), .d (.int 1000000)] S = .ok (.d (.bool false)) S := by
  unfold m_are_deeds defM b_are_deeds
  simp only [eVar_ap, eK_ap, aNil_ap, aCons_ap, eOp2_ap, eOp1_ap, eChain_ap, bOf_ap, bNot_ap, bAnd_ap, bOr_ap, eAnd_ap, eOr_ap, eNot_ap, eIf_ap, eTup_ap, eLst_ap, eLstM_ap, cNop_ap, cBreak_ap, cCont_ap, cSeq_ap, cExpr_ap, cSet_ap, cRet_ap, cRetN_ap, cIf_ap, cAsg_ap, cPar2_ap, cPar3_ap, bYes_ap, eCall_ap, oNone_ap, oSome_ap, eSl_ap, cFor_ap, eMtL_ap, aKw_ap, gNm_ap, gTp2, gTp3, gSb_ap, mkTup0, mkTup1, mkTup2, mkTup3, Out.bind, Out.ofO, exq, fin, callE_ap, List.getElem?_cons_succ, List.getElem?_cons_zero, List.set_cons_succ, List.set_cons_zero, List.map_cons, List.map_nil, List.replicate, List.cons_append, List.nil_append, List.length_cons, List.length_nil, Bool.not_true, Bool.not_false, if_true, if_false, ite_true, ite_false, reduceIte, Bool.false_eq_true, Bool.true_eq_false, Nat.reduceAdd, unD, Option.map_some, Nat.zero_le, Sh.sz1, Sh.sz2, Sh.sz3, Sh.sz4, Sh.sz5, Sh.sz6, Sh.sz7, Sh.sz8, Sh.sz9, Sh.sz10, Sh.sz11, Sh.sz12, Sh.sz13, Sh.sz14, Sh.sz15, Sh.sz16, Nat.reduceSub, Nat.reduceLeDiff, reduceCtorEq, Bool.and_true, Bool.true_and, Bool.and_false, Bool.false_and, Bool.or_true, Bool.or_false, Bool.true_or, Bool.false_or, opIsi_d, show isiT (tyD (.tuple xs)) "tuple" = true from rfl, opEq_sh (x := .tuple xs) (y := .tuple []) (n := 3) (m := 1) hs rfl, eqv_tnil]
  rcases h with rfl | h
  · simp only [eVar_ap, eK_ap, aNil_ap, aCons_ap, eOp2_ap, eOp1_ap, eChain_ap, bOf_ap, bNot_ap, bAnd_ap, bOr_ap, eAnd_ap, eOr_ap, eNot_ap, eIf_ap, eTup_ap, eLst_ap, eLstM_ap, cNop_ap, cBreak_ap, cCont_ap, cSeq_ap, cExpr_ap, cSet_ap, cRet_ap, cRetN_ap, cIf_ap, cAsg_ap, cPar2_ap, cPar3_ap, bYes_ap, eCall_ap, oNone_ap, oSome_ap, eSl_ap, cFor_ap, eMtL_ap, aKw_ap, gNm_ap, gTp2, gTp3, gSb_ap, mkTup0, mkTup1, mkTup2, mkTup3, Out.bind, Out.ofO, exq, fin, callE_ap, List.getElem?_cons_succ, List.getElem?_cons_zero, List.set_cons_succ, List.set_cons_zero, List.map_cons, List.map_nil, List.replicate, List.cons_append, List.nil_append, List.length_cons, List.length_nil, Bool.not_true, Bool.not_false, if_true, if_false, ite_true, ite_false, reduceIte, Bool.false_eq_true, Bool.true_eq_false, Nat.reduceAdd, unD, Option.map_some, Nat.zero_le, Sh.sz1, Sh.sz2, Sh.sz3, Sh.sz4, Sh.sz5, Sh.sz6, Sh.sz7, Sh.sz8, Sh.sz9, Sh.sz10, Sh.sz11, Sh.sz12, Sh.sz13, Sh.sz14, Sh.sz15, Sh.sz16, Nat.reduceSub, Nat.reduceLeDiff, reduceCtorEq, Bool.and_true, Bool.true_and, Bool.and_false, Bool.false_and, Bool.or_true, Bool.or_false, Bool.true_or, Bool.false_or, List.isEmpty_nil]
  · cases xs with
    | nil => simp at h
    | cons y ys =>
      simp only [eVar_ap, eK_ap, aNil_ap, aCons_ap, eOp2_ap, eOp1_ap, eChain_ap, bOf_ap, bNot_ap, bAnd_ap, bOr_ap, eAnd_ap, eOr_ap, eNot_ap, eIf_ap, eTup_ap, eLst_ap, eLstM_ap, cNop_ap, cBreak_ap, cCont_ap, cSeq_ap, cExpr_ap, cSet_ap, cRet_ap, cRetN_ap, cIf_ap, cAsg_ap, cPar2_ap, cPar3_ap, bYes_ap, eCall_ap, oNone_ap, oSome_ap, eSl_ap, cFor_ap, eMtL_ap, aKw_ap, gNm_ap, gTp2, gTp3, gSb_ap, mkTup0, mkTup1, mkTup2, mkTup3, Out.bind, Out.ofO, exq, fin, callE_ap, List.getElem?_cons_succ, List.getElem?_cons_zero, List.set_cons_succ, List.set_cons_zero, List.map_cons, List.map_nil, List.replicate, List.cons_append, List.nil_append, List.length_cons, List.length_nil, Bool.not_true, Bool.not_false, if_true, if_false, ite_true, ite_false, reduceIte, Bool.false_eq_true, Bool.true_eq_false, Nat.reduceAdd, unD, Option.map_some, Nat.zero_le, Sh.sz1, Sh.sz2, Sh.sz3, Sh.sz4, Sh.sz5, Sh.sz6, Sh.sz7, Sh.sz8, Sh.sz9, Sh.sz10, Sh.sz11, Sh.sz12, Sh.sz13, Sh.sz14, Sh.sz15, Sh.sz16, Nat.reduceSub, Nat.reduceLeDiff, reduceCtorEq, Bool.and_true, Bool.true_and, Bool.and_false, Bool.false_and, Bool.or_true, Bool.or_false, Bool.true_or, Bool.false_or, List.isEmpty_cons, notN_int, bLen_tup, opInt_int]
      rw [show decide (((ys.length + 1 : Nat) : Int) > 8) = true from decide_eq_true (by simp at h; omega)]
      simp only [eVar_ap, eK_ap, aNil_ap, aCons_ap, eOp2_ap, eOp1_ap, eChain_ap, bOf_ap, bNot_ap, bAnd_ap, bOr_ap, eAnd_ap, eOr_ap, eNot_ap, eIf_ap, eTup_ap, eLst_ap, eLstM_ap, cNop_ap, cBreak_ap, cCont_ap, cSeq_ap, cExpr_ap, cSet_ap, cRet_ap, cRetN_ap, cIf_ap, cAsg_ap, cPar2_ap, cPar3_ap, bYes_ap, eCall_ap, oNone_ap, oSome_ap, eSl_ap, cFor_ap, eMtL_ap, aKw_ap, gNm_ap, gTp2, gTp3, gSb_ap, mkTup0, mkTup1, mkTup2, mkTup3, Out.bind, Out.ofO, exq, fin, callE_ap, List.getElem?_cons_succ, List.getElem?_cons_zero, List.set_cons_succ, List.set_cons_zero, List.map_cons, List.map_nil, List.replicate, List.cons_append, List.nil_append, List.length_cons, List.length_nil, Bool.not_true, Bool.not_false, if_true, if_false, ite_true, ite_false, reduceIte, Bool.false_eq_true, Bool.true_eq_false, Nat.reduceAdd, unD, Option.map_some, Nat.zero_le, Sh.sz1, Sh.sz2, Sh.sz3, Sh.sz4, Sh.sz5, Sh.sz6, Sh.sz7, Sh.sz8, Sh.sz9, Sh.sz10, Sh.sz11, Sh.sz12, Sh.sz13, Sh.sz14, Sh.sz15, Sh.sz16, Nat.reduceSub, Nat.reduceLeDiff, reduceCtorEq, Bool.and_true, Bool.true_and, Bool.and_false, Bool.false_and, Bool.or_true, Bool.or_false, Bool.true_or, Bool.false_or]
def rowI (n : Nat) (r : List PyData) : Bool := decide (r.length = n) && r.all isI
theorem deeds_1 {ρ : Rho} (hR : R.length ≤ 1000) (hr : ∀ r ∈ R, r.length ≤ 1000) (h0 : ρ.length = 6) (h1 : ρ[0]? = some (some (.d (.int (n : Int))))) (h2 : ρ[1]? = some (some (.d (rTT R)))) : q_are_deeds_1 ρ S = .ok (.d (.list (R.map fun r => .bool (rowI n r)))) S := by
  match ρ, h0 with
  | [p0, p1, p2, p3, p4, p5], _ =>
  simp only [List.getElem?_cons_zero, List.getElem?_cons_succ, Option.some.injEq] at h1 h2
  subst h1; subst h2
  unfold q_are_deeds_1
  rw [eLc_y R (fun r => W.d (.tuple r)) (fun r => .bool (rowI n r)) (grd := fun _ => True) (iSq_rTT rfl) trivial (len_le hR) fun r hr' => ⟨_, rfl, ?_⟩]
  have e0 : ∀ q : Option W, q_are_deeds_0 [some (.d (.int (n : Int))), some (.d (rTT R)), p2, p3, some (.d (.tuple r)), q] S = .ok (.d (.list (r.map fun e => .bool (isI e)))) S := fun q => by
    unfold q_are_deeds_0
    rw [eLc_y r (fun e => W.d e) (fun e => .bool (isI e)) (grd := fun _ => True) (iSq_tup rfl) trivial (len_le (hr r hr')) fun e he => ⟨_, rfl, by simp only [eVar_ap, eK_ap, aNil_ap, aCons_ap, eOp2_ap, eOp1_ap, eChain_ap, bOf_ap, bNot_ap, bAnd_ap, bOr_ap, eAnd_ap, eOr_ap, eNot_ap, eIf_ap, eTup_ap, eLst_ap, eLstM_ap, cNop_ap, cBreak_ap, cCont_ap, cSeq_ap, cExpr_ap, cSet_ap, cRet_ap, cRetN_ap, cIf_ap, cAsg_ap, cPar2_ap, cPar3_ap, bYes_ap, eCall_ap, oNone_ap, oSome_ap, eSl_ap, cFor_ap, eMtL_ap, aKw_ap, gNm_ap, gTp2, gTp3, gSb_ap, mkTup0, mkTup1, mkTup2, mkTup3, Out.bind, Out.ofO, exq, fin, callE_ap, List.getElem?_cons_succ, List.getElem?_cons_zero, List.set_cons_succ, List.set_cons_zero, List.map_cons, List.map_nil, List.replicate, List.cons_append, List.nil_append, List.length_cons, List.length_nil, Bool.not_true, Bool.not_false, if_true, if_false, ite_true, ite_false, reduceIte, Bool.false_eq_true, Bool.true_eq_false, Nat.reduceAdd, unD, Option.map_some, Nat.zero_le, Sh.sz1, Sh.sz2, Sh.sz3, Sh.sz4, Sh.sz5, Sh.sz6, Sh.sz7, Sh.sz8, Sh.sz9, Sh.sz10, Sh.sz11, Sh.sz12, Sh.sz13, Sh.sz14, Sh.sz15, Sh.sz16, Nat.reduceSub, Nat.reduceLeDiff, reduceCtorEq, Bool.and_true, Bool.true_and, Bool.and_false, Bool.false_and, Bool.or_true, Bool.or_false, Bool.true_or, Bool.false_or, wipeR, is_int_eq]; exact callP_d (Wn.is_int_ok (S := []) (x := e))⟩]
  simp only [eVar_ap, eK_ap, aNil_ap, aCons_ap, eOp2_ap, eOp1_ap, eChain_ap, bOf_ap, bNot_ap, bAnd_ap, bOr_ap, eAnd_ap, eOr_ap, eNot_ap, eIf_ap, eTup_ap, eLst_ap, eLstM_ap, cNop_ap, cBreak_ap, cCont_ap, cSeq_ap, cExpr_ap, cSet_ap, cRet_ap, cRetN_ap, cIf_ap, cAsg_ap, cPar2_ap, cPar3_ap, bYes_ap, eCall_ap, oNone_ap, oSome_ap, eSl_ap, cFor_ap, eMtL_ap, aKw_ap, gNm_ap, gTp2, gTp3, gSb_ap, mkTup0, mkTup1, mkTup2, mkTup3, Out.bind, Out.ofO, exq, fin, callE_ap, List.getElem?_cons_succ, List.getElem?_cons_zero, List.set_cons_succ, List.set_cons_zero, List.map_cons, List.map_nil, List.replicate, List.cons_append, List.nil_append, List.length_cons, List.length_nil, Bool.not_true, Bool.not_false, if_true, if_false, ite_true, ite_false, reduceIte, Bool.false_eq_true, Bool.true_eq_false, Nat.reduceAdd, unD, Option.map_some, Nat.zero_le, Sh.sz1, Sh.sz2, Sh.sz3, Sh.sz4, Sh.sz5, Sh.sz6, Sh.sz7, Sh.sz8, Sh.sz9, Sh.sz10, Sh.sz11, Sh.sz12, Sh.sz13, Sh.sz14, Sh.sz15, Sh.sz16, Nat.reduceSub, Nat.reduceLeDiff, reduceCtorEq, Bool.and_true, Bool.true_and, Bool.and_false, Bool.false_and, Bool.or_true, Bool.or_false, Bool.true_or, Bool.false_or, wipeR, is_row_eq]
  rw [callP_d (Wn.is_row_ok (S := []) (x := .tuple r) (lo := n) (hi := n)), Wn.rowOk_n]
  unfold rowI
  cases decide (r.length = n)
  · simp only [eVar_ap, eK_ap, aNil_ap, aCons_ap, eOp2_ap, eOp1_ap, eChain_ap, bOf_ap, bNot_ap, bAnd_ap, bOr_ap, eAnd_ap, eOr_ap, eNot_ap, eIf_ap, eTup_ap, eLst_ap, eLstM_ap, cNop_ap, cBreak_ap, cCont_ap, cSeq_ap, cExpr_ap, cSet_ap, cRet_ap, cRetN_ap, cIf_ap, cAsg_ap, cPar2_ap, cPar3_ap, bYes_ap, eCall_ap, oNone_ap, oSome_ap, eSl_ap, cFor_ap, eMtL_ap, aKw_ap, gNm_ap, gTp2, gTp3, gSb_ap, mkTup0, mkTup1, mkTup2, mkTup3, Out.bind, Out.ofO, exq, fin, callE_ap, List.getElem?_cons_succ, List.getElem?_cons_zero, List.set_cons_succ, List.set_cons_zero, List.map_cons, List.map_nil, List.replicate, List.cons_append, List.nil_append, List.length_cons, List.length_nil, Bool.not_true, Bool.not_false, if_true, if_false, ite_true, ite_false, reduceIte, Bool.false_eq_true, Bool.true_eq_false, Nat.reduceAdd, unD, Option.map_some, Nat.zero_le, Sh.sz1, Sh.sz2, Sh.sz3, Sh.sz4, Sh.sz5, Sh.sz6, Sh.sz7, Sh.sz8, Sh.sz9, Sh.sz10, Sh.sz11, Sh.sz12, Sh.sz13, Sh.sz14, Sh.sz15, Sh.sz16, Nat.reduceSub, Nat.reduceLeDiff, reduceCtorEq, Bool.and_true, Bool.true_and, Bool.and_false, Bool.false_and, Bool.or_true, Bool.or_false, Bool.true_or, Bool.false_or]
  · simp only [eVar_ap, eK_ap, aNil_ap, aCons_ap, eOp2_ap, eOp1_ap, eChain_ap, bOf_ap, bNot_ap, bAnd_ap, bOr_ap, eAnd_ap, eOr_ap, eNot_ap, eIf_ap, eTup_ap, eLst_ap, eLstM_ap, cNop_ap, cBreak_ap, cCont_ap, cSeq_ap, cExpr_ap, cSet_ap, cRet_ap, cRetN_ap, cIf_ap, cAsg_ap, cPar2_ap, cPar3_ap, bYes_ap, eCall_ap, oNone_ap, oSome_ap, eSl_ap, cFor_ap, eMtL_ap, aKw_ap, gNm_ap, gTp2, gTp3, gSb_ap, mkTup0, mkTup1, mkTup2, mkTup3, Out.bind, Out.ofO, exq, fin, callE_ap, List.getElem?_cons_succ, List.getElem?_cons_zero, List.set_cons_succ, List.set_cons_zero, List.map_cons, List.map_nil, List.replicate, List.cons_append, List.nil_append, List.length_cons, List.length_nil, Bool.not_true, Bool.not_false, if_true, if_false, ite_true, ite_false, reduceIte, Bool.false_eq_true, Bool.true_eq_false, Nat.reduceAdd, unD, Option.map_some, Nat.zero_le, Sh.sz1, Sh.sz2, Sh.sz3, Sh.sz4, Sh.sz5, Sh.sz6, Sh.sz7, Sh.sz8, Sh.sz9, Sh.sz10, Sh.sz11, Sh.sz12, Sh.sz13, Sh.sz14, Sh.sz15, Sh.sz16, Nat.reduceSub, Nat.reduceLeDiff, reduceCtorEq, Bool.and_true, Bool.true_and, Bool.and_false, Bool.false_and, Bool.or_true, Bool.or_false, Bool.true_or, Bool.false_or, e0, bAll_map]
def inB (e : Int) : Bool := decide ((if e < 0 then -e else e) ≤ 1000000)
theorem deeds_2 {ρ : Rho} (hR : (rs.flatMap id).length ≤ 1000) (h0 : ρ.length = 6) (h1 : ρ[3]? = some (some (.d (.int 1000000)))) (h2 : ρ[1]? = some (some (.d (zTT rs)))) : q_are_deeds_2 ρ S = .ok (.d (.list ((rs.flatMap id).map fun e => .bool (inB e)))) S := by
  match ρ, h0 with
  | [p0, p1, p2, p3, p4, p5], _ =>
  simp only [List.getElem?_cons_zero, List.getElem?_cons_succ, Option.some.injEq] at h1 h2
  subst h1; subst h2
  unfold q_are_deeds_2
  rw [eLc2_y rs (fun r => W.d (zT r)) (fun r => r) (fun e => W.d (.int e)) (fun r e => .bool (inB e)) (grd := fun _ => True) (iSq_zTT rfl) trivial ?_ fun r hr => ⟨_, rfl, iSq_zT rfl, fun e he => ⟨_, rfl, ?_⟩⟩]
  · rw [flat_map]
  · rw [flat_map, List.length_map]; exact len_le hR
  · simp only [eVar_ap, eK_ap, aNil_ap, aCons_ap, eOp2_ap, eOp1_ap, eChain_ap, bOf_ap, bNot_ap, bAnd_ap, bOr_ap, eAnd_ap, eOr_ap, eNot_ap, eIf_ap, eTup_ap, eLst_ap, eLstM_ap, cNop_ap, cBreak_ap, cCont_ap, cSeq_ap, cExpr_ap, cSet_ap, cRet_ap, cRetN_ap, cIf_ap, cAsg_ap, cPar2_ap, cPar3_ap, bYes_ap, eCall_ap, oNone_ap, oSome_ap, eSl_ap, cFor_ap, eMtL_ap, aKw_ap, gNm_ap, gTp2, gTp3, gSb_ap, mkTup0, mkTup1, mkTup2, mkTup3, Out.bind, Out.ofO, exq, fin, callE_ap, List.getElem?_cons_succ, List.getElem?_cons_zero, List.set_cons_succ, List.set_cons_zero, List.map_cons, List.map_nil, List.replicate, List.cons_append, List.nil_append, List.length_cons, List.length_nil, Bool.not_true, Bool.not_false, if_true, if_false, ite_true, ite_false, reduceIte, Bool.false_eq_true, Bool.true_eq_false, Nat.reduceAdd, unD, Option.map_some, Nat.zero_le, Sh.sz1, Sh.sz2, Sh.sz3, Sh.sz4, Sh.sz5, Sh.sz6, Sh.sz7, Sh.sz8, Sh.sz9, Sh.sz10, Sh.sz11, Sh.sz12, Sh.sz13, Sh.sz14, Sh.sz15, Sh.sz16, Nat.reduceSub, Nat.reduceLeDiff, reduceCtorEq, Bool.and_true, Bool.true_and, Bool.and_false, Bool.false_and, Bool.or_true, Bool.or_false, Bool.true_or, Bool.false_or, wipeR, bAbs_int, opInt_int, inB]
theorem deeds_rows (hs : sm 2 (rTT R) = true) (h1 : R ≠ []) (h8 : R.length ≤ 8) (hb : (R.all (rowI n)) = false) : m_are_deeds [.d (.int (n : Int)), .d (rTT R), .d (.int 8), .d (.int 1000000)] S = .ok (.d (.bool false)) S := by
  have hr : ∀ r ∈ R, r.length ≤ 1000 := fun r hr => (sm_tup.1 ((sm_tup.1 hs).2 _ (List.mem_map_of_mem hr))).1
  have he : (R.map PyData.tuple).isEmpty = false := by cases R <;> first | exact absurd rfl h1 | rfl
  unfold m_are_deeds defM b_are_deeds
  simp only [eVar_ap, eK_ap, aNil_ap, aCons_ap, eOp2_ap, eOp1_ap, eChain_ap, bOf_ap, bNot_ap, bAnd_ap, bOr_ap, eAnd_ap, eOr_ap, eNot_ap, eIf_ap, eTup_ap, eLst_ap, eLstM_ap, cNop_ap, cBreak_ap, cCont_ap, cSeq_ap, cExpr_ap, cSet_ap, cRet_ap, cRetN_ap, cIf_ap, cAsg_ap, cPar2_ap, cPar3_ap, bYes_ap, eCall_ap, oNone_ap, oSome_ap, eSl_ap, cFor_ap, eMtL_ap, aKw_ap, gNm_ap, gTp2, gTp3, gSb_ap, mkTup0, mkTup1, mkTup2, mkTup3, Out.bind, Out.ofO, exq, fin, callE_ap, List.getElem?_cons_succ, List.getElem?_cons_zero, List.set_cons_succ, List.set_cons_zero, List.map_cons, List.map_nil, List.replicate, List.cons_append, List.nil_append, List.length_cons, List.length_nil, Bool.not_true, Bool.not_false, if_true, if_false, ite_true, ite_false, reduceIte, Bool.false_eq_true, Bool.true_eq_false, Nat.reduceAdd, unD, Option.map_some, Nat.zero_le, Sh.sz1, Sh.sz2, Sh.sz3, Sh.sz4, Sh.sz5, Sh.sz6, Sh.sz7, Sh.sz8, Sh.sz9, Sh.sz10, Sh.sz11, Sh.sz12, Sh.sz13, Sh.sz14, Sh.sz15, Sh.sz16, Nat.reduceSub, Nat.reduceLeDiff, reduceCtorEq, Bool.and_true, Bool.true_and, Bool.and_false, Bool.false_and, Bool.or_true, Bool.or_false, Bool.true_or, Bool.false_or, opIsi_d, show isiT (tyD (rTT R)) "tuple" = true from rfl, opEq_sh (x := rTT R) (y := .tuple []) (n := 2) (m := 1) hs rfl, eqv_tnil, he, notN_int, bLen_tup, opInt_int, List.length_map, show decide ((R.length : Int) > 8) = false from decide_eq_false (by omega)]
  rw [deeds_1 (n := n) (R := R) (by omega) hr rfl rfl rfl]
  simp only [eVar_ap, eK_ap, aNil_ap, aCons_ap, eOp2_ap, eOp1_ap, eChain_ap, bOf_ap, bNot_ap, bAnd_ap, bOr_ap, eAnd_ap, eOr_ap, eNot_ap, eIf_ap, eTup_ap, eLst_ap, eLstM_ap, cNop_ap, cBreak_ap, cCont_ap, cSeq_ap, cExpr_ap, cSet_ap, cRet_ap, cRetN_ap, cIf_ap, cAsg_ap, cPar2_ap, cPar3_ap, bYes_ap, eCall_ap, oNone_ap, oSome_ap, eSl_ap, cFor_ap, eMtL_ap, aKw_ap, gNm_ap, gTp2, gTp3, gSb_ap, mkTup0, mkTup1, mkTup2, mkTup3, Out.bind, Out.ofO, exq, fin, callE_ap, List.getElem?_cons_succ, List.getElem?_cons_zero, List.set_cons_succ, List.set_cons_zero, List.map_cons, List.map_nil, List.replicate, List.cons_append, List.nil_append, List.length_cons, List.length_nil, Bool.not_true, Bool.not_false, if_true, if_false, ite_true, ite_false, reduceIte, Bool.false_eq_true, Bool.true_eq_false, Nat.reduceAdd, unD, Option.map_some, Nat.zero_le, Sh.sz1, Sh.sz2, Sh.sz3, Sh.sz4, Sh.sz5, Sh.sz6, Sh.sz7, Sh.sz8, Sh.sz9, Sh.sz10, Sh.sz11, Sh.sz12, Sh.sz13, Sh.sz14, Sh.sz15, Sh.sz16, Nat.reduceSub, Nat.reduceLeDiff, reduceCtorEq, Bool.and_true, Bool.true_and, Bool.and_false, Bool.false_and, Bool.or_true, Bool.or_false, Bool.true_or, Bool.false_or, bAll_map, hb]
theorem deeds_int (hs : sm 2 (zTT rs) = true) (h1 : rs ≠ []) (h8 : rs.length ≤ 8) (hf : (rs.flatMap id).length ≤ 1000) (hn : ∀ r ∈ rs, r.length = n) : m_are_deeds [.d (.int (n : Int)), .d (zTT rs), .d (.int 8), .d (.int 1000000)] S = .ok (.d (.bool ((rs.flatMap id).all inB))) S := by
  have hr : ∀ r ∈ rs, r.length ≤ 1000 := fun r hr => by
    have := (sm_tup.1 ((sm_tup.1 hs).2 _ (List.mem_map_of_mem hr))).1
    simpa using this
  have he : (rs.map zT).isEmpty = false := by cases rs <;> first | exact absurd rfl h1 | rfl
  have hb : ((rs.map fun r => r.map PyData.int).all (rowI n)) = true := by
    rw [List.all_map, List.all_eq_true]
    intro r hr
    simp [Function.comp, rowI, hn r hr, isI]
  unfold m_are_deeds defM b_are_deeds
  simp only [eVar_ap, eK_ap, aNil_ap, aCons_ap, eOp2_ap, eOp1_ap, eChain_ap, bOf_ap, bNot_ap, bAnd_ap, bOr_ap, eAnd_ap, eOr_ap, eNot_ap, eIf_ap, eTup_ap, eLst_ap, eLstM_ap, cNop_ap, cBreak_ap, cCont_ap, cSeq_ap, cExpr_ap, cSet_ap, cRet_ap, cRetN_ap, cIf_ap, cAsg_ap, cPar2_ap, cPar3_ap, bYes_ap, eCall_ap, oNone_ap, oSome_ap, eSl_ap, cFor_ap, eMtL_ap, aKw_ap, gNm_ap, gTp2, gTp3, gSb_ap, mkTup0, mkTup1, mkTup2, mkTup3, Out.bind, Out.ofO, exq, fin, callE_ap, List.getElem?_cons_succ, List.getElem?_cons_zero, List.set_cons_succ, List.set_cons_zero, List.map_cons, List.map_nil, List.replicate, List.cons_append, List.nil_append, List.length_cons, List.length_nil, Bool.not_true, Bool.not_false, if_true, if_false, ite_true, ite_false, reduceIte, Bool.false_eq_true, Bool.true_eq_false, Nat.reduceAdd, unD, Option.map_some, Nat.zero_le, Sh.sz1, Sh.sz2, Sh.sz3, Sh.sz4, Sh.sz5, Sh.sz6, Sh.sz7, Sh.sz8, Sh.sz9, Sh.sz10, Sh.sz11, Sh.sz12, Sh.sz13, Sh.sz14, Sh.sz15, Sh.sz16, Nat.reduceSub, Nat.reduceLeDiff, reduceCtorEq, Bool.and_true, Bool.true_and, Bool.and_false, Bool.false_and, Bool.or_true, Bool.or_false, Bool.true_or, Bool.false_or, opIsi_d, show isiT (tyD (zTT rs)) "tuple" = true from rfl, opEq_sh (x := zTT rs) (y := .tuple []) (n := 2) (m := 1) hs rfl, eqv_tnil, he, notN_int, bLen_tup, opInt_int, List.length_map, show decide ((rs.length : Int) > 8) = false from decide_eq_false (by omega)]
  rw [deeds_1 (n := n) (R := rs.map fun r => r.map PyData.int) (by simp; omega) (fun r hr' => by obtain ⟨q, hq, rfl⟩ := List.mem_map.1 hr'; simpa using hr q hq) rfl rfl (by rw [← zTT_rTT]; rfl)]
  simp only [eVar_ap, eK_ap, aNil_ap, aCons_ap, eOp2_ap, eOp1_ap, eChain_ap, bOf_ap, bNot_ap, bAnd_ap, bOr_ap, eAnd_ap, eOr_ap, eNot_ap, eIf_ap, eTup_ap, eLst_ap, eLstM_ap, cNop_ap, cBreak_ap, cCont_ap, cSeq_ap, cExpr_ap, cSet_ap, cRet_ap, cRetN_ap, cIf_ap, cAsg_ap, cPar2_ap, cPar3_ap, bYes_ap, eCall_ap, oNone_ap, oSome_ap, eSl_ap, cFor_ap, eMtL_ap, aKw_ap, gNm_ap, gTp2, gTp3, gSb_ap, mkTup0, mkTup1, mkTup2, mkTup3, Out.bind, Out.ofO, exq, fin, callE_ap, List.getElem?_cons_succ, List.getElem?_cons_zero, List.set_cons_succ, List.set_cons_zero, List.map_cons, List.map_nil, List.replicate, List.cons_append, List.nil_append, List.length_cons, List.length_nil, Bool.not_true, Bool.not_false, if_true, if_false, ite_true, ite_false, reduceIte, Bool.false_eq_true, Bool.true_eq_false, Nat.reduceAdd, unD, Option.map_some, Nat.zero_le, Sh.sz1, Sh.sz2, Sh.sz3, Sh.sz4, Sh.sz5, Sh.sz6, Sh.sz7, Sh.sz8, Sh.sz9, Sh.sz10, Sh.sz11, Sh.sz12, Sh.sz13, Sh.sz14, Sh.sz15, Sh.sz16, Nat.reduceSub, Nat.reduceLeDiff, reduceCtorEq, Bool.and_true, Bool.true_and, Bool.and_false, Bool.false_and, Bool.or_true, Bool.or_false, Bool.true_or, Bool.false_or, bAll_map, hb, isN_int]
  rw [deeds_2 (rs := rs) hf rfl rfl rfl]
  simp only [eVar_ap, eK_ap, aNil_ap, aCons_ap, eOp2_ap, eOp1_ap, eChain_ap, bOf_ap, bNot_ap, bAnd_ap, bOr_ap, eAnd_ap, eOr_ap, eNot_ap, eIf_ap, eTup_ap, eLst_ap, eLstM_ap, cNop_ap, cBreak_ap, cCont_ap, cSeq_ap, cExpr_ap, cSet_ap, cRet_ap, cRetN_ap, cIf_ap, cAsg_ap, cPar2_ap, cPar3_ap, bYes_ap, eCall_ap, oNone_ap, oSome_ap, eSl_ap, cFor_ap, eMtL_ap, aKw_ap, gNm_ap, gTp2, gTp3, gSb_ap, mkTup0, mkTup1, mkTup2, mkTup3, Out.bind, Out.ofO, exq, fin, callE_ap, List.getElem?_cons_succ, List.getElem?_cons_zero, List.set_cons_succ, List.set_cons_zero, List.map_cons, List.map_nil, List.replicate, List.cons_append, List.nil_append, List.length_cons, List.length_nil, Bool.not_true, Bool.not_false, if_true, if_false, ite_true, ite_false, reduceIte, Bool.false_eq_true, Bool.true_eq_false, Nat.reduceAdd, unD, Option.map_some, Nat.zero_le, Sh.sz1, Sh.sz2, Sh.sz3, Sh.sz4, Sh.sz5, Sh.sz6, Sh.sz7, Sh.sz8, Sh.sz9, Sh.sz10, Sh.sz11, Sh.sz12, Sh.sz13, Sh.sz14, Sh.sz15, Sh.sz16, Nat.reduceSub, Nat.reduceLeDiff, reduceCtorEq, Bool.and_true, Bool.true_and, Bool.and_false, Bool.false_and, Bool.or_true, Bool.or_false, Bool.true_or, Bool.false_or, bAll_map]
/-! the sheet, the choice, the plan -/
structure SH (sh : List (List Int)) (n m t : Nat) : Prop where
  n0 : 1 ≤ n
  n4 : n ≤ 4
  m0 : 1 ≤ m
  m4 : m ≤ 4
  t0 : 1 ≤ t
  t12 : t ≤ 12
  len : sh.length = n
  row : ∀ r ∈ sh, r.length = m ∧ (∀ e ∈ r, 0 ≤ e ∧ e ≤ 12) ∧ r.sum = t
structure CH (ch : List (List Int)) (n d : Nat) : Prop where
  d0 : 1 ≤ d
  d4 : d ≤ 4
  n4 : n ≤ 4
  len : ch.length = d
  row : ∀ r ∈ ch, r.length = n ∧ ∀ e ∈ r, -9 ≤ e ∧ e ≤ 9
structure PL (pl : List Nat) (m d : Nat) : Prop where
  m4 : m ≤ 4
  len : pl.length = m
  lt : ∀ x ∈ pl, x < d
theorem flat_len {α : Type} {rs : List (List α)} {m : Nat} (h : ∀ r ∈ rs, r.length ≤ m) : (rs.flatMap id).length ≤ rs.length * m := by
  induction rs with
  | nil => simp
  | cons x l ih =>
    rw [List.flatMap_cons, List.length_append, List.length_cons, Nat.succ_mul]
    have := ih fun r hr => h r (by simp [hr])
    have := h x (by simp)
    simp only [id] at *
    omega
theorem SH.sm (Z : SH sh n m t) : sm 2 (zTT sh) = true := sm_zTT (n := 0) (by have := Z.len; have := Z.n4; omega) fun r hr => by have := (Z.row r hr).1; have := Z.m4; omega
theorem SH.tm (Z : SH sh n m t) {q : Nat} : tm (q + 2) (zTT sh) = true := tm_tup.2 ⟨by rw [List.length_map]; have := Z.len; have := Z.n4; omega, fun x hx => by obtain ⟨r, hr, rfl⟩ := List.mem_map.1 hx; exact tm_zT (by have := (Z.row r hr).1; have := Z.m4; omega)⟩
theorem CH.sm (Z : CH ch n d) : sm 2 (zTT ch) = true := sm_zTT (n := 0) (by have := Z.len; have := Z.d4; omega) fun r hr => by have := (Z.row r hr).1; have := Z.n4; omega
theorem SH.mem0 (Z : SH sh n m t) : sh.getD 0 [] ∈ sh := by
  have h : 0 < sh.length := by have := Z.len; have := Z.n0; omega
  rw [List.getD_eq_getElem?_getD, List.getElem?_eq_getElem h]; exact List.getElem_mem h
theorem mem_getD {α : Type} {l : List α} {k : Nat} {x0 : α} (h : k < l.length) : l.getD k x0 ∈ l := by
  rw [List.getD_eq_getElem?_getD, List.getElem?_eq_getElem h]; exact List.getElem_mem h
theorem sheet_good (Z : SH sh n m t) : m_is_sheet [.d (zTT sh)] S = .ok (.d (.bool true)) S := by
  have hl := Z.len; have := Z.n0; have := Z.n4; have := Z.m0; have := Z.m4; have := Z.t0; have := Z.t12
  have hf := flat_len (rs := sh) (m := m) fun r hr => by rw [(Z.row r hr).1]; exact Nat.le_refl _
  have : sh.length * m ≤ 4 * 4 := Nat.mul_le_mul (by omega) (by omega)
  rw [sheet_int (by omega) (by omega)]
  congr 3
  have h1 : szOk sh.length = true := by simp [szOk]; omega
  have h2 : (sh.all fun r => decide (1 ≤ r.length)) = true := by rw [List.all_eq_true]; intro r hr; have := (Z.row r hr).1; exact decide_eq_true (by omega)
  have h3 : ((sh.flatMap id).all fun e => decide (0 ≤ e)) = true := by
    rw [List.all_eq_true]
    intro e he
    obtain ⟨r, hr, he⟩ := List.mem_flatMap.1 he
    exact decide_eq_true ((Z.row r hr).2.1 e he).1
  have h4 : dN (lns sh) ≤ 1 := dN_le1 (c := (m : Int)) fun x hx => by obtain ⟨r, hr, rfl⟩ := List.mem_map.1 hx; rw [(Z.row r hr).1]
  have h5 : dN (sms sh) ≤ 1 := dN_le1 (c := (t : Int)) fun x hx => by obtain ⟨r, hr, rfl⟩ := List.mem_map.1 hx; rw [(Z.row r hr).2.2]
  have h6 : topOk (sh.getD 0 []) = true := by
    have := Z.row _ Z.mem0
    simp only [topOk, Bool.and_eq_true, decide_eq_true_eq]
    rw [this.2.2, this.1]
    omega
  have h7 : decide (1 < dN (lns sh)) = false := decide_eq_false (by omega)
  have h8 : decide (1 < dN (sms sh)) = false := decide_eq_false (by omega)
  rw [shOk, h1, h2, h3, h7, h8, h6]; rfl
theorem need_sheet_ok (Z : SH sh n m t) : m_need_sheet [.d (zTT sh)] S = .ok (.d .none) S := by
  unfold m_need_sheet defM b_need_sheet
  simp only [eVar_ap, eK_ap, aNil_ap, aCons_ap, eOp2_ap, eOp1_ap, eChain_ap, bOf_ap, bNot_ap, bAnd_ap, bOr_ap, eAnd_ap, eOr_ap, eNot_ap, eIf_ap, eTup_ap, eLst_ap, eLstM_ap, cNop_ap, cBreak_ap, cCont_ap, cSeq_ap, cExpr_ap, cSet_ap, cRet_ap, cRetN_ap, cIf_ap, cAsg_ap, cPar2_ap, cPar3_ap, bYes_ap, eCall_ap, oNone_ap, oSome_ap, eSl_ap, cFor_ap, eMtL_ap, aKw_ap, gNm_ap, gTp2, gTp3, gSb_ap, mkTup0, mkTup1, mkTup2, mkTup3, Out.bind, Out.ofO, exq, fin, callE_ap, List.getElem?_cons_succ, List.getElem?_cons_zero, List.set_cons_succ, List.set_cons_zero, List.map_cons, List.map_nil, List.replicate, List.cons_append, List.nil_append, List.length_cons, List.length_nil, Bool.not_true, Bool.not_false, if_true, if_false, ite_true, ite_false, reduceIte, Bool.false_eq_true, Bool.true_eq_false, Nat.reduceAdd, unD, Option.map_some, Nat.zero_le, Sh.sz1, Sh.sz2, Sh.sz3, Sh.sz4, Sh.sz5, Sh.sz6, Sh.sz7, Sh.sz8, Sh.sz9, Sh.sz10, Sh.sz11, Sh.sz12, Sh.sz13, Sh.sz14, Sh.sz15, Sh.sz16, Nat.reduceSub, Nat.reduceLeDiff, reduceCtorEq, Bool.and_true, Bool.true_and, Bool.and_false, Bool.false_and, Bool.or_true, Bool.or_false, Bool.true_or, Bool.false_or, callP_d (sheet_good (S := []) Z)]
theorem need_sheet_x (h : m_is_sheet [.d x] [] = .ok (.d (.bool false)) []) : m_need_sheet [.d x] S = .exc ⟨"BadSheet", none⟩ S := by
  unfold m_need_sheet defM b_need_sheet
  simp only [eVar_ap, eK_ap, aNil_ap, aCons_ap, eOp2_ap, eOp1_ap, eChain_ap, bOf_ap, bNot_ap, bAnd_ap, bOr_ap, eAnd_ap, eOr_ap, eNot_ap, eIf_ap, eTup_ap, eLst_ap, eLstM_ap, cNop_ap, cBreak_ap, cCont_ap, cSeq_ap, cExpr_ap, cSet_ap, cRet_ap, cRetN_ap, cIf_ap, cAsg_ap, cPar2_ap, cPar3_ap, bYes_ap, eCall_ap, oNone_ap, oSome_ap, eSl_ap, cFor_ap, eMtL_ap, aKw_ap, gNm_ap, gTp2, gTp3, gSb_ap, mkTup0, mkTup1, mkTup2, mkTup3, Out.bind, Out.ofO, exq, fin, callE_ap, List.getElem?_cons_succ, List.getElem?_cons_zero, List.set_cons_succ, List.set_cons_zero, List.map_cons, List.map_nil, List.replicate, List.cons_append, List.nil_append, List.length_cons, List.length_nil, Bool.not_true, Bool.not_false, if_true, if_false, ite_true, ite_false, reduceIte, Bool.false_eq_true, Bool.true_eq_false, Nat.reduceAdd, unD, Option.map_some, Nat.zero_le, Sh.sz1, Sh.sz2, Sh.sz3, Sh.sz4, Sh.sz5, Sh.sz6, Sh.sz7, Sh.sz8, Sh.sz9, Sh.sz10, Sh.sz11, Sh.sz12, Sh.sz13, Sh.sz14, Sh.sz15, Sh.sz16, Nat.reduceSub, Nat.reduceLeDiff, reduceCtorEq, Bool.and_true, Bool.true_and, Bool.and_false, Bool.false_and, Bool.or_true, Bool.or_false, Bool.true_or, Bool.false_or, callP_d h, cRaise_ap]
theorem deeds_good (Z : CH ch n d) : m_are_deeds [.d (.int (n : Int)), .d (zTT ch), .d (.int 8), .d (.int 1000000)] S = .ok (.d (.bool true)) S := by
  have hl := Z.len; have := Z.d0; have := Z.d4; have := Z.n4
  have hf := flat_len (rs := ch) (m := n) fun r hr => by rw [(Z.row r hr).1]; exact Nat.le_refl _
  have : ch.length * n ≤ 4 * 4 := Nat.mul_le_mul (by omega) (by omega)
  rw [deeds_int Z.sm (fun e => by rw [e] at hl; simp at hl; omega) (by omega) (by omega) fun r hr => (Z.row r hr).1]
  congr 3
  rw [List.all_eq_true]
  intro e he
  obtain ⟨r, hr, he⟩ := List.mem_flatMap.1 he
  have := (Z.row r hr).2 e he
  unfold inB
  refine decide_eq_true ?_
  split <;> omega
theorem need_choice_ok (Z : SH sh n m t) (C : CH ch n d) : m_need_choice [.d (zTT sh), .d (zTT ch)] S = .ok (.d .none) S := by
  unfold m_need_choice defM b_need_choice
  simp only [eVar_ap, eK_ap, aNil_ap, aCons_ap, eOp2_ap, eOp1_ap, eChain_ap, bOf_ap, bNot_ap, bAnd_ap, bOr_ap, eAnd_ap, eOr_ap, eNot_ap, eIf_ap, eTup_ap, eLst_ap, eLstM_ap, cNop_ap, cBreak_ap, cCont_ap, cSeq_ap, cExpr_ap, cSet_ap, cRet_ap, cRetN_ap, cIf_ap, cAsg_ap, cPar2_ap, cPar3_ap, bYes_ap, eCall_ap, oNone_ap, oSome_ap, eSl_ap, cFor_ap, eMtL_ap, aKw_ap, gNm_ap, gTp2, gTp3, gSb_ap, mkTup0, mkTup1, mkTup2, mkTup3, Out.bind, Out.ofO, exq, fin, callE_ap, List.getElem?_cons_succ, List.getElem?_cons_zero, List.set_cons_succ, List.set_cons_zero, List.map_cons, List.map_nil, List.replicate, List.cons_append, List.nil_append, List.length_cons, List.length_nil, Bool.not_true, Bool.not_false, if_true, if_false, ite_true, ite_false, reduceIte, Bool.false_eq_true, Bool.true_eq_false, Nat.reduceAdd, unD, Option.map_some, Nat.zero_le, Sh.sz1, Sh.sz2, Sh.sz3, Sh.sz4, Sh.sz5, Sh.sz6, Sh.sz7, Sh.sz8, Sh.sz9, Sh.sz10, Sh.sz11, Sh.sz12, Sh.sz13, Sh.sz14, Sh.sz15, Sh.sz16, Nat.reduceSub, Nat.reduceLeDiff, reduceCtorEq, Bool.and_true, Bool.true_and, Bool.and_false, Bool.false_and, Bool.or_true, Bool.or_false, Bool.true_or, Bool.false_or, callP_d (need_sheet_ok (S := []) Z), bLen_tup, List.length_map, Z.len, callP_d (deeds_good (S := []) C)]
theorem need_choice_x (h : m_is_sheet [.d x] [] = .ok (.d (.bool false)) []) {y : PyData} : m_need_choice [.d x, .d y] S = .exc ⟨"BadSheet", none⟩ S := by
  unfold m_need_choice defM b_need_choice
  simp only [eVar_ap, eK_ap, aNil_ap, aCons_ap, eOp2_ap, eOp1_ap, eChain_ap, bOf_ap, bNot_ap, bAnd_ap, bOr_ap, eAnd_ap, eOr_ap, eNot_ap, eIf_ap, eTup_ap, eLst_ap, eLstM_ap, cNop_ap, cBreak_ap, cCont_ap, cSeq_ap, cExpr_ap, cSet_ap, cRet_ap, cRetN_ap, cIf_ap, cAsg_ap, cPar2_ap, cPar3_ap, bYes_ap, eCall_ap, oNone_ap, oSome_ap, eSl_ap, cFor_ap, eMtL_ap, aKw_ap, gNm_ap, gTp2, gTp3, gSb_ap, mkTup0, mkTup1, mkTup2, mkTup3, Out.bind, Out.ofO, exq, fin, callE_ap, List.getElem?_cons_succ, List.getElem?_cons_zero, List.set_cons_succ, List.set_cons_zero, List.map_cons, List.map_nil, List.replicate, List.cons_append, List.nil_append, List.length_cons, List.length_nil, Bool.not_true, Bool.not_false, if_true, if_false, ite_true, ite_false, reduceIte, Bool.false_eq_true, Bool.true_eq_false, Nat.reduceAdd, unD, Option.map_some, Nat.zero_le, Sh.sz1, Sh.sz2, Sh.sz3, Sh.sz4, Sh.sz5, Sh.sz6, Sh.sz7, Sh.sz8, Sh.sz9, Sh.sz10, Sh.sz11, Sh.sz12, Sh.sz13, Sh.sz14, Sh.sz15, Sh.sz16, Nat.reduceSub, Nat.reduceLeDiff, reduceCtorEq, Bool.and_true, Bool.true_and, Bool.and_false, Bool.false_and, Bool.or_true, Bool.or_false, Bool.true_or, Bool.false_or, callP_x (need_sheet_x (S := []) h)]
theorem need_choice_y (Z : SH sh n m t) {y : PyData} (h : m_are_deeds [.d (.int (n : Int)), .d y, .d (.int 8), .d (.int 1000000)] [] = .ok (.d (.bool false)) []) : m_need_choice [.d (zTT sh), .d y] S = .exc ⟨"BadChoice", none⟩ S := by
  unfold m_need_choice defM b_need_choice
  simp only [eVar_ap, eK_ap, aNil_ap, aCons_ap, eOp2_ap, eOp1_ap, eChain_ap, bOf_ap, bNot_ap, bAnd_ap, bOr_ap, eAnd_ap, eOr_ap, eNot_ap, eIf_ap, eTup_ap, eLst_ap, eLstM_ap, cNop_ap, cBreak_ap, cCont_ap, cSeq_ap, cExpr_ap, cSet_ap, cRet_ap, cRetN_ap, cIf_ap, cAsg_ap, cPar2_ap, cPar3_ap, bYes_ap, eCall_ap, oNone_ap, oSome_ap, eSl_ap, cFor_ap, eMtL_ap, aKw_ap, gNm_ap, gTp2, gTp3, gSb_ap, mkTup0, mkTup1, mkTup2, mkTup3, Out.bind, Out.ofO, exq, fin, callE_ap, List.getElem?_cons_succ, List.getElem?_cons_zero, List.set_cons_succ, List.set_cons_zero, List.map_cons, List.map_nil, List.replicate, List.cons_append, List.nil_append, List.length_cons, List.length_nil, Bool.not_true, Bool.not_false, if_true, if_false, ite_true, ite_false, reduceIte, Bool.false_eq_true, Bool.true_eq_false, Nat.reduceAdd, unD, Option.map_some, Nat.zero_le, Sh.sz1, Sh.sz2, Sh.sz3, Sh.sz4, Sh.sz5, Sh.sz6, Sh.sz7, Sh.sz8, Sh.sz9, Sh.sz10, Sh.sz11, Sh.sz12, Sh.sz13, Sh.sz14, Sh.sz15, Sh.sz16, Nat.reduceSub, Nat.reduceLeDiff, reduceCtorEq, Bool.and_true, Bool.true_and, Bool.and_false, Bool.false_and, Bool.or_true, Bool.or_false, Bool.true_or, Bool.false_or, callP_d (need_sheet_ok (S := []) Z), bLen_tup, List.length_map, Z.len, callP_d h, cRaise_ap]
/-! gains -/
theorem SH.ent (Z : SH sh n m t) {s a : Nat} (hs : s < n) (ha : a < m) : 0 ≤ (sh.getD s []).getD a 0 ∧ (sh.getD s []).getD a 0 ≤ 12 := by
  have h1 := Z.row _ (mem_getD (l := sh) (k := s) (x0 := []) (by rw [Z.len]; exact hs))
  exact h1.2.1 _ (mem_getD (by omega))
theorem CH.len' (C : CH ch n d) {x : Nat} (hx : x < d) : (ch.getD x []).length = n := (C.row _ (mem_getD (by rw [C.len]; exact hx))).1
theorem cmul_small {i j : Int} (h : 0 ≤ i ∧ i ≤ 12) : CMul i j := .inl ⟨by omega, by omega⟩
theorem gains_at_ok (Z : SH sh n m t) (C : CH ch n d) {a : Nat} (ha : a < m) : m_gains_at [.d (zTT sh), .d (zTT ch), .d (.int (a : Int))] S = .ok (.d (zL (gn sh ch a))) S := by
  have hd4 := C.d4; have hcl := C.len; have hn4 := Z.n4; have hsl := Z.len
  unfold m_gains_at defM b_gains_at q_gains_at_1
  simp only [eVar_ap, eK_ap, aNil_ap, aCons_ap, eOp2_ap, eOp1_ap, eChain_ap, bOf_ap, bNot_ap, bAnd_ap, bOr_ap, eAnd_ap, eOr_ap, eNot_ap, eIf_ap, eTup_ap, eLst_ap, eLstM_ap, cNop_ap, cBreak_ap, cCont_ap, cSeq_ap, cExpr_ap, cSet_ap, cRet_ap, cRetN_ap, cIf_ap, cAsg_ap, cPar2_ap, cPar3_ap, bYes_ap, eCall_ap, oNone_ap, oSome_ap, eSl_ap, cFor_ap, eMtL_ap, aKw_ap, gNm_ap, gTp2, gTp3, gSb_ap, mkTup0, mkTup1, mkTup2, mkTup3, Out.bind, Out.ofO, exq, fin, callE_ap, List.getElem?_cons_succ, List.getElem?_cons_zero, List.set_cons_succ, List.set_cons_zero, List.map_cons, List.map_nil, List.replicate, List.cons_append, List.nil_append, List.length_cons, List.length_nil, Bool.not_true, Bool.not_false, if_true, if_false, ite_true, ite_false, reduceIte, Bool.false_eq_true, Bool.true_eq_false, Nat.reduceAdd, unD, Option.map_some, Nat.zero_le, Sh.sz1, Sh.sz2, Sh.sz3, Sh.sz4, Sh.sz5, Sh.sz6, Sh.sz7, Sh.sz8, Sh.sz9, Sh.sz10, Sh.sz11, Sh.sz12, Sh.sz13, Sh.sz14, Sh.sz15, Sh.sz16, Nat.reduceSub, Nat.reduceLeDiff, reduceCtorEq, Bool.and_true, Bool.true_and, Bool.and_false, Bool.false_and, Bool.or_true, Bool.or_false, Bool.true_or, Bool.false_or]
  rw [eLc_y ch (fun r => W.d (zT r)) (fun r => .int ((sh.zip r).map fun p => p.1.getD a 0 * p.2).sum) (grd := fun _ => True) (iSq_zTT rfl) trivial (len_le (by omega)) fun r hr => ⟨_, rfl, ?_⟩]
  · simp only [eVar_ap, eK_ap, aNil_ap, aCons_ap, eOp2_ap, eOp1_ap, eChain_ap, bOf_ap, bNot_ap, bAnd_ap, bOr_ap, eAnd_ap, eOr_ap, eNot_ap, eIf_ap, eTup_ap, eLst_ap, eLstM_ap, cNop_ap, cBreak_ap, cCont_ap, cSeq_ap, cExpr_ap, cSet_ap, cRet_ap, cRetN_ap, cIf_ap, cAsg_ap, cPar2_ap, cPar3_ap, bYes_ap, eCall_ap, oNone_ap, oSome_ap, eSl_ap, cFor_ap, eMtL_ap, aKw_ap, gNm_ap, gTp2, gTp3, gSb_ap, mkTup0, mkTup1, mkTup2, mkTup3, Out.bind, Out.ofO, exq, fin, callE_ap, List.getElem?_cons_succ, List.getElem?_cons_zero, List.set_cons_succ, List.set_cons_zero, List.map_cons, List.map_nil, List.replicate, List.cons_append, List.nil_append, List.length_cons, List.length_nil, Bool.not_true, Bool.not_false, if_true, if_false, ite_true, ite_false, reduceIte, Bool.false_eq_true, Bool.true_eq_false, Nat.reduceAdd, unD, Option.map_some, Nat.zero_le, Sh.sz1, Sh.sz2, Sh.sz3, Sh.sz4, Sh.sz5, Sh.sz6, Sh.sz7, Sh.sz8, Sh.sz9, Sh.sz10, Sh.sz11, Sh.sz12, Sh.sz13, Sh.sz14, Sh.sz15, Sh.sz16, Nat.reduceSub, Nat.reduceLeDiff, reduceCtorEq, Bool.and_true, Bool.true_and, Bool.and_false, Bool.false_and, Bool.or_true, Bool.or_false, Bool.true_or, Bool.false_or, zL, gn, List.map_map]; rfl
  · have hrl := (C.row r hr).1
    have e : ∀ p4 p5 : Option W, q_gains_at_0 [some (.d (zTT sh)), some (.d (zTT ch)), some (.d (.int (a : Int))), some (.d (zT r)), p4, p5] S = .ok (.d (zL ((sh.zip r).map fun p => p.1.getD a 0 * p.2))) S := fun p4 p5 => by
      unfold q_gains_at_0
      rw [eLc_y (sh.zip r) (fun p => W.d (.tuple [zT p.1, .int p.2])) (fun p => .int (p.1.getD a 0 * p.2)) (grd := fun _ => True) ?_ trivial (by rw [List.length_zip]; exact len_le (by omega)) fun p hp => ⟨_, gTp2, ?_⟩]
      · simp only [zL, List.map_map]; rfl
      · rw [iZp_tt (xs := sh.map zT) (ys := r.map .int) rfl, List.zip_map, List.map_map]; rfl
      · have hm := (List.of_mem_zip (show (p.1, p.2) ∈ sh.zip r from hp)).1
        have h1 := Z.row _ hm
        simp only [eVar_ap, eK_ap, aNil_ap, aCons_ap, eOp2_ap, eOp1_ap, eChain_ap, bOf_ap, bNot_ap, bAnd_ap, bOr_ap, eAnd_ap, eOr_ap, eNot_ap, eIf_ap, eTup_ap, eLst_ap, eLstM_ap, cNop_ap, cBreak_ap, cCont_ap, cSeq_ap, cExpr_ap, cSet_ap, cRet_ap, cRetN_ap, cIf_ap, cAsg_ap, cPar2_ap, cPar3_ap, bYes_ap, eCall_ap, oNone_ap, oSome_ap, eSl_ap, cFor_ap, eMtL_ap, aKw_ap, gNm_ap, gTp2, gTp3, gSb_ap, mkTup0, mkTup1, mkTup2, mkTup3, Out.bind, Out.ofO, exq, fin, callE_ap, List.getElem?_cons_succ, List.getElem?_cons_zero, List.set_cons_succ, List.set_cons_zero, List.map_cons, List.map_nil, List.replicate, List.cons_append, List.nil_append, List.length_cons, List.length_nil, Bool.not_true, Bool.not_false, if_true, if_false, ite_true, ite_false, reduceIte, Bool.false_eq_true, Bool.true_eq_false, Nat.reduceAdd, unD, Option.map_some, Nat.zero_le, Sh.sz1, Sh.sz2, Sh.sz3, Sh.sz4, Sh.sz5, Sh.sz6, Sh.sz7, Sh.sz8, Sh.sz9, Sh.sz10, Sh.sz11, Sh.sz12, Sh.sz13, Sh.sz14, Sh.sz15, Sh.sz16, Nat.reduceSub, Nat.reduceLeDiff, reduceCtorEq, Bool.and_true, Bool.true_and, Bool.and_false, Bool.false_and, Bool.or_true, Bool.or_false, Bool.true_or, Bool.false_or, wipeR, ix_zT (r := p.1) (k := a) (by omega), opMul_int (cmul_small (h1.2.1 _ (mem_getD (l := p.1) (k := a) (x0 := 0) (by omega))))]
    simp only [eVar_ap, eK_ap, aNil_ap, aCons_ap, eOp2_ap, eOp1_ap, eChain_ap, bOf_ap, bNot_ap, bAnd_ap, bOr_ap, eAnd_ap, eOr_ap, eNot_ap, eIf_ap, eTup_ap, eLst_ap, eLstM_ap, cNop_ap, cBreak_ap, cCont_ap, cSeq_ap, cExpr_ap, cSet_ap, cRet_ap, cRetN_ap, cIf_ap, cAsg_ap, cPar2_ap, cPar3_ap, bYes_ap, eCall_ap, oNone_ap, oSome_ap, eSl_ap, cFor_ap, eMtL_ap, aKw_ap, gNm_ap, gTp2, gTp3, gSb_ap, mkTup0, mkTup1, mkTup2, mkTup3, Out.bind, Out.ofO, exq, fin, callE_ap, List.getElem?_cons_succ, List.getElem?_cons_zero, List.set_cons_succ, List.set_cons_zero, List.map_cons, List.map_nil, List.replicate, List.cons_append, List.nil_append, List.length_cons, List.length_nil, Bool.not_true, Bool.not_false, if_true, if_false, ite_true, ite_false, reduceIte, Bool.false_eq_true, Bool.true_eq_false, Nat.reduceAdd, unD, Option.map_some, Nat.zero_le, Sh.sz1, Sh.sz2, Sh.sz3, Sh.sz4, Sh.sz5, Sh.sz6, Sh.sz7, Sh.sz8, Sh.sz9, Sh.sz10, Sh.sz11, Sh.sz12, Sh.sz13, Sh.sz14, Sh.sz15, Sh.sz16, Nat.reduceSub, Nat.reduceLeDiff, reduceCtorEq, Bool.and_true, Bool.true_and, Bool.and_false, Bool.false_and, Bool.or_true, Bool.or_false, Bool.true_or, Bool.false_or, wipeR, e, sum_zL]
theorem law_gains_ok (Z : SH sh n m t) (C : CH ch n d) {a : Nat} (ha : a < m) : m__law_gains [.d (zTT sh), .d (zTT ch), .d (.int (a : Int))] S = .ok (.d (zL (gn sh ch a))) S := by
  have hd4 := C.d4; have hcl := C.len; have hn4 := Z.n4; have hsl := Z.len
  rw [gn_range fun r hr => by rw [(C.row r hr).1, hsl]]
  unfold m__law_gains defM b__law_gains q__law_gains_1
  simp only [eVar_ap, eK_ap, aNil_ap, aCons_ap, eOp2_ap, eOp1_ap, eChain_ap, bOf_ap, bNot_ap, bAnd_ap, bOr_ap, eAnd_ap, eOr_ap, eNot_ap, eIf_ap, eTup_ap, eLst_ap, eLstM_ap, cNop_ap, cBreak_ap, cCont_ap, cSeq_ap, cExpr_ap, cSet_ap, cRet_ap, cRetN_ap, cIf_ap, cAsg_ap, cPar2_ap, cPar3_ap, bYes_ap, eCall_ap, oNone_ap, oSome_ap, eSl_ap, cFor_ap, eMtL_ap, aKw_ap, gNm_ap, gTp2, gTp3, gSb_ap, mkTup0, mkTup1, mkTup2, mkTup3, Out.bind, Out.ofO, exq, fin, callE_ap, List.getElem?_cons_succ, List.getElem?_cons_zero, List.set_cons_succ, List.set_cons_zero, List.map_cons, List.map_nil, List.replicate, List.cons_append, List.nil_append, List.length_cons, List.length_nil, Bool.not_true, Bool.not_false, if_true, if_false, ite_true, ite_false, reduceIte, Bool.false_eq_true, Bool.true_eq_false, Nat.reduceAdd, unD, Option.map_some, Nat.zero_le, Sh.sz1, Sh.sz2, Sh.sz3, Sh.sz4, Sh.sz5, Sh.sz6, Sh.sz7, Sh.sz8, Sh.sz9, Sh.sz10, Sh.sz11, Sh.sz12, Sh.sz13, Sh.sz14, Sh.sz15, Sh.sz16, Nat.reduceSub, Nat.reduceLeDiff, reduceCtorEq, Bool.and_true, Bool.true_and, Bool.and_false, Bool.false_and, Bool.or_true, Bool.or_false, Bool.true_or, Bool.false_or]
  rw [eLc_y ch (fun r => W.d (zT r)) (fun r => .int ((List.range sh.length).map fun s => (sh.getD s []).getD a 0 * r.getD s 0).sum) (grd := fun _ => True) (iSq_zTT rfl) trivial (len_le (by omega)) fun r hr => ⟨_, rfl, ?_⟩]
  · simp only [eVar_ap, eK_ap, aNil_ap, aCons_ap, eOp2_ap, eOp1_ap, eChain_ap, bOf_ap, bNot_ap, bAnd_ap, bOr_ap, eAnd_ap, eOr_ap, eNot_ap, eIf_ap, eTup_ap, eLst_ap, eLstM_ap, cNop_ap, cBreak_ap, cCont_ap, cSeq_ap, cExpr_ap, cSet_ap, cRet_ap, cRetN_ap, cIf_ap, cAsg_ap, cPar2_ap, cPar3_ap, bYes_ap, eCall_ap, oNone_ap, oSome_ap, eSl_ap, cFor_ap, eMtL_ap, aKw_ap, gNm_ap, gTp2, gTp3, gSb_ap, mkTup0, mkTup1, mkTup2, mkTup3, Out.bind, Out.ofO, exq, fin, callE_ap, List.getElem?_cons_succ, List.getElem?_cons_zero, List.set_cons_succ, List.set_cons_zero, List.map_cons, List.map_nil, List.replicate, List.cons_append, List.nil_append, List.length_cons, List.length_nil, Bool.not_true, Bool.not_false, if_true, if_false, ite_true, ite_false, reduceIte, Bool.false_eq_true, Bool.true_eq_false, Nat.reduceAdd, unD, Option.map_some, Nat.zero_le, Sh.sz1, Sh.sz2, Sh.sz3, Sh.sz4, Sh.sz5, Sh.sz6, Sh.sz7, Sh.sz8, Sh.sz9, Sh.sz10, Sh.sz11, Sh.sz12, Sh.sz13, Sh.sz14, Sh.sz15, Sh.sz16, Nat.reduceSub, Nat.reduceLeDiff, reduceCtorEq, Bool.and_true, Bool.true_and, Bool.and_false, Bool.false_and, Bool.or_true, Bool.or_false, Bool.true_or, Bool.false_or, zL, List.map_map]; rfl
  · have hrl := (C.row r hr).1
    have e : ∀ p4 : Option W, q__law_gains_0 [some (.d (zTT sh)), some (.d (zTT ch)), some (.d (.int (a : Int))), some (.d (zT r)), p4] S = .ok (.d (zL ((List.range sh.length).map fun s => (sh.getD s []).getD a 0 * r.getD s 0))) S := fun p4 => by
      unfold q__law_gains_0
      rw [eLc_y (List.range sh.length) (fun (k : Nat) => W.d (.int (k : Int))) (fun s => .int ((sh.getD s []).getD a 0 * r.getD s 0)) (grd := fun _ => True) (iRg1_nat (by simp only [eVar_ap, eK_ap, aNil_ap, aCons_ap, eOp2_ap, eOp1_ap, eChain_ap, bOf_ap, bNot_ap, bAnd_ap, bOr_ap, eAnd_ap, eOr_ap, eNot_ap, eIf_ap, eTup_ap, eLst_ap, eLstM_ap, cNop_ap, cBreak_ap, cCont_ap, cSeq_ap, cExpr_ap, cSet_ap, cRet_ap, cRetN_ap, cIf_ap, cAsg_ap, cPar2_ap, cPar3_ap, bYes_ap, eCall_ap, oNone_ap, oSome_ap, eSl_ap, cFor_ap, eMtL_ap, aKw_ap, gNm_ap, gTp2, gTp3, gSb_ap, mkTup0, mkTup1, mkTup2, mkTup3, Out.bind, Out.ofO, exq, fin, callE_ap, List.getElem?_cons_succ, List.getElem?_cons_zero, List.set_cons_succ, List.set_cons_zero, List.map_cons, List.map_nil, List.replicate, List.cons_append, List.nil_append, List.length_cons, List.length_nil, Bool.not_true, Bool.not_false, if_true, if_false, ite_true, ite_false, reduceIte, Bool.false_eq_true, Bool.true_eq_false, Nat.reduceAdd, unD, Option.map_some, Nat.zero_le, Sh.sz1, Sh.sz2, Sh.sz3, Sh.sz4, Sh.sz5, Sh.sz6, Sh.sz7, Sh.sz8, Sh.sz9, Sh.sz10, Sh.sz11, Sh.sz12, Sh.sz13, Sh.sz14, Sh.sz15, Sh.sz16, Nat.reduceSub, Nat.reduceLeDiff, reduceCtorEq, Bool.and_true, Bool.true_and, Bool.and_false, Bool.false_and, Bool.or_true, Bool.or_false, Bool.true_or, Bool.false_or, bLen_tup, List.length_map]) (by omega)) trivial (by rw [List.length_range]; exact len_le (by omega)) fun s hs => ⟨_, rfl, ?_⟩]
      · simp only [zL, List.map_map]; rfl
      · have hs := List.mem_range.1 hs
        have h1 := Z.row _ (mem_getD (l := sh) (x0 := []) hs)
        simp only [eVar_ap, eK_ap, aNil_ap, aCons_ap, eOp2_ap, eOp1_ap, eChain_ap, bOf_ap, bNot_ap, bAnd_ap, bOr_ap, eAnd_ap, eOr_ap, eNot_ap, eIf_ap, eTup_ap, eLst_ap, eLstM_ap, cNop_ap, cBreak_ap, cCont_ap, cSeq_ap, cExpr_ap, cSet_ap, cRet_ap, cRetN_ap, cIf_ap, cAsg_ap, cPar2_ap, cPar3_ap, bYes_ap, eCall_ap, oNone_ap, oSome_ap, eSl_ap, cFor_ap, eMtL_ap, aKw_ap, gNm_ap, gTp2, gTp3, gSb_ap, mkTup0, mkTup1, mkTup2, mkTup3, Out.bind, Out.ofO, exq, fin, callE_ap, List.getElem?_cons_succ, List.getElem?_cons_zero, List.set_cons_succ, List.set_cons_zero, List.map_cons, List.map_nil, List.replicate, List.cons_append, List.nil_append, List.length_cons, List.length_nil, Bool.not_true, Bool.not_false, if_true, if_false, ite_true, ite_false, reduceIte, Bool.false_eq_true, Bool.true_eq_false, Nat.reduceAdd, unD, Option.map_some, Nat.zero_le, Sh.sz1, Sh.sz2, Sh.sz3, Sh.sz4, Sh.sz5, Sh.sz6, Sh.sz7, Sh.sz8, Sh.sz9, Sh.sz10, Sh.sz11, Sh.sz12, Sh.sz13, Sh.sz14, Sh.sz15, Sh.sz16, Nat.reduceSub, Nat.reduceLeDiff, reduceCtorEq, Bool.and_true, Bool.true_and, Bool.and_false, Bool.false_and, Bool.or_true, Bool.or_false, Bool.true_or, Bool.false_or, wipeR, ix_zTT hs, ix_zT (r := sh.getD s []) (k := a) (by omega), ix_zT (r := r) (k := s) (by omega), opMul_int (cmul_small (h1.2.1 _ (mem_getD (l := sh.getD s []) (k := a) (x0 := 0) (by omega))))]
    simp only [eVar_ap, eK_ap, aNil_ap, aCons_ap, eOp2_ap, eOp1_ap, eChain_ap, bOf_ap, bNot_ap, bAnd_ap, bOr_ap, eAnd_ap, eOr_ap, eNot_ap, eIf_ap, eTup_ap, eLst_ap, eLstM_ap, cNop_ap, cBreak_ap, cCont_ap, cSeq_ap, cExpr_ap, cSet_ap, cRet_ap, cRetN_ap, cIf_ap, cAsg_ap, cPar2_ap, cPar3_ap, bYes_ap, eCall_ap, oNone_ap, oSome_ap, eSl_ap, cFor_ap, eMtL_ap, aKw_ap, gNm_ap, gTp2, gTp3, gSb_ap, mkTup0, mkTup1, mkTup2, mkTup3, Out.bind, Out.ofO, exq, fin, callE_ap, List.getElem?_cons_succ, List.getElem?_cons_zero, List.set_cons_succ, List.set_cons_zero, List.map_cons, List.map_nil, List.replicate, List.cons_append, List.nil_append, List.length_cons, List.length_nil, Bool.not_true, Bool.not_false, if_true, if_false, ite_true, ite_false, reduceIte, Bool.false_eq_true, Bool.true_eq_false, Nat.reduceAdd, unD, Option.map_some, Nat.zero_le, Sh.sz1, Sh.sz2, Sh.sz3, Sh.sz4, Sh.sz5, Sh.sz6, Sh.sz7, Sh.sz8, Sh.sz9, Sh.sz10, Sh.sz11, Sh.sz12, Sh.sz13, Sh.sz14, Sh.sz15, Sh.sz16, Nat.reduceSub, Nat.reduceLeDiff, reduceCtorEq, Bool.and_true, Bool.true_and, Bool.and_false, Bool.false_and, Bool.or_true, Bool.or_false, Bool.true_or, Bool.false_or, wipeR, e, sum_zL]
/-! ratios -/
def rat (i : Int) (t : Nat) : PyData := .tuple [.int (i / (Nat.gcd i.natAbs t : Nat)), .int ((t : Int) / (Nat.gcd i.natAbs t : Nat))]
theorem gcd_div {i j : Int} {t : Nat} (h0 : 1 ≤ t) (h : t ≤ 1000) : CDivW j ((Nat.gcd i.natAbs t : Nat) : Int) := by
  have h1 : 0 < Nat.gcd i.natAbs t := Nat.gcd_pos_of_pos_right _ h0
  have h2 : Nat.gcd i.natAbs t ≤ t := Nat.gcd_le_right _ h0
  refine ⟨by omega, ?_⟩
  rw [Int.natAbs_natCast]
  have := (Nat.log2_lt (n := Nat.gcd i.natAbs t) (k := 10) (by omega)).2 (by omega)
  omega
theorem ratio_ok {i : Int} (h0 : 1 ≤ t) (h : t ≤ 1000) : m_ratio [.d (.int i), .d (.int (t : Int))] S = .ok (.d (rat i t)) S := by
  unfold m_ratio defM b_ratio
  simp only [eVar_ap, eK_ap, aNil_ap, aCons_ap, eOp2_ap, eOp1_ap, eChain_ap, bOf_ap, bNot_ap, bAnd_ap, bOr_ap, eAnd_ap, eOr_ap, eNot_ap, eIf_ap, eTup_ap, eLst_ap, eLstM_ap, cNop_ap, cBreak_ap, cCont_ap, cSeq_ap, cExpr_ap, cSet_ap, cRet_ap, cRetN_ap, cIf_ap, cAsg_ap, cPar2_ap, cPar3_ap, bYes_ap, eCall_ap, oNone_ap, oSome_ap, eSl_ap, cFor_ap, eMtL_ap, aKw_ap, gNm_ap, gTp2, gTp3, gSb_ap, mkTup0, mkTup1, mkTup2, mkTup3, Out.bind, Out.ofO, exq, fin, callE_ap, List.getElem?_cons_succ, List.getElem?_cons_zero, List.set_cons_succ, List.set_cons_zero, List.map_cons, List.map_nil, List.replicate, List.cons_append, List.nil_append, List.length_cons, List.length_nil, Bool.not_true, Bool.not_false, if_true, if_false, ite_true, ite_false, reduceIte, Bool.false_eq_true, Bool.true_eq_false, Nat.reduceAdd, unD, Option.map_some, Nat.zero_le, Sh.sz1, Sh.sz2, Sh.sz3, Sh.sz4, Sh.sz5, Sh.sz6, Sh.sz7, Sh.sz8, Sh.sz9, Sh.sz10, Sh.sz11, Sh.sz12, Sh.sz13, Sh.sz14, Sh.sz15, Sh.sz16, Nat.reduceSub, Nat.reduceLeDiff, reduceCtorEq, Bool.and_true, Bool.true_and, Bool.and_false, Bool.false_and, Bool.or_true, Bool.or_false, Bool.true_or, Bool.false_or, bGcd_int, opLt_int, show decide ((t : Int) < 0) = false from decide_eq_false (by omega), Int.natAbs_natCast, opDiv_int (gcd_div (i := i) (j := i) h0 h), opDiv_int (gcd_div (i := i) (j := (t : Int)) h0 h), rat]
theorem law_ratio_ok {i : Int} (h0 : 1 ≤ t) (h : t ≤ 1000) : m__law_ratio [.d (.int i), .d (.int (t : Int))] S = .ok (.d (rat i t)) S := by
  unfold m__law_ratio defM b__law_ratio
  obtain ⟨ρ', S', e, ⟨rfl, rfl⟩⟩ := while_inv (c := bOf (eOp2 (opNe) (eVar 3) (eInt 0))) (body := l__law_ratio_0) (Iv := fun k ρ S' => (∃ p : Nat, ρ = [some (.d (.int i)), some (.d (.int (t : Int))), some (.d (.int (p : Int))), some (.d (.int (k : Int)))] ∧ Nat.gcd p k = Nat.gcd i.natAbs t) ∧ S' = S)
    (Qv := fun ρ S' => ρ = [some (.d (.int i)), some (.d (.int (t : Int))), some (.d (.int (Nat.gcd i.natAbs t : Nat))), some (.d (.int 0))] ∧ S' = S) (by
      rintro k _ _ ⟨⟨p, rfl, hg⟩, rfl⟩
      rcases Nat.eq_zero_or_pos k with rfl | hk
      · refine .inl ⟨?_, ?_, rfl⟩
        · simp only [eVar_ap, eK_ap, aNil_ap, aCons_ap, eOp2_ap, eOp1_ap, eChain_ap, bOf_ap, bNot_ap, bAnd_ap, bOr_ap, eAnd_ap, eOr_ap, eNot_ap, eIf_ap, eTup_ap, eLst_ap, eLstM_ap, cNop_ap, cBreak_ap, cCont_ap, cSeq_ap, cExpr_ap, cSet_ap, cRet_ap, cRetN_ap, cIf_ap, cAsg_ap, cPar2_ap, cPar3_ap, bYes_ap, eCall_ap, oNone_ap, oSome_ap, eSl_ap, cFor_ap, eMtL_ap, aKw_ap, gNm_ap, gTp2, gTp3, gSb_ap, mkTup0, mkTup1, mkTup2, mkTup3, Out.bind, Out.ofO, exq, fin, callE_ap, List.getElem?_cons_succ, List.getElem?_cons_zero, List.set_cons_succ, List.set_cons_zero, List.map_cons, List.map_nil, List.replicate, List.cons_append, List.nil_append, List.length_cons, List.length_nil, Bool.not_true, Bool.not_false, if_true, if_false, ite_true, ite_false, reduceIte, Bool.false_eq_true, Bool.true_eq_false, Nat.reduceAdd, unD, Option.map_some, Nat.zero_le, Sh.sz1, Sh.sz2, Sh.sz3, Sh.sz4, Sh.sz5, Sh.sz6, Sh.sz7, Sh.sz8, Sh.sz9, Sh.sz10, Sh.sz11, Sh.sz12, Sh.sz13, Sh.sz14, Sh.sz15, Sh.sz16, Nat.reduceSub, Nat.reduceLeDiff, reduceCtorEq, Bool.and_true, Bool.true_and, Bool.and_false, Bool.false_and, Bool.or_true, Bool.or_false, Bool.true_or, Bool.false_or, opNe_int]; rfl
        · rw [← hg, Nat.gcd_zero_right]; rfl
      · refine .inr ⟨?_, _, _, ?_, p % k, Nat.mod_lt _ hk, ⟨k, rfl, ?_⟩, rfl⟩
        · simp only [eVar_ap, eK_ap, aNil_ap, aCons_ap, eOp2_ap, eOp1_ap, eChain_ap, bOf_ap, bNot_ap, bAnd_ap, bOr_ap, eAnd_ap, eOr_ap, eNot_ap, eIf_ap, eTup_ap, eLst_ap, eLstM_ap, cNop_ap, cBreak_ap, cCont_ap, cSeq_ap, cExpr_ap, cSet_ap, cRet_ap, cRetN_ap, cIf_ap, cAsg_ap, cPar2_ap, cPar3_ap, bYes_ap, eCall_ap, oNone_ap, oSome_ap, eSl_ap, cFor_ap, eMtL_ap, aKw_ap, gNm_ap, gTp2, gTp3, gSb_ap, mkTup0, mkTup1, mkTup2, mkTup3, Out.bind, Out.ofO, exq, fin, callE_ap, List.getElem?_cons_succ, List.getElem?_cons_zero, List.set_cons_succ, List.set_cons_zero, List.map_cons, List.map_nil, List.replicate, List.cons_append, List.nil_append, List.length_cons, List.length_nil, Bool.not_true, Bool.not_false, if_true, if_false, ite_true, ite_false, reduceIte, Bool.false_eq_true, Bool.true_eq_false, Nat.reduceAdd, unD, Option.map_some, Nat.zero_le, Sh.sz1, Sh.sz2, Sh.sz3, Sh.sz4, Sh.sz5, Sh.sz6, Sh.sz7, Sh.sz8, Sh.sz9, Sh.sz10, Sh.sz11, Sh.sz12, Sh.sz13, Sh.sz14, Sh.sz15, Sh.sz16, Nat.reduceSub, Nat.reduceLeDiff, reduceCtorEq, Bool.and_true, Bool.true_and, Bool.and_false, Bool.false_and, Bool.or_true, Bool.or_false, Bool.true_or, Bool.false_or, opNe_int]
          congr 1
          have : ((k : Int) == 0) = false := by simp; omega
          rw [this]; rfl
        · unfold l__law_ratio_0
          simp only [eVar_ap, eK_ap, aNil_ap, aCons_ap, eOp2_ap, eOp1_ap, eChain_ap, bOf_ap, bNot_ap, bAnd_ap, bOr_ap, eAnd_ap, eOr_ap, eNot_ap, eIf_ap, eTup_ap, eLst_ap, eLstM_ap, cNop_ap, cBreak_ap, cCont_ap, cSeq_ap, cExpr_ap, cSet_ap, cRet_ap, cRetN_ap, cIf_ap, cAsg_ap, cPar2_ap, cPar3_ap, bYes_ap, eCall_ap, oNone_ap, oSome_ap, eSl_ap, cFor_ap, eMtL_ap, aKw_ap, gNm_ap, gTp2, gTp3, gSb_ap, mkTup0, mkTup1, mkTup2, mkTup3, Out.bind, Out.ofO, exq, fin, callE_ap, List.getElem?_cons_succ, List.getElem?_cons_zero, List.set_cons_succ, List.set_cons_zero, List.map_cons, List.map_nil, List.replicate, List.cons_append, List.nil_append, List.length_cons, List.length_nil, Bool.not_true, Bool.not_false, if_true, if_false, ite_true, ite_false, reduceIte, Bool.false_eq_true, Bool.true_eq_false, Nat.reduceAdd, unD, Option.map_some, Nat.zero_le, Sh.sz1, Sh.sz2, Sh.sz3, Sh.sz4, Sh.sz5, Sh.sz6, Sh.sz7, Sh.sz8, Sh.sz9, Sh.sz10, Sh.sz11, Sh.sz12, Sh.sz13, Sh.sz14, Sh.sz15, Sh.sz16, Nat.reduceSub, Nat.reduceLeDiff, reduceCtorEq, Bool.and_true, Bool.true_and, Bool.and_false, Bool.false_and, Bool.or_true, Bool.or_false, Bool.true_or, Bool.false_or, bInt_int, opMod_int (show (0 : Int) < (k : Int) by omega)]
          rw [show ((p : Int) % (k : Int)) = ((p % k : Nat) : Int) from (Int.natCast_emod p k).symm]
        · rw [← hg, Nat.gcd_comm p k, Nat.gcd_rec k p, Nat.gcd_comm]) t [some (.d (.int i)), some (.d (.int (t : Int))), some (.d (.int (i.natAbs : Int))), some (.d (.int (t : Int)))] S ⟨⟨i.natAbs, rfl, rfl⟩, rfl⟩
  simp only [eVar_ap, eK_ap, aNil_ap, aCons_ap, eOp2_ap, eOp1_ap, eChain_ap, bOf_ap, bNot_ap, bAnd_ap, bOr_ap, eAnd_ap, eOr_ap, eNot_ap, eIf_ap, eTup_ap, eLst_ap, eLstM_ap, cNop_ap, cBreak_ap, cCont_ap, cSeq_ap, cExpr_ap, cSet_ap, cRet_ap, cRetN_ap, cIf_ap, cAsg_ap, cPar2_ap, cPar3_ap, bYes_ap, eCall_ap, oNone_ap, oSome_ap, eSl_ap, cFor_ap, eMtL_ap, aKw_ap, gNm_ap, gTp2, gTp3, gSb_ap, mkTup0, mkTup1, mkTup2, mkTup3, Out.bind, Out.ofO, exq, fin, callE_ap, List.getElem?_cons_succ, List.getElem?_cons_zero, List.set_cons_succ, List.set_cons_zero, List.map_cons, List.map_nil, List.replicate, List.cons_append, List.nil_append, List.length_cons, List.length_nil, Bool.not_true, Bool.not_false, if_true, if_false, ite_true, ite_false, reduceIte, Bool.false_eq_true, Bool.true_eq_false, Nat.reduceAdd, unD, Option.map_some, Nat.zero_le, Sh.sz1, Sh.sz2, Sh.sz3, Sh.sz4, Sh.sz5, Sh.sz6, Sh.sz7, Sh.sz8, Sh.sz9, Sh.sz10, Sh.sz11, Sh.sz12, Sh.sz13, Sh.sz14, Sh.sz15, Sh.sz16, Nat.reduceSub, Nat.reduceLeDiff, reduceCtorEq, Bool.and_true, Bool.true_and, Bool.and_false, Bool.false_and, Bool.or_true, Bool.or_false, Bool.true_or, Bool.false_or, bAbs_int, show (if i < 0 then -i else i) = (i.natAbs : Int) by split <;> omega, e, opDiv_int (gcd_div (i := i) (j := i) h0 h), opDiv_int (gcd_div (i := i) (j := (t : Int)) h0 h), rat]
end
end Law
end

section
namespace Law
open PySem PySem.Spec PyProof.Rows L2 Sh Sheet
open Classical
section
variable {S : Sto} {x : PyData} {xs : List PyData} {R : List (List PyData)} {rs sh ch : List (List Int)} {n m d t : Nat} {pl : List Nat}
theorem iEn_nT {ρ : Rho} {r : List Nat} {ms : AM} (h : ms ρ S = .ok [.d (nT r)] S) : iEn ms ρ S = .ok ⟨(List.range r.length).map fun (k : Nat) => W.d (.tuple [.int (k : Int), nI (r.getD k 0)]), fun _ => True⟩ S := by
  rw [iEn_tup h, zipIdx_nI, List.map_map]; rfl
/-- the numerator of a plan's worth -/
def wn (sh ch : List (List Int)) (pl : List Nat) : Int := ((List.range pl.length).map fun a => (gn sh ch a).getD (pl.getD a 0) 0).sum
theorem head_len (Z : SH sh n m t) : (sh.getD 0 []).length = m := (Z.row _ Z.mem0).1
theorem head_sum (Z : SH sh n m t) : (sh.getD 0 []).sum = (t : Int) := (Z.row _ Z.mem0).2.2
theorem ix_head (Z : SH sh n m t) : opIx (.d (zTT sh)) (.d (.int 0)) S = .ok (.d (zT (sh.getD 0 []))) S := ix_zTT (k := 0) (by have := Z.len; have := Z.n0; omega)
theorem gn_len (C : CH ch n d) {a : Nat} : (gn sh ch a).length = d := by rw [gn, List.length_map, C.len]
theorem plan_worth_ok (Z : SH sh n m t) (C : CH ch n d) (P : PL pl m d) : m_plan_worth [.d (zTT sh), .d (zTT ch), .d (nT pl)] S = .ok (.d (rat (wn sh ch pl) t)) S := by
  have hm4 := Z.m4; have hpl := P.len; have hd0 := C.d0
  have hlt : ∀ a, a < m → pl.getD a 0 < d := fun a ha => P.lt _ (mem_getD (by omega))
  have e2 : ∀ p3 p4 p5 p6 : Option W, l_plan_worth_2 [some (.d (zTT sh)), some (.d (zTT ch)), some (.d (nT pl)), p3, p4, p5, p6] S = .ok (.nx [some (.d (zTT sh)), some (.d (zTT ch)), some (.d (nT pl)), p3, p4, p5, p6]) S := fun p3 p4 p5 p6 => by
    unfold l_plan_worth_2
    simp only [eVar_ap, eK_ap, aNil_ap, aCons_ap, eOp2_ap, eOp1_ap, eChain_ap, bOf_ap, bNot_ap, bAnd_ap, bOr_ap, eAnd_ap, eOr_ap, eNot_ap, eIf_ap, eTup_ap, eLst_ap, eLstM_ap, cNop_ap, cBreak_ap, cCont_ap, cSeq_ap, cExpr_ap, cSet_ap, cRet_ap, cRetN_ap, cIf_ap, cAsg_ap, cPar2_ap, cPar3_ap, bYes_ap, eCall_ap, oNone_ap, oSome_ap, eSl_ap, cFor_ap, eMtL_ap, aKw_ap, gNm_ap, gTp2, gTp3, gSb_ap, mkTup0, mkTup1, mkTup2, mkTup3, Out.bind, Out.ofO, exq, fin, callE_ap, List.getElem?_cons_succ, List.getElem?_cons_zero, List.set_cons_succ, List.set_cons_zero, List.map_cons, List.map_nil, List.replicate, List.cons_append, List.nil_append, List.length_cons, List.length_nil, Bool.not_true, Bool.not_false, if_true, if_false, ite_true, ite_false, reduceIte, Bool.false_eq_true, Bool.true_eq_false, Nat.reduceAdd, unD, Option.map_some, Nat.zero_le, Sh.sz1, Sh.sz2, Sh.sz3, Sh.sz4, Sh.sz5, Sh.sz6, Sh.sz7, Sh.sz8, Sh.sz9, Sh.sz10, Sh.sz11, Sh.sz12, Sh.sz13, Sh.sz14, Sh.sz15, Sh.sz16, Nat.reduceSub, Nat.reduceLeDiff, reduceCtorEq, Bool.and_true, Bool.true_and, Bool.and_false, Bool.false_and, Bool.or_true, Bool.or_false, Bool.true_or, Bool.false_or, callP_d (need_choice_ok (S := []) Z C)]
  have e3 : ∀ p3 p4 p5 p6 : Option W, l_plan_worth_3 [some (.d (zTT sh)), some (.d (zTT ch)), some (.d (nT pl)), p3, p4, p5, p6] S = .ok (.nx [some (.d (zTT sh)), some (.d (zTT ch)), some (.d (nT pl)), some (.d (.int (m : Int))), p4, p5, p6]) S := fun p3 p4 p5 p6 => by
    unfold l_plan_worth_3
    simp only [eVar_ap, eK_ap, aNil_ap, aCons_ap, eOp2_ap, eOp1_ap, eChain_ap, bOf_ap, bNot_ap, bAnd_ap, bOr_ap, eAnd_ap, eOr_ap, eNot_ap, eIf_ap, eTup_ap, eLst_ap, eLstM_ap, cNop_ap, cBreak_ap, cCont_ap, cSeq_ap, cExpr_ap, cSet_ap, cRet_ap, cRetN_ap, cIf_ap, cAsg_ap, cPar2_ap, cPar3_ap, bYes_ap, eCall_ap, oNone_ap, oSome_ap, eSl_ap, cFor_ap, eMtL_ap, aKw_ap, gNm_ap, gTp2, gTp3, gSb_ap, mkTup0, mkTup1, mkTup2, mkTup3, Out.bind, Out.ofO, exq, fin, callE_ap, List.getElem?_cons_succ, List.getElem?_cons_zero, List.set_cons_succ, List.set_cons_zero, List.map_cons, List.map_nil, List.replicate, List.cons_append, List.nil_append, List.length_cons, List.length_nil, Bool.not_true, Bool.not_false, if_true, if_false, ite_true, ite_false, reduceIte, Bool.false_eq_true, Bool.true_eq_false, Nat.reduceAdd, unD, Option.map_some, Nat.zero_le, Sh.sz1, Sh.sz2, Sh.sz3, Sh.sz4, Sh.sz5, Sh.sz6, Sh.sz7, Sh.sz8, Sh.sz9, Sh.sz10, Sh.sz11, Sh.sz12, Sh.sz13, Sh.sz14, Sh.sz15, Sh.sz16, Nat.reduceSub, Nat.reduceLeDiff, reduceCtorEq, Bool.and_true, Bool.true_and, Bool.and_false, Bool.false_and, Bool.or_true, Bool.or_false, Bool.true_or, Bool.false_or, ix_head Z, bLen_tup, List.length_map, head_len Z]
  have e4 : ∀ p4 p5 p6 : Option W, l_plan_worth_4 [some (.d (zTT sh)), some (.d (zTT ch)), some (.d (nT pl)), some (.d (.int (m : Int))), p4, p5, p6] S = .ok (.nx [some (.d (zTT sh)), some (.d (zTT ch)), some (.d (nT pl)), some (.d (.int (m : Int))), p4, p5, p6]) S := fun p4 p5 p6 => by
    unfold l_plan_worth_4 q_plan_worth_0
    simp only [eVar_ap, eK_ap, aNil_ap, aCons_ap, eOp2_ap, eOp1_ap, eChain_ap, bOf_ap, bNot_ap, bAnd_ap, bOr_ap, eAnd_ap, eOr_ap, eNot_ap, eIf_ap, eTup_ap, eLst_ap, eLstM_ap, cNop_ap, cBreak_ap, cCont_ap, cSeq_ap, cExpr_ap, cSet_ap, cRet_ap, cRetN_ap, cIf_ap, cAsg_ap, cPar2_ap, cPar3_ap, bYes_ap, eCall_ap, oNone_ap, oSome_ap, eSl_ap, cFor_ap, eMtL_ap, aKw_ap, gNm_ap, gTp2, gTp3, gSb_ap, mkTup0, mkTup1, mkTup2, mkTup3, Out.bind, Out.ofO, exq, fin, callE_ap, List.getElem?_cons_succ, List.getElem?_cons_zero, List.set_cons_succ, List.set_cons_zero, List.map_cons, List.map_nil, List.replicate, List.cons_append, List.nil_append, List.length_cons, List.length_nil, Bool.not_true, Bool.not_false, if_true, if_false, ite_true, ite_false, reduceIte, Bool.false_eq_true, Bool.true_eq_false, Nat.reduceAdd, unD, Option.map_some, Nat.zero_le, Sh.sz1, Sh.sz2, Sh.sz3, Sh.sz4, Sh.sz5, Sh.sz6, Sh.sz7, Sh.sz8, Sh.sz9, Sh.sz10, Sh.sz11, Sh.sz12, Sh.sz13, Sh.sz14, Sh.sz15, Sh.sz16, Nat.reduceSub, Nat.reduceLeDiff, reduceCtorEq, Bool.and_true, Bool.true_and, Bool.and_false, Bool.false_and, Bool.or_true, Bool.or_false, Bool.true_or, Bool.false_or, is_row_eq]
    rw [callP_d (Wn.is_row_ok (S := []) (x := nT pl) (lo := m) (hi := m)), Wn.rowOk_n, List.length_map, show decide (pl.length = m) = true from decide_eq_true hpl]
    simp only [eVar_ap, eK_ap, aNil_ap, aCons_ap, eOp2_ap, eOp1_ap, eChain_ap, bOf_ap, bNot_ap, bAnd_ap, bOr_ap, eAnd_ap, eOr_ap, eNot_ap, eIf_ap, eTup_ap, eLst_ap, eLstM_ap, cNop_ap, cBreak_ap, cCont_ap, cSeq_ap, cExpr_ap, cSet_ap, cRet_ap, cRetN_ap, cIf_ap, cAsg_ap, cPar2_ap, cPar3_ap, bYes_ap, eCall_ap, oNone_ap, oSome_ap, eSl_ap, cFor_ap, eMtL_ap, aKw_ap, gNm_ap, gTp2, gTp3, gSb_ap, mkTup0, mkTup1, mkTup2, mkTup3, Out.bind, Out.ofO, exq, fin, callE_ap, List.getElem?_cons_succ, List.getElem?_cons_zero, List.set_cons_succ, List.set_cons_zero, List.map_cons, List.map_nil, List.replicate, List.cons_append, List.nil_append, List.length_cons, List.length_nil, Bool.not_true, Bool.not_false, if_true, if_false, ite_true, ite_false, reduceIte, Bool.false_eq_true, Bool.true_eq_false, Nat.reduceAdd, unD, Option.map_some, Nat.zero_le, Sh.sz1, Sh.sz2, Sh.sz3, Sh.sz4, Sh.sz5, Sh.sz6, Sh.sz7, Sh.sz8, Sh.sz9, Sh.sz10, Sh.sz11, Sh.sz12, Sh.sz13, Sh.sz14, Sh.sz15, Sh.sz16, Nat.reduceSub, Nat.reduceLeDiff, reduceCtorEq, Bool.and_true, Bool.true_and, Bool.and_false, Bool.false_and, Bool.or_true, Bool.or_false, Bool.true_or, Bool.false_or]
    rw [eLc_y pl (fun (k : Nat) => W.d (.int (k : Int))) (fun k => .bool true) (grd := fun _ => True) (iSq_nT rfl) trivial (len_le (by omega)) fun k hk => ⟨_, rfl, ?_⟩]
    · simp only [eVar_ap, eK_ap, aNil_ap, aCons_ap, eOp2_ap, eOp1_ap, eChain_ap, bOf_ap, bNot_ap, bAnd_ap, bOr_ap, eAnd_ap, eOr_ap, eNot_ap, eIf_ap, eTup_ap, eLst_ap, eLstM_ap, cNop_ap, cBreak_ap, cCont_ap, cSeq_ap, cExpr_ap, cSet_ap, cRet_ap, cRetN_ap, cIf_ap, cAsg_ap, cPar2_ap, cPar3_ap, bYes_ap, eCall_ap, oNone_ap, oSome_ap, eSl_ap, cFor_ap, eMtL_ap, aKw_ap, gNm_ap, gTp2, gTp3, gSb_ap, mkTup0, mkTup1, mkTup2, mkTup3, Out.bind, Out.ofO, exq, fin, callE_ap, List.getElem?_cons_succ, List.getElem?_cons_zero, List.set_cons_succ, List.set_cons_zero, List.map_cons, List.map_nil, List.replicate, List.cons_append, List.nil_append, List.length_cons, List.length_nil, Bool.not_true, Bool.not_false, if_true, if_false, ite_true, ite_false, reduceIte, Bool.false_eq_true, Bool.true_eq_false, Nat.reduceAdd, unD, Option.map_some, Nat.zero_le, Sh.sz1, Sh.sz2, Sh.sz3, Sh.sz4, Sh.sz5, Sh.sz6, Sh.sz7, Sh.sz8, Sh.sz9, Sh.sz10, Sh.sz11, Sh.sz12, Sh.sz13, Sh.sz14, Sh.sz15, Sh.sz16, Nat.reduceSub, Nat.reduceLeDiff, reduceCtorEq, Bool.and_true, Bool.true_and, Bool.and_false, Bool.false_and, Bool.or_true, Bool.or_false, Bool.true_or, Bool.false_or, bAll_map, show (pl.all fun _ => true) = true by simp]
    · simp only [eVar_ap, eK_ap, aNil_ap, aCons_ap, eOp2_ap, eOp1_ap, eChain_ap, bOf_ap, bNot_ap, bAnd_ap, bOr_ap, eAnd_ap, eOr_ap, eNot_ap, eIf_ap, eTup_ap, eLst_ap, eLstM_ap, cNop_ap, cBreak_ap, cCont_ap, cSeq_ap, cExpr_ap, cSet_ap, cRet_ap, cRetN_ap, cIf_ap, cAsg_ap, cPar2_ap, cPar3_ap, bYes_ap, eCall_ap, oNone_ap, oSome_ap, eSl_ap, cFor_ap, eMtL_ap, aKw_ap, gNm_ap, gTp2, gTp3, gSb_ap, mkTup0, mkTup1, mkTup2, mkTup3, Out.bind, Out.ofO, exq, fin, callE_ap, List.getElem?_cons_succ, List.getElem?_cons_zero, List.set_cons_succ, List.set_cons_zero, List.map_cons, List.map_nil, List.replicate, List.cons_append, List.nil_append, List.length_cons, List.length_nil, Bool.not_true, Bool.not_false, if_true, if_false, ite_true, ite_false, reduceIte, Bool.false_eq_true, Bool.true_eq_false, Nat.reduceAdd, unD, Option.map_some, Nat.zero_le, Sh.sz1, Sh.sz2, Sh.sz3, Sh.sz4, Sh.sz5, Sh.sz6, Sh.sz7, Sh.sz8, Sh.sz9, Sh.sz10, Sh.sz11, Sh.sz12, Sh.sz13, Sh.sz14, Sh.sz15, Sh.sz16, Nat.reduceSub, Nat.reduceLeDiff, reduceCtorEq, Bool.and_true, Bool.true_and, Bool.and_false, Bool.false_and, Bool.or_true, Bool.or_false, Bool.true_or, Bool.false_or, wipeR, bLen_tup, List.length_map, C.len, opSub_int, within_eq]
      rw [callP_d (Wn.within_ok (S := []) (x := .int (k : Int)) (lo := 0) (hi := (d : Int) - 1))]
      have : Wn.inR (.int (k : Int)) 0 ((d : Int) - 1) = true := by
        have := P.lt k hk
        simp [Wn.inR]; omega
      rw [this]
  have e5 : ∀ p4 p5 p6 : Option W, l_plan_worth_5 [some (.d (zTT sh)), some (.d (zTT ch)), some (.d (nT pl)), some (.d (.int (m : Int))), p4, p5, p6] S = .ok (.nx [some (.d (zTT sh)), some (.d (zTT ch)), some (.d (nT pl)), some (.d (.int (m : Int))), some (.d (.int (wn sh ch pl))), p5, p6]) S := fun p4 p5 p6 => by
    unfold l_plan_worth_5
    have e : q_plan_worth_1 [some (.d (zTT sh)), some (.d (zTT ch)), some (.d (nT pl)), some (.d (.int (m : Int))), p4, p5, p6] S = .ok (.d (zL ((List.range pl.length).map fun a => (gn sh ch a).getD (pl.getD a 0) 0))) S := by
      unfold q_plan_worth_1
      rw [eLc_y (List.range pl.length) (fun (k : Nat) => W.d (.tuple [.int (k : Int), nI (pl.getD k 0)])) (fun a => .int ((gn sh ch a).getD (pl.getD a 0) 0)) (grd := fun _ => True) (iEn_nT rfl) trivial (by rw [List.length_range]; exact len_le (by omega)) fun a ha => ⟨_, gTp2, ?_⟩]
      · simp only [zL, List.map_map]; rfl
      · have ha := List.mem_range.1 ha
        simp only [eVar_ap, eK_ap, aNil_ap, aCons_ap, eOp2_ap, eOp1_ap, eChain_ap, bOf_ap, bNot_ap, bAnd_ap, bOr_ap, eAnd_ap, eOr_ap, eNot_ap, eIf_ap, eTup_ap, eLst_ap, eLstM_ap, cNop_ap, cBreak_ap, cCont_ap, cSeq_ap, cExpr_ap, cSet_ap, cRet_ap, cRetN_ap, cIf_ap, cAsg_ap, cPar2_ap, cPar3_ap, bYes_ap, eCall_ap, oNone_ap, oSome_ap, eSl_ap, cFor_ap, eMtL_ap, aKw_ap, gNm_ap, gTp2, gTp3, gSb_ap, mkTup0, mkTup1, mkTup2, mkTup3, Out.bind, Out.ofO, exq, fin, callE_ap, List.getElem?_cons_succ, List.getElem?_cons_zero, List.set_cons_succ, List.set_cons_zero, List.map_cons, List.map_nil, List.replicate, List.cons_append, List.nil_append, List.length_cons, List.length_nil, Bool.not_true, Bool.not_false, if_true, if_false, ite_true, ite_false, reduceIte, Bool.false_eq_true, Bool.true_eq_false, Nat.reduceAdd, unD, Option.map_some, Nat.zero_le, Sh.sz1, Sh.sz2, Sh.sz3, Sh.sz4, Sh.sz5, Sh.sz6, Sh.sz7, Sh.sz8, Sh.sz9, Sh.sz10, Sh.sz11, Sh.sz12, Sh.sz13, Sh.sz14, Sh.sz15, Sh.sz16, Nat.reduceSub, Nat.reduceLeDiff, reduceCtorEq, Bool.and_true, Bool.true_and, Bool.and_false, Bool.false_and, Bool.or_true, Bool.or_false, Bool.true_or, Bool.false_or, wipeR, callP_d (gains_at_ok (S := []) Z C (a := a) (by omega)), ix_zL (r := gn sh ch a) (k := pl.getD a 0) (by rw [gn_len C]; exact hlt a (by omega))]
    simp only [eVar_ap, eK_ap, aNil_ap, aCons_ap, eOp2_ap, eOp1_ap, eChain_ap, bOf_ap, bNot_ap, bAnd_ap, bOr_ap, eAnd_ap, eOr_ap, eNot_ap, eIf_ap, eTup_ap, eLst_ap, eLstM_ap, cNop_ap, cBreak_ap, cCont_ap, cSeq_ap, cExpr_ap, cSet_ap, cRet_ap, cRetN_ap, cIf_ap, cAsg_ap, cPar2_ap, cPar3_ap, bYes_ap, eCall_ap, oNone_ap, oSome_ap, eSl_ap, cFor_ap, eMtL_ap, aKw_ap, gNm_ap, gTp2, gTp3, gSb_ap, mkTup0, mkTup1, mkTup2, mkTup3, Out.bind, Out.ofO, exq, fin, callE_ap, List.getElem?_cons_succ, List.getElem?_cons_zero, List.set_cons_succ, List.set_cons_zero, List.map_cons, List.map_nil, List.replicate, List.cons_append, List.nil_append, List.length_cons, List.length_nil, Bool.not_true, Bool.not_false, if_true, if_false, ite_true, ite_false, reduceIte, Bool.false_eq_true, Bool.true_eq_false, Nat.reduceAdd, unD, Option.map_some, Nat.zero_le, Sh.sz1, Sh.sz2, Sh.sz3, Sh.sz4, Sh.sz5, Sh.sz6, Sh.sz7, Sh.sz8, Sh.sz9, Sh.sz10, Sh.sz11, Sh.sz12, Sh.sz13, Sh.sz14, Sh.sz15, Sh.sz16, Nat.reduceSub, Nat.reduceLeDiff, reduceCtorEq, Bool.and_true, Bool.true_and, Bool.and_false, Bool.false_and, Bool.or_true, Bool.or_false, Bool.true_or, Bool.false_or, e, sum_zL, wn]
  unfold m_plan_worth defM b_plan_worth
  simp only [eVar_ap, eK_ap, aNil_ap, aCons_ap, eOp2_ap, eOp1_ap, eChain_ap, bOf_ap, bNot_ap, bAnd_ap, bOr_ap, eAnd_ap, eOr_ap, eNot_ap, eIf_ap, eTup_ap, eLst_ap, eLstM_ap, cNop_ap, cBreak_ap, cCont_ap, cSeq_ap, cExpr_ap, cSet_ap, cRet_ap, cRetN_ap, cIf_ap, cAsg_ap, cPar2_ap, cPar3_ap, bYes_ap, eCall_ap, oNone_ap, oSome_ap, eSl_ap, cFor_ap, eMtL_ap, aKw_ap, gNm_ap, gTp2, gTp3, gSb_ap, mkTup0, mkTup1, mkTup2, mkTup3, Out.bind, Out.ofO, exq, fin, callE_ap, List.getElem?_cons_succ, List.getElem?_cons_zero, List.set_cons_succ, List.set_cons_zero, List.map_cons, List.map_nil, List.replicate, List.cons_append, List.nil_append, List.length_cons, List.length_nil, Bool.not_true, Bool.not_false, if_true, if_false, ite_true, ite_false, reduceIte, Bool.false_eq_true, Bool.true_eq_false, Nat.reduceAdd, unD, Option.map_some, Nat.zero_le, Sh.sz1, Sh.sz2, Sh.sz3, Sh.sz4, Sh.sz5, Sh.sz6, Sh.sz7, Sh.sz8, Sh.sz9, Sh.sz10, Sh.sz11, Sh.sz12, Sh.sz13, Sh.sz14, Sh.sz15, Sh.sz16, Nat.reduceSub, Nat.reduceLeDiff, reduceCtorEq, Bool.and_true, Bool.true_and, Bool.and_false, Bool.false_and, Bool.or_true, Bool.or_false, Bool.true_or, Bool.false_or]
  rw [e2]; simp only [eVar_ap, eK_ap, aNil_ap, aCons_ap, eOp2_ap, eOp1_ap, eChain_ap, bOf_ap, bNot_ap, bAnd_ap, bOr_ap, eAnd_ap, eOr_ap, eNot_ap, eIf_ap, eTup_ap, eLst_ap, eLstM_ap, cNop_ap, cBreak_ap, cCont_ap, cSeq_ap, cExpr_ap, cSet_ap, cRet_ap, cRetN_ap, cIf_ap, cAsg_ap, cPar2_ap, cPar3_ap, bYes_ap, eCall_ap, oNone_ap, oSome_ap, eSl_ap, cFor_ap, eMtL_ap, aKw_ap, gNm_ap, gTp2, gTp3, gSb_ap, mkTup0, mkTup1, mkTup2, mkTup3, Out.bind, Out.ofO, exq, fin, callE_ap, List.getElem?_cons_succ, List.getElem?_cons_zero, List.set_cons_succ, List.set_cons_zero, List.map_cons, List.map_nil, List.replicate, List.cons_append, List.nil_append, List.length_cons, List.length_nil, Bool.not_true, Bool.not_false, if_true, if_false, ite_true, ite_false, reduceIte, Bool.false_eq_true, Bool.true_eq_false, Nat.reduceAdd, unD, Option.map_some, Nat.zero_le, Sh.sz1, Sh.sz2, Sh.sz3, Sh.sz4, Sh.sz5, Sh.sz6, Sh.sz7, Sh.sz8, Sh.sz9, Sh.sz10, Sh.sz11, Sh.sz12, Sh.sz13, Sh.sz14, Sh.sz15, Sh.sz16, Nat.reduceSub, Nat.reduceLeDiff, reduceCtorEq, Bool.and_true, Bool.true_and, Bool.and_false, Bool.false_and, Bool.or_true, Bool.or_false, Bool.true_or, Bool.false_or]
  rw [e3]; simp only [eVar_ap, eK_ap, aNil_ap, aCons_ap, eOp2_ap, eOp1_ap, eChain_ap, bOf_ap, bNot_ap, bAnd_ap, bOr_ap, eAnd_ap, eOr_ap, eNot_ap, eIf_ap, eTup_ap, eLst_ap, eLstM_ap, cNop_ap, cBreak_ap, cCont_ap, cSeq_ap, cExpr_ap, cSet_ap, cRet_ap, cRetN_ap, cIf_ap, cAsg_ap, cPar2_ap, cPar3_ap, bYes_ap, eCall_ap, oNone_ap, oSome_ap, eSl_ap, cFor_ap, eMtL_ap, aKw_ap, gNm_ap, gTp2, gTp3, gSb_ap, mkTup0, mkTup1, mkTup2, mkTup3, Out.bind, Out.ofO, exq, fin, callE_ap, List.getElem?_cons_succ, List.getElem?_cons_zero, List.set_cons_succ, List.set_cons_zero, List.map_cons, List.map_nil, List.replicate, List.cons_append, List.nil_append, List.length_cons, List.length_nil, Bool.not_true, Bool.not_false, if_true, if_false, ite_true, ite_false, reduceIte, Bool.false_eq_true, Bool.true_eq_false, Nat.reduceAdd, unD, Option.map_some, Nat.zero_le, Sh.sz1, Sh.sz2, Sh.sz3, Sh.sz4, Sh.sz5, Sh.sz6, Sh.sz7, Sh.sz8, Sh.sz9, Sh.sz10, Sh.sz11, Sh.sz12, Sh.sz13, Sh.sz14, Sh.sz15, Sh.sz16, Nat.reduceSub, Nat.reduceLeDiff, reduceCtorEq, Bool.and_true, Bool.true_and, Bool.and_false, Bool.false_and, Bool.or_true, Bool.or_false, Bool.true_or, Bool.false_or]
  rw [e4]; simp only [eVar_ap, eK_ap, aNil_ap, aCons_ap, eOp2_ap, eOp1_ap, eChain_ap, bOf_ap, bNot_ap, bAnd_ap, bOr_ap, eAnd_ap, eOr_ap, eNot_ap, eIf_ap, eTup_ap, eLst_ap, eLstM_ap, cNop_ap, cBreak_ap, cCont_ap, cSeq_ap, cExpr_ap, cSet_ap, cRet_ap, cRetN_ap, cIf_ap, cAsg_ap, cPar2_ap, cPar3_ap, bYes_ap, eCall_ap, oNone_ap, oSome_ap, eSl_ap, cFor_ap, eMtL_ap, aKw_ap, gNm_ap, gTp2, gTp3, gSb_ap, mkTup0, mkTup1, mkTup2, mkTup3, Out.bind, Out.ofO, exq, fin, callE_ap, List.getElem?_cons_succ, List.getElem?_cons_zero, List.set_cons_succ, List.set_cons_zero, List.map_cons, List.map_nil, List.replicate, List.cons_append, List.nil_append, List.length_cons, List.length_nil, Bool.not_true, Bool.not_false, if_true, if_false, ite_true, ite_false, reduceIte, Bool.false_eq_true, Bool.true_eq_false, Nat.reduceAdd, unD, Option.map_some, Nat.zero_le, Sh.sz1, Sh.sz2, Sh.sz3, Sh.sz4, Sh.sz5, Sh.sz6, Sh.sz7, Sh.sz8, Sh.sz9, Sh.sz10, Sh.sz11, Sh.sz12, Sh.sz13, Sh.sz14, Sh.sz15, Sh.sz16, Nat.reduceSub, Nat.reduceLeDiff, reduceCtorEq, Bool.and_true, Bool.true_and, Bool.and_false, Bool.false_and, Bool.or_true, Bool.or_false, Bool.true_or, Bool.false_or]
  rw [e5]
  unfold l_plan_worth_6
  simp only [eVar_ap, eK_ap, aNil_ap, aCons_ap, eOp2_ap, eOp1_ap, eChain_ap, bOf_ap, bNot_ap, bAnd_ap, bOr_ap, eAnd_ap, eOr_ap, eNot_ap, eIf_ap, eTup_ap, eLst_ap, eLstM_ap, cNop_ap, cBreak_ap, cCont_ap, cSeq_ap, cExpr_ap, cSet_ap, cRet_ap, cRetN_ap, cIf_ap, cAsg_ap, cPar2_ap, cPar3_ap, bYes_ap, eCall_ap, oNone_ap, oSome_ap, eSl_ap, cFor_ap, eMtL_ap, aKw_ap, gNm_ap, gTp2, gTp3, gSb_ap, mkTup0, mkTup1, mkTup2, mkTup3, Out.bind, Out.ofO, exq, fin, callE_ap, List.getElem?_cons_succ, List.getElem?_cons_zero, List.set_cons_succ, List.set_cons_zero, List.map_cons, List.map_nil, List.replicate, List.cons_append, List.nil_append, List.length_cons, List.length_nil, Bool.not_true, Bool.not_false, if_true, if_false, ite_true, ite_false, reduceIte, Bool.false_eq_true, Bool.true_eq_false, Nat.reduceAdd, unD, Option.map_some, Nat.zero_le, Sh.sz1, Sh.sz2, Sh.sz3, Sh.sz4, Sh.sz5, Sh.sz6, Sh.sz7, Sh.sz8, Sh.sz9, Sh.sz10, Sh.sz11, Sh.sz12, Sh.sz13, Sh.sz14, Sh.sz15, Sh.sz16, Nat.reduceSub, Nat.reduceLeDiff, reduceCtorEq, Bool.and_true, Bool.true_and, Bool.and_false, Bool.false_and, Bool.or_true, Bool.or_false, Bool.true_or, Bool.false_or, ix_head Z, sum_zT, head_sum Z, callP_d (ratio_ok (S := []) (i := wn sh ch pl) Z.t0 (by have := Z.t12; omega))]
theorem range_sum_succ {f : Nat → Int} {k : Nat} : ((List.range (k + 1)).map f).sum = ((List.range k).map f).sum + f k := by
  rw [List.range_succ, List.map_append, List.sum_append]; simp
theorem law_worth_ok (Z : SH sh n m t) (C : CH ch n d) (P : PL pl m d) : m__law_worth [.d (zTT sh), .d (zTT ch), .d (nT pl)] S = .ok (.d (rat (wn sh ch pl) t)) S := by
  have hm4 := Z.m4; have hpl := P.len; have hsl := Z.len; have hcl := C.len; have hn4 := Z.n4
  have hlt : ∀ a, a < m → pl.getD a 0 < d := fun a ha => P.lt _ (mem_getD (by omega))
  let G : Nat → Int := fun s => ((List.range pl.length).map fun a => (sh.getD s []).getD a 0 * (ch.getD (pl.getD a 0) []).getD s 0).sum
  have hw : wn sh ch pl = ((List.range sh.length).map G).sum := worth_swap (fun r hr => by rw [(C.row r hr).1, hsl]) fun y hy => by rw [hcl]; exact P.lt y hy
  obtain ⟨ρ', S', e, ⟨p4, p5, rfl⟩, rfl⟩ := forL_rg (n := sh.length) (mk := fun (k : Nat) => W.d (.int (k : Int))) (grd := fun _ => True) (g := gNm 4) (body := l__law_worth_1) (Iv := fun j ρ S' => (∃ p4 p5 : Option W, ρ = [some (.d (zTT sh)), some (.d (zTT ch)), some (.d (nT pl)), some (.d (.int ((List.range j).map G).sum)), p4, p5]) ∧ S' = S)
    (fun _ _ _ _ => trivial) (by
      rintro j hj _ _ ⟨⟨p4, p5, rfl⟩, rfl⟩
      refine ⟨_, _, rfl, _, _, .inl ?_, ⟨some (.d (.int (j : Int))), p5, rfl⟩, rfl⟩
      have e : ∀ (q3 : Option W) (S' : Sto), q__law_worth_0 [some (.d (zTT sh)), some (.d (zTT ch)), some (.d (nT pl)), q3, some (.d (.int (j : Int))), p5] S' = .ok (.d (zL ((List.range pl.length).map fun a => (sh.getD j []).getD a 0 * (ch.getD (pl.getD a 0) []).getD j 0))) S' := fun q3 S' => by
        unfold q__law_worth_0
        rw [eLc_y (List.range pl.length) (fun (k : Nat) => W.d (.int (k : Int))) (fun a => .int ((sh.getD j []).getD a 0 * (ch.getD (pl.getD a 0) []).getD j 0)) (grd := fun _ => True) (iRg1_nat (by simp only [eVar_ap, eK_ap, aNil_ap, aCons_ap, eOp2_ap, eOp1_ap, eChain_ap, bOf_ap, bNot_ap, bAnd_ap, bOr_ap, eAnd_ap, eOr_ap, eNot_ap, eIf_ap, eTup_ap, eLst_ap, eLstM_ap, cNop_ap, cBreak_ap, cCont_ap, cSeq_ap, cExpr_ap, cSet_ap, cRet_ap, cRetN_ap, cIf_ap, cAsg_ap, cPar2_ap, cPar3_ap, bYes_ap, eCall_ap, oNone_ap, oSome_ap, eSl_ap, cFor_ap, eMtL_ap, aKw_ap, gNm_ap, gTp2, gTp3, gSb_ap, mkTup0, mkTup1, mkTup2, mkTup3, Out.bind, Out.ofO, exq, fin, callE_ap, List.getElem?_cons_succ, List.getElem?_cons_zero, List.set_cons_succ, List.set_cons_zero, List.map_cons, List.map_nil, List.replicate, List.cons_append, List.nil_append, List.length_cons, List.length_nil, Bool.not_true, Bool.not_false, if_true, if_false, ite_true, ite_false, reduceIte, Bool.false_eq_true, Bool.true_eq_false, Nat.reduceAdd, unD, Option.map_some, Nat.zero_le, Sh.sz1, Sh.sz2, Sh.sz3, Sh.sz4, Sh.sz5, Sh.sz6, Sh.sz7, Sh.sz8, Sh.sz9, Sh.sz10, Sh.sz11, Sh.sz12, Sh.sz13, Sh.sz14, Sh.sz15, Sh.sz16, Nat.reduceSub, Nat.reduceLeDiff, reduceCtorEq, Bool.and_true, Bool.true_and, Bool.and_false, Bool.false_and, Bool.or_true, Bool.or_false, Bool.true_or, Bool.false_or, bLen_tup, List.length_map]) (by omega)) trivial (by rw [List.length_range]; exact len_le (by omega)) fun a ha => ⟨_, rfl, ?_⟩]
        · simp only [zL, List.map_map]; rfl
        · have ha := List.mem_range.1 ha
          have hx := hlt a (by omega)
          have hr := (Z.row _ (mem_getD (l := sh) (x0 := []) hj)).1
          simp only [eVar_ap, eK_ap, aNil_ap, aCons_ap, eOp2_ap, eOp1_ap, eChain_ap, bOf_ap, bNot_ap, bAnd_ap, bOr_ap, eAnd_ap, eOr_ap, eNot_ap, eIf_ap, eTup_ap, eLst_ap, eLstM_ap, cNop_ap, cBreak_ap, cCont_ap, cSeq_ap, cExpr_ap, cSet_ap, cRet_ap, cRetN_ap, cIf_ap, cAsg_ap, cPar2_ap, cPar3_ap, bYes_ap, eCall_ap, oNone_ap, oSome_ap, eSl_ap, cFor_ap, eMtL_ap, aKw_ap, gNm_ap, gTp2, gTp3, gSb_ap, mkTup0, mkTup1, mkTup2, mkTup3, Out.bind, Out.ofO, exq, fin, callE_ap, List.getElem?_cons_succ, List.getElem?_cons_zero, List.set_cons_succ, List.set_cons_zero, List.map_cons, List.map_nil, List.replicate, List.cons_append, List.nil_append, List.length_cons, List.length_nil, Bool.not_true, Bool.not_false, if_true, if_false, ite_true, ite_false, reduceIte, Bool.false_eq_true, Bool.true_eq_false, Nat.reduceAdd, unD, Option.map_some, Nat.zero_le, Sh.sz1, Sh.sz2, Sh.sz3, Sh.sz4, Sh.sz5, Sh.sz6, Sh.sz7, Sh.sz8, Sh.sz9, Sh.sz10, Sh.sz11, Sh.sz12, Sh.sz13, Sh.sz14, Sh.sz15, Sh.sz16, Nat.reduceSub, Nat.reduceLeDiff, reduceCtorEq, Bool.and_true, Bool.true_and, Bool.and_false, Bool.false_and, Bool.or_true, Bool.or_false, Bool.true_or, Bool.false_or, wipeR, ix_zTT hj, ix_zT (r := sh.getD j []) (k := a) (by omega), ix_nT (r := pl) (k := a) ha, ix_zTT (rs := ch) (k := pl.getD a 0) (by omega), ix_zT (r := ch.getD (pl.getD a 0) []) (k := j) (by rw [C.len' hx]; omega), opMul_int (cmul_small (Z.ent (s := j) (a := a) (by omega) (by omega)))]
      unfold l__law_worth_1
      simp only [eVar_ap, eK_ap, aNil_ap, aCons_ap, eOp2_ap, eOp1_ap, eChain_ap, bOf_ap, bNot_ap, bAnd_ap, bOr_ap, eAnd_ap, eOr_ap, eNot_ap, eIf_ap, eTup_ap, eLst_ap, eLstM_ap, cNop_ap, cBreak_ap, cCont_ap, cSeq_ap, cExpr_ap, cSet_ap, cRet_ap, cRetN_ap, cIf_ap, cAsg_ap, cPar2_ap, cPar3_ap, bYes_ap, eCall_ap, oNone_ap, oSome_ap, eSl_ap, cFor_ap, eMtL_ap, aKw_ap, gNm_ap, gTp2, gTp3, gSb_ap, mkTup0, mkTup1, mkTup2, mkTup3, Out.bind, Out.ofO, exq, fin, callE_ap, List.getElem?_cons_succ, List.getElem?_cons_zero, List.set_cons_succ, List.set_cons_zero, List.map_cons, List.map_nil, List.replicate, List.cons_append, List.nil_append, List.length_cons, List.length_nil, Bool.not_true, Bool.not_false, if_true, if_false, ite_true, ite_false, reduceIte, Bool.false_eq_true, Bool.true_eq_false, Nat.reduceAdd, unD, Option.map_some, Nat.zero_le, Sh.sz1, Sh.sz2, Sh.sz3, Sh.sz4, Sh.sz5, Sh.sz6, Sh.sz7, Sh.sz8, Sh.sz9, Sh.sz10, Sh.sz11, Sh.sz12, Sh.sz13, Sh.sz14, Sh.sz15, Sh.sz16, Nat.reduceSub, Nat.reduceLeDiff, reduceCtorEq, Bool.and_true, Bool.true_and, Bool.and_false, Bool.false_and, Bool.or_true, Bool.or_false, Bool.true_or, Bool.false_or, e, sum_zL, opAdd_int, range_sum_succ, G]) [some (.d (zTT sh)), some (.d (zTT ch)), some (.d (nT pl)), some (.d (.int 0)), none, none] S ⟨⟨none, none, rfl⟩, rfl⟩
  unfold m__law_worth defM b__law_worth
  simp only [eVar_ap, eK_ap, aNil_ap, aCons_ap, eOp2_ap, eOp1_ap, eChain_ap, bOf_ap, bNot_ap, bAnd_ap, bOr_ap, eAnd_ap, eOr_ap, eNot_ap, eIf_ap, eTup_ap, eLst_ap, eLstM_ap, cNop_ap, cBreak_ap, cCont_ap, cSeq_ap, cExpr_ap, cSet_ap, cRet_ap, cRetN_ap, cIf_ap, cAsg_ap, cPar2_ap, cPar3_ap, bYes_ap, eCall_ap, oNone_ap, oSome_ap, eSl_ap, cFor_ap, eMtL_ap, aKw_ap, gNm_ap, gTp2, gTp3, gSb_ap, mkTup0, mkTup1, mkTup2, mkTup3, Out.bind, Out.ofO, exq, fin, callE_ap, List.getElem?_cons_succ, List.getElem?_cons_zero, List.set_cons_succ, List.set_cons_zero, List.map_cons, List.map_nil, List.replicate, List.cons_append, List.nil_append, List.length_cons, List.length_nil, Bool.not_true, Bool.not_false, if_true, if_false, ite_true, ite_false, reduceIte, Bool.false_eq_true, Bool.true_eq_false, Nat.reduceAdd, unD, Option.map_some, Nat.zero_le, Sh.sz1, Sh.sz2, Sh.sz3, Sh.sz4, Sh.sz5, Sh.sz6, Sh.sz7, Sh.sz8, Sh.sz9, Sh.sz10, Sh.sz11, Sh.sz12, Sh.sz13, Sh.sz14, Sh.sz15, Sh.sz16, Nat.reduceSub, Nat.reduceLeDiff, reduceCtorEq, Bool.and_true, Bool.true_and, Bool.and_false, Bool.false_and, Bool.or_true, Bool.or_false, Bool.true_or, Bool.false_or]
  rw [iRg1_nat (j := sh.length) (by simp only [eVar_ap, eK_ap, aNil_ap, aCons_ap, eOp2_ap, eOp1_ap, eChain_ap, bOf_ap, bNot_ap, bAnd_ap, bOr_ap, eAnd_ap, eOr_ap, eNot_ap, eIf_ap, eTup_ap, eLst_ap, eLstM_ap, cNop_ap, cBreak_ap, cCont_ap, cSeq_ap, cExpr_ap, cSet_ap, cRet_ap, cRetN_ap, cIf_ap, cAsg_ap, cPar2_ap, cPar3_ap, bYes_ap, eCall_ap, oNone_ap, oSome_ap, eSl_ap, cFor_ap, eMtL_ap, aKw_ap, gNm_ap, gTp2, gTp3, gSb_ap, mkTup0, mkTup1, mkTup2, mkTup3, Out.bind, Out.ofO, exq, fin, callE_ap, List.getElem?_cons_succ, List.getElem?_cons_zero, List.set_cons_succ, List.set_cons_zero, List.map_cons, List.map_nil, List.replicate, List.cons_append, List.nil_append, List.length_cons, List.length_nil, Bool.not_true, Bool.not_false, if_true, if_false, ite_true, ite_false, reduceIte, Bool.false_eq_true, Bool.true_eq_false, Nat.reduceAdd, unD, Option.map_some, Nat.zero_le, Sh.sz1, Sh.sz2, Sh.sz3, Sh.sz4, Sh.sz5, Sh.sz6, Sh.sz7, Sh.sz8, Sh.sz9, Sh.sz10, Sh.sz11, Sh.sz12, Sh.sz13, Sh.sz14, Sh.sz15, Sh.sz16, Nat.reduceSub, Nat.reduceLeDiff, reduceCtorEq, Bool.and_true, Bool.true_and, Bool.and_false, Bool.false_and, Bool.or_true, Bool.or_false, Bool.true_or, Bool.false_or, bLen_tup, List.length_map]) (by omega)]
  simp only [eVar_ap, eK_ap, aNil_ap, aCons_ap, eOp2_ap, eOp1_ap, eChain_ap, bOf_ap, bNot_ap, bAnd_ap, bOr_ap, eAnd_ap, eOr_ap, eNot_ap, eIf_ap, eTup_ap, eLst_ap, eLstM_ap, cNop_ap, cBreak_ap, cCont_ap, cSeq_ap, cExpr_ap, cSet_ap, cRet_ap, cRetN_ap, cIf_ap, cAsg_ap, cPar2_ap, cPar3_ap, bYes_ap, eCall_ap, oNone_ap, oSome_ap, eSl_ap, cFor_ap, eMtL_ap, aKw_ap, gNm_ap, gTp2, gTp3, gSb_ap, mkTup0, mkTup1, mkTup2, mkTup3, Out.bind, Out.ofO, exq, fin, callE_ap, List.getElem?_cons_succ, List.getElem?_cons_zero, List.set_cons_succ, List.set_cons_zero, List.map_cons, List.map_nil, List.replicate, List.cons_append, List.nil_append, List.length_cons, List.length_nil, Bool.not_true, Bool.not_false, if_true, if_false, ite_true, ite_false, reduceIte, Bool.false_eq_true, Bool.true_eq_false, Nat.reduceAdd, unD, Option.map_some, Nat.zero_le, Sh.sz1, Sh.sz2, Sh.sz3, Sh.sz4, Sh.sz5, Sh.sz6, Sh.sz7, Sh.sz8, Sh.sz9, Sh.sz10, Sh.sz11, Sh.sz12, Sh.sz13, Sh.sz14, Sh.sz15, Sh.sz16, Nat.reduceSub, Nat.reduceLeDiff, reduceCtorEq, Bool.and_true, Bool.true_and, Bool.and_false, Bool.false_and, Bool.or_true, Bool.or_false, Bool.true_or, Bool.false_or, e]
  simp only [eVar_ap, eK_ap, aNil_ap, aCons_ap, eOp2_ap, eOp1_ap, eChain_ap, bOf_ap, bNot_ap, bAnd_ap, bOr_ap, eAnd_ap, eOr_ap, eNot_ap, eIf_ap, eTup_ap, eLst_ap, eLstM_ap, cNop_ap, cBreak_ap, cCont_ap, cSeq_ap, cExpr_ap, cSet_ap, cRet_ap, cRetN_ap, cIf_ap, cAsg_ap, cPar2_ap, cPar3_ap, bYes_ap, eCall_ap, oNone_ap, oSome_ap, eSl_ap, cFor_ap, eMtL_ap, aKw_ap, gNm_ap, gTp2, gTp3, gSb_ap, mkTup0, mkTup1, mkTup2, mkTup3, Out.bind, Out.ofO, exq, fin, callE_ap, List.getElem?_cons_succ, List.getElem?_cons_zero, List.set_cons_succ, List.set_cons_zero, List.map_cons, List.map_nil, List.replicate, List.cons_append, List.nil_append, List.length_cons, List.length_nil, Bool.not_true, Bool.not_false, if_true, if_false, ite_true, ite_false, reduceIte, Bool.false_eq_true, Bool.true_eq_false, Nat.reduceAdd, unD, Option.map_some, Nat.zero_le, Sh.sz1, Sh.sz2, Sh.sz3, Sh.sz4, Sh.sz5, Sh.sz6, Sh.sz7, Sh.sz8, Sh.sz9, Sh.sz10, Sh.sz11, Sh.sz12, Sh.sz13, Sh.sz14, Sh.sz15, Sh.sz16, Nat.reduceSub, Nat.reduceLeDiff, reduceCtorEq, Bool.and_true, Bool.true_and, Bool.and_false, Bool.false_and, Bool.or_true, Bool.or_false, Bool.true_or, Bool.false_or, ix_head Z, sum_zT, head_sum Z, ← hw, callP_d (law_ratio_ok (S := []) (i := wn sh ch pl) Z.t0 (by have := Z.t12; omega))]
/-- the best plan -/
def gs (sh ch : List (List Int)) (m : Nat) : List (List Int) := (List.range m).map (gn sh ch)
def bp (sh ch : List (List Int)) (m : Nat) : List Nat := (gs sh ch m).map ax
theorem gn_ne (C : CH ch n d) {a : Nat} : gn sh ch a ≠ [] := fun e => by
  have := gn_len C (sh := sh) (a := a)
  rw [e] at this
  have := C.d0
  simp at *; omega
theorem best_plan_ok (Z : SH sh n m t) (C : CH ch n d) : ∃ S', m_best_plan [.d (zTT sh), .d (zTT ch)] [] = .ok (.d (nT (bp sh ch m))) S' := by
  have hm4 := Z.m4; have hd4 := C.d4
  have hr0 := head_len Z
  obtain ⟨ρ', S', e, ⟨p3, p4, rfl⟩, rfl⟩ := forL_rg (n := m) (mk := fun (k : Nat) => W.d (.int (k : Int))) (grd := fun _ => True) (g := gNm 3) (body := l_best_plan_0) (Iv := fun j ρ S' => (∃ p3 p4 : Option W, ρ = [some (.d (zTT sh)), some (.d (zTT ch)), some (.ref 0), p3, p4]) ∧ S' = [.lst (((List.range j).map fun a => nI (ax (gn sh ch a))).map W.d)])
    (fun _ _ _ _ => trivial) (by
      rintro j hj _ _ ⟨⟨p3, p4, rfl⟩, rfl⟩
      refine ⟨_, _, rfl, _, _, .inl ?_, ⟨some (.d (.int (j : Int))), some (.d (zL (gn sh ch j))), rfl⟩, rfl⟩
      unfold l_best_plan_0
      simp only [eVar_ap, eK_ap, aNil_ap, aCons_ap, eOp2_ap, eOp1_ap, eChain_ap, bOf_ap, bNot_ap, bAnd_ap, bOr_ap, eAnd_ap, eOr_ap, eNot_ap, eIf_ap, eTup_ap, eLst_ap, eLstM_ap, cNop_ap, cBreak_ap, cCont_ap, cSeq_ap, cExpr_ap, cSet_ap, cRet_ap, cRetN_ap, cIf_ap, cAsg_ap, cPar2_ap, cPar3_ap, bYes_ap, eCall_ap, oNone_ap, oSome_ap, eSl_ap, cFor_ap, eMtL_ap, aKw_ap, gNm_ap, gTp2, gTp3, gSb_ap, mkTup0, mkTup1, mkTup2, mkTup3, Out.bind, Out.ofO, exq, fin, callE_ap, List.getElem?_cons_succ, List.getElem?_cons_zero, List.set_cons_succ, List.set_cons_zero, List.map_cons, List.map_nil, List.replicate, List.cons_append, List.nil_append, List.length_cons, List.length_nil, Bool.not_true, Bool.not_false, if_true, if_false, ite_true, ite_false, reduceIte, Bool.false_eq_true, Bool.true_eq_false, Nat.reduceAdd, unD, Option.map_some, Nat.zero_le, Sh.sz1, Sh.sz2, Sh.sz3, Sh.sz4, Sh.sz5, Sh.sz6, Sh.sz7, Sh.sz8, Sh.sz9, Sh.sz10, Sh.sz11, Sh.sz12, Sh.sz13, Sh.sz14, Sh.sz15, Sh.sz16, Nat.reduceSub, Nat.reduceLeDiff, reduceCtorEq, Bool.and_true, Bool.true_and, Bool.and_false, Bool.false_and, Bool.or_true, Bool.or_false, Bool.true_or, Bool.false_or, callP_d (gains_at_ok (S := []) Z C (a := j) hj)]
      rw [isL_at (n := 0) rfl]
      simp only [eVar_ap, eK_ap, aNil_ap, aCons_ap, eOp2_ap, eOp1_ap, eChain_ap, bOf_ap, bNot_ap, bAnd_ap, bOr_ap, eAnd_ap, eOr_ap, eNot_ap, eIf_ap, eTup_ap, eLst_ap, eLstM_ap, cNop_ap, cBreak_ap, cCont_ap, cSeq_ap, cExpr_ap, cSet_ap, cRet_ap, cRetN_ap, cIf_ap, cAsg_ap, cPar2_ap, cPar3_ap, bYes_ap, eCall_ap, oNone_ap, oSome_ap, eSl_ap, cFor_ap, eMtL_ap, aKw_ap, gNm_ap, gTp2, gTp3, gSb_ap, mkTup0, mkTup1, mkTup2, mkTup3, Out.bind, Out.ofO, exq, fin, callE_ap, List.getElem?_cons_succ, List.getElem?_cons_zero, List.set_cons_succ, List.set_cons_zero, List.map_cons, List.map_nil, List.replicate, List.cons_append, List.nil_append, List.length_cons, List.length_nil, Bool.not_true, Bool.not_false, if_true, if_false, ite_true, ite_false, reduceIte, Bool.false_eq_true, Bool.true_eq_false, Nat.reduceAdd, unD, Option.map_some, Nat.zero_le, Sh.sz1, Sh.sz2, Sh.sz3, Sh.sz4, Sh.sz5, Sh.sz6, Sh.sz7, Sh.sz8, Sh.sz9, Sh.sz10, Sh.sz11, Sh.sz12, Sh.sz13, Sh.sz14, Sh.sz15, Sh.sz16, Nat.reduceSub, Nat.reduceLeDiff, reduceCtorEq, Bool.and_true, Bool.true_and, Bool.and_false, Bool.false_and, Bool.or_true, Bool.or_false, Bool.true_or, Bool.false_or, isL_list, max_zL (gn_ne C (sh := sh) (a := j)), index_zL (maxI_spec (gn_ne C (sh := sh) (a := j))).1 (by rw [gn_len C]; omega)]
      rw [mAppend_at (n := 0) rfl (by rw [List.length_map, List.length_map, List.length_range]; exact Nat.lt_of_lt_of_le (show j < 1000 by omega) (by decide))]
      simp only [eVar_ap, eK_ap, aNil_ap, aCons_ap, eOp2_ap, eOp1_ap, eChain_ap, bOf_ap, bNot_ap, bAnd_ap, bOr_ap, eAnd_ap, eOr_ap, eNot_ap, eIf_ap, eTup_ap, eLst_ap, eLstM_ap, cNop_ap, cBreak_ap, cCont_ap, cSeq_ap, cExpr_ap, cSet_ap, cRet_ap, cRetN_ap, cIf_ap, cAsg_ap, cPar2_ap, cPar3_ap, bYes_ap, eCall_ap, oNone_ap, oSome_ap, eSl_ap, cFor_ap, eMtL_ap, aKw_ap, gNm_ap, gTp2, gTp3, gSb_ap, mkTup0, mkTup1, mkTup2, mkTup3, Out.bind, Out.ofO, exq, fin, callE_ap, List.getElem?_cons_succ, List.getElem?_cons_zero, List.set_cons_succ, List.set_cons_zero, List.map_cons, List.map_nil, List.replicate, List.cons_append, List.nil_append, List.length_cons, List.length_nil, Bool.not_true, Bool.not_false, if_true, if_false, ite_true, ite_false, reduceIte, Bool.false_eq_true, Bool.true_eq_false, Nat.reduceAdd, unD, Option.map_some, Nat.zero_le, Sh.sz1, Sh.sz2, Sh.sz3, Sh.sz4, Sh.sz5, Sh.sz6, Sh.sz7, Sh.sz8, Sh.sz9, Sh.sz10, Sh.sz11, Sh.sz12, Sh.sz13, Sh.sz14, Sh.sz15, Sh.sz16, Nat.reduceSub, Nat.reduceLeDiff, reduceCtorEq, Bool.and_true, Bool.true_and, Bool.and_false, Bool.false_and, Bool.or_true, Bool.or_false, Bool.true_or, Bool.false_or, List.range_succ, List.map_append, ax]) [some (.d (zTT sh)), some (.d (zTT ch)), some (.ref 0), none, none] [.lst []] ⟨⟨none, none, rfl⟩, rfl⟩
  refine ⟨[Ob.lst (List.map W.d (List.map (fun a => nI (ax (gn sh ch a))) (List.range m)))], ?_⟩
  unfold m_best_plan defM b_best_plan
  simp only [eVar_ap, eK_ap, aNil_ap, aCons_ap, eOp2_ap, eOp1_ap, eChain_ap, bOf_ap, bNot_ap, bAnd_ap, bOr_ap, eAnd_ap, eOr_ap, eNot_ap, eIf_ap, eTup_ap, eLst_ap, eLstM_ap, cNop_ap, cBreak_ap, cCont_ap, cSeq_ap, cExpr_ap, cSet_ap, cRet_ap, cRetN_ap, cIf_ap, cAsg_ap, cPar2_ap, cPar3_ap, bYes_ap, eCall_ap, oNone_ap, oSome_ap, eSl_ap, cFor_ap, eMtL_ap, aKw_ap, gNm_ap, gTp2, gTp3, gSb_ap, mkTup0, mkTup1, mkTup2, mkTup3, Out.bind, Out.ofO, exq, fin, callE_ap, List.getElem?_cons_succ, List.getElem?_cons_zero, List.set_cons_succ, List.set_cons_zero, List.map_cons, List.map_nil, List.replicate, List.cons_append, List.nil_append, List.length_cons, List.length_nil, Bool.not_true, Bool.not_false, if_true, if_false, ite_true, ite_false, reduceIte, Bool.false_eq_true, Bool.true_eq_false, Nat.reduceAdd, unD, Option.map_some, Nat.zero_le, Sh.sz1, Sh.sz2, Sh.sz3, Sh.sz4, Sh.sz5, Sh.sz6, Sh.sz7, Sh.sz8, Sh.sz9, Sh.sz10, Sh.sz11, Sh.sz12, Sh.sz13, Sh.sz14, Sh.sz15, Sh.sz16, Nat.reduceSub, Nat.reduceLeDiff, reduceCtorEq, Bool.and_true, Bool.true_and, Bool.and_false, Bool.false_and, Bool.or_true, Bool.or_false, Bool.true_or, Bool.false_or, callP_d (need_choice_ok (S := []) Z C), newCell]
  rw [iRg1_nat (j := m) (by simp only [eVar_ap, eK_ap, aNil_ap, aCons_ap, eOp2_ap, eOp1_ap, eChain_ap, bOf_ap, bNot_ap, bAnd_ap, bOr_ap, eAnd_ap, eOr_ap, eNot_ap, eIf_ap, eTup_ap, eLst_ap, eLstM_ap, cNop_ap, cBreak_ap, cCont_ap, cSeq_ap, cExpr_ap, cSet_ap, cRet_ap, cRetN_ap, cIf_ap, cAsg_ap, cPar2_ap, cPar3_ap, bYes_ap, eCall_ap, oNone_ap, oSome_ap, eSl_ap, cFor_ap, eMtL_ap, aKw_ap, gNm_ap, gTp2, gTp3, gSb_ap, mkTup0, mkTup1, mkTup2, mkTup3, Out.bind, Out.ofO, exq, fin, callE_ap, List.getElem?_cons_succ, List.getElem?_cons_zero, List.set_cons_succ, List.set_cons_zero, List.map_cons, List.map_nil, List.replicate, List.cons_append, List.nil_append, List.length_cons, List.length_nil, Bool.not_true, Bool.not_false, if_true, if_false, ite_true, ite_false, reduceIte, Bool.false_eq_true, Bool.true_eq_false, Nat.reduceAdd, unD, Option.map_some, Nat.zero_le, Sh.sz1, Sh.sz2, Sh.sz3, Sh.sz4, Sh.sz5, Sh.sz6, Sh.sz7, Sh.sz8, Sh.sz9, Sh.sz10, Sh.sz11, Sh.sz12, Sh.sz13, Sh.sz14, Sh.sz15, Sh.sz16, Nat.reduceSub, Nat.reduceLeDiff, reduceCtorEq, Bool.and_true, Bool.true_and, Bool.and_false, Bool.false_and, Bool.or_true, Bool.or_false, Bool.true_or, Bool.false_or, ix_head Z, bLen_tup, List.length_map, hr0]) (by omega)]
  simp only [eVar_ap, eK_ap, aNil_ap, aCons_ap, eOp2_ap, eOp1_ap, eChain_ap, bOf_ap, bNot_ap, bAnd_ap, bOr_ap, eAnd_ap, eOr_ap, eNot_ap, eIf_ap, eTup_ap, eLst_ap, eLstM_ap, cNop_ap, cBreak_ap, cCont_ap, cSeq_ap, cExpr_ap, cSet_ap, cRet_ap, cRetN_ap, cIf_ap, cAsg_ap, cPar2_ap, cPar3_ap, bYes_ap, eCall_ap, oNone_ap, oSome_ap, eSl_ap, cFor_ap, eMtL_ap, aKw_ap, gNm_ap, gTp2, gTp3, gSb_ap, mkTup0, mkTup1, mkTup2, mkTup3, Out.bind, Out.ofO, exq, fin, callE_ap, List.getElem?_cons_succ, List.getElem?_cons_zero, List.set_cons_succ, List.set_cons_zero, List.map_cons, List.map_nil, List.replicate, List.cons_append, List.nil_append, List.length_cons, List.length_nil, Bool.not_true, Bool.not_false, if_true, if_false, ite_true, ite_false, reduceIte, Bool.false_eq_true, Bool.true_eq_false, Nat.reduceAdd, unD, Option.map_some, Nat.zero_le, Sh.sz1, Sh.sz2, Sh.sz3, Sh.sz4, Sh.sz5, Sh.sz6, Sh.sz7, Sh.sz8, Sh.sz9, Sh.sz10, Sh.sz11, Sh.sz12, Sh.sz13, Sh.sz14, Sh.sz15, Sh.sz16, Nat.reduceSub, Nat.reduceLeDiff, reduceCtorEq, Bool.and_true, Bool.true_and, Bool.and_false, Bool.false_and, Bool.or_true, Bool.or_false, Bool.true_or, Bool.false_or, e]
  rw [bTuple_ref (n := 0) rfl]
  simp only [bp, gs, nT, List.map_map]; rfl
theorem best_word (Z : SH sh n m t) (C : CH ch n d) : callP m_best_plan [.d (zTT sh), .d (zTT ch)] S = .ok (.d (nT (bp sh ch m))) S := by
  obtain ⟨S', e⟩ := best_plan_ok Z C
  exact callP_d e
theorem gs_row (C : CH ch n d) : ∀ g ∈ gs sh ch m, g.length = d := fun g hg => by
  obtain ⟨a, _, rfl⟩ := List.mem_map.1 hg
  exact gn_len C
theorem bp_PL (Z : SH sh n m t) (C : CH ch n d) : PL (bp sh ch m) m d := by
  refine ⟨Z.m4, by simp [bp, gs], fun y hy => ?_⟩
  obtain ⟨g, hg, rfl⟩ := List.mem_map.1 hy
  obtain ⟨a, _, rfl⟩ := List.mem_map.1 hg
  have := ax_lt (gn_ne C (sh := sh) (a := a))
  rw [gn_len C] at this
  exact this
theorem gs_getD {a : Nat} (ha : a < m) : (gs sh ch m).getD a [] = gn sh ch a := by simp [gs, List.getD_eq_getElem?_getD, ha]
theorem tot_wn {one : List Nat} (h : one.length = m) : tot (gs sh ch m) one = wn sh ch one := by
  rw [tot_range (by simp [gs, h])]
  unfold wn
  rw [show (gs sh ch m).length = one.length by simp [gs, h]]
  congr 1
  refine List.map_congr_left fun a ha => ?_
  rw [gs_getD (by have := List.mem_range.1 ha; omega)]
theorem worth_ok (Z : SH sh n m t) (C : CH ch n d) : m_worth [.d (zTT sh), .d (zTT ch)] S = .ok (.d (rat (wn sh ch (bp sh ch m)) t)) S := by
  have hm4 := Z.m4
  have hb : wn sh ch (bp sh ch m) = ((List.range m).map fun a => maxI (gn sh ch a)).sum := by
    rw [← tot_wn (bp_PL Z C).len, bp, tot_best (gs_row C) C.d0, gs, List.map_map]; rfl
  have e : m_worth_of [.d (zTT sh), .d (zTT ch)] [] = .ok (.d (rat (wn sh ch (bp sh ch m)) t)) [] := by
    have e1 : ∀ p2 p3 : Option W, q_worth_of_0 [some (.d (zTT sh)), some (.d (zTT ch)), p2, p3] [] = .ok (.d (zL ((List.range m).map fun a => maxI (gn sh ch a)))) [] := fun p2 p3 => by
      unfold q_worth_of_0
      rw [eLc_y (List.range m) (fun (k : Nat) => W.d (.int (k : Int))) (fun a => .int (maxI (gn sh ch a))) (grd := fun _ => True) (iRg1_nat (by simp only [eVar_ap, eK_ap, aNil_ap, aCons_ap, eOp2_ap, eOp1_ap, eChain_ap, bOf_ap, bNot_ap, bAnd_ap, bOr_ap, eAnd_ap, eOr_ap, eNot_ap, eIf_ap, eTup_ap, eLst_ap, eLstM_ap, cNop_ap, cBreak_ap, cCont_ap, cSeq_ap, cExpr_ap, cSet_ap, cRet_ap, cRetN_ap, cIf_ap, cAsg_ap, cPar2_ap, cPar3_ap, bYes_ap, eCall_ap, oNone_ap, oSome_ap, eSl_ap, cFor_ap, eMtL_ap, aKw_ap, gNm_ap, gTp2, gTp3, gSb_ap, mkTup0, mkTup1, mkTup2, mkTup3, Out.bind, Out.ofO, exq, fin, callE_ap, List.getElem?_cons_succ, List.getElem?_cons_zero, List.set_cons_succ, List.set_cons_zero, List.map_cons, List.map_nil, List.replicate, List.cons_append, List.nil_append, List.length_cons, List.length_nil, Bool.not_true, Bool.not_false, if_true, if_false, ite_true, ite_false, reduceIte, Bool.false_eq_true, Bool.true_eq_false, Nat.reduceAdd, unD, Option.map_some, Nat.zero_le, Sh.sz1, Sh.sz2, Sh.sz3, Sh.sz4, Sh.sz5, Sh.sz6, Sh.sz7, Sh.sz8, Sh.sz9, Sh.sz10, Sh.sz11, Sh.sz12, Sh.sz13, Sh.sz14, Sh.sz15, Sh.sz16, Nat.reduceSub, Nat.reduceLeDiff, reduceCtorEq, Bool.and_true, Bool.true_and, Bool.and_false, Bool.false_and, Bool.or_true, Bool.or_false, Bool.true_or, Bool.false_or, ix_head Z, bLen_tup, List.length_map, head_len Z]) (by omega)) trivial (by rw [List.length_range]; exact len_le (by omega)) fun a ha => ⟨_, rfl, ?_⟩]
      · simp only [zL, List.map_map]; rfl
      · simp only [eVar_ap, eK_ap, aNil_ap, aCons_ap, eOp2_ap, eOp1_ap, eChain_ap, bOf_ap, bNot_ap, bAnd_ap, bOr_ap, eAnd_ap, eOr_ap, eNot_ap, eIf_ap, eTup_ap, eLst_ap, eLstM_ap, cNop_ap, cBreak_ap, cCont_ap, cSeq_ap, cExpr_ap, cSet_ap, cRet_ap, cRetN_ap, cIf_ap, cAsg_ap, cPar2_ap, cPar3_ap, bYes_ap, eCall_ap, oNone_ap, oSome_ap, eSl_ap, cFor_ap, eMtL_ap, aKw_ap, gNm_ap, gTp2, gTp3, gSb_ap, mkTup0, mkTup1, mkTup2, mkTup3, Out.bind, Out.ofO, exq, fin, callE_ap, List.getElem?_cons_succ, List.getElem?_cons_zero, List.set_cons_succ, List.set_cons_zero, List.map_cons, List.map_nil, List.replicate, List.cons_append, List.nil_append, List.length_cons, List.length_nil, Bool.not_true, Bool.not_false, if_true, if_false, ite_true, ite_false, reduceIte, Bool.false_eq_true, Bool.true_eq_false, Nat.reduceAdd, unD, Option.map_some, Nat.zero_le, Sh.sz1, Sh.sz2, Sh.sz3, Sh.sz4, Sh.sz5, Sh.sz6, Sh.sz7, Sh.sz8, Sh.sz9, Sh.sz10, Sh.sz11, Sh.sz12, Sh.sz13, Sh.sz14, Sh.sz15, Sh.sz16, Nat.reduceSub, Nat.reduceLeDiff, reduceCtorEq, Bool.and_true, Bool.true_and, Bool.and_false, Bool.false_and, Bool.or_true, Bool.or_false, Bool.true_or, Bool.false_or, wipeR, callP_d (gains_at_ok (S := []) Z C (a := a) (List.mem_range.1 ha)), max_zL (gn_ne C (sh := sh) (a := a))]
    unfold m_worth_of defM b_worth_of
    simp only [eVar_ap, eK_ap, aNil_ap, aCons_ap, eOp2_ap, eOp1_ap, eChain_ap, bOf_ap, bNot_ap, bAnd_ap, bOr_ap, eAnd_ap, eOr_ap, eNot_ap, eIf_ap, eTup_ap, eLst_ap, eLstM_ap, cNop_ap, cBreak_ap, cCont_ap, cSeq_ap, cExpr_ap, cSet_ap, cRet_ap, cRetN_ap, cIf_ap, cAsg_ap, cPar2_ap, cPar3_ap, bYes_ap, eCall_ap, oNone_ap, oSome_ap, eSl_ap, cFor_ap, eMtL_ap, aKw_ap, gNm_ap, gTp2, gTp3, gSb_ap, mkTup0, mkTup1, mkTup2, mkTup3, Out.bind, Out.ofO, exq, fin, callE_ap, List.getElem?_cons_succ, List.getElem?_cons_zero, List.set_cons_succ, List.set_cons_zero, List.map_cons, List.map_nil, List.replicate, List.cons_append, List.nil_append, List.length_cons, List.length_nil, Bool.not_true, Bool.not_false, if_true, if_false, ite_true, ite_false, reduceIte, Bool.false_eq_true, Bool.true_eq_false, Nat.reduceAdd, unD, Option.map_some, Nat.zero_le, Sh.sz1, Sh.sz2, Sh.sz3, Sh.sz4, Sh.sz5, Sh.sz6, Sh.sz7, Sh.sz8, Sh.sz9, Sh.sz10, Sh.sz11, Sh.sz12, Sh.sz13, Sh.sz14, Sh.sz15, Sh.sz16, Nat.reduceSub, Nat.reduceLeDiff, reduceCtorEq, Bool.and_true, Bool.true_and, Bool.and_false, Bool.false_and, Bool.or_true, Bool.or_false, Bool.true_or, Bool.false_or, e1, sum_zL, ix_head Z, sum_zT, head_sum Z, ← hb, callP_d (ratio_ok (S := []) (i := wn sh ch (bp sh ch m)) Z.t0 (by have := Z.t12; omega))]
  unfold m_worth defM b_worth
  simp only [eVar_ap, eK_ap, aNil_ap, aCons_ap, eOp2_ap, eOp1_ap, eChain_ap, bOf_ap, bNot_ap, bAnd_ap, bOr_ap, eAnd_ap, eOr_ap, eNot_ap, eIf_ap, eTup_ap, eLst_ap, eLstM_ap, cNop_ap, cBreak_ap, cCont_ap, cSeq_ap, cExpr_ap, cSet_ap, cRet_ap, cRetN_ap, cIf_ap, cAsg_ap, cPar2_ap, cPar3_ap, bYes_ap, eCall_ap, oNone_ap, oSome_ap, eSl_ap, cFor_ap, eMtL_ap, aKw_ap, gNm_ap, gTp2, gTp3, gSb_ap, mkTup0, mkTup1, mkTup2, mkTup3, Out.bind, Out.ofO, exq, fin, callE_ap, List.getElem?_cons_succ, List.getElem?_cons_zero, List.set_cons_succ, List.set_cons_zero, List.map_cons, List.map_nil, List.replicate, List.cons_append, List.nil_append, List.length_cons, List.length_nil, Bool.not_true, Bool.not_false, if_true, if_false, ite_true, ite_false, reduceIte, Bool.false_eq_true, Bool.true_eq_false, Nat.reduceAdd, unD, Option.map_some, Nat.zero_le, Sh.sz1, Sh.sz2, Sh.sz3, Sh.sz4, Sh.sz5, Sh.sz6, Sh.sz7, Sh.sz8, Sh.sz9, Sh.sz10, Sh.sz11, Sh.sz12, Sh.sz13, Sh.sz14, Sh.sz15, Sh.sz16, Nat.reduceSub, Nat.reduceLeDiff, reduceCtorEq, Bool.and_true, Bool.true_and, Bool.and_false, Bool.false_and, Bool.or_true, Bool.or_false, Bool.true_or, Bool.false_or, callP_d (need_choice_ok (S := []) Z C), callP_d e]
end
end Law
end

section
namespace Law
open PySem PySem.Spec PyProof.Rows L2 Sh Sheet
open Classical
section
variable {S : Sto} {x : PyData} {xs : List PyData} {R : List (List PyData)} {rs sh ch : List (List Int)} {n m d t k : Nat} {pl : List Nat}
theorem mExtend_at {c : Nat} {ws : List W} {xs : List PyData} (h : S[c]? = some (.lst ws)) (hl : ws.length + xs.length ≤ 1000) : mExtend (.ref c) [.d (.list xs)] S = .ok (.d .none) (S.set c (.lst (ws ++ xs.map .d))) := by
  simp only [mExtend, h, lstOf, List.length_map]
  rw [if_pos (len_le hl)]
theorem setIx_at {c j : Nat} {ws : List W} {w : W} (h : S[c]? = some (.lst ws)) (hj : j < ws.length) : setIx (.ref c) (.d (.int (j : Int))) w S = .ok () (S.set c (.lst (ws.set j w))) := by
  simp only [setIx, h, ixN, Int.natCast_nonneg, if_true, Int.ofNat_lt, hj, Int.toNat_natCast]
/-- the value of a name that stands for all plans so far -/
def Std (S : Sto) (w : W) (l : List (List Nat)) : Prop := w = .d (.list (l.map nT)) ∨ ∃ c, w = .ref c ∧ S[c]? = some (.lst (l.map fun r => W.d (nT r)))
theorem plans_up (j : Nat) (hd : 1 ≤ d) : (plans d j).length ≤ (plans d (j + 1)).length := by
  rw [plans_len, plans_len]; exact Nat.pow_le_pow_right hd (Nat.le_succ _)
theorem law_plans_ok (hm : m ≤ 4) (h1 : 1 ≤ d) (hd : d ≤ 4) : ∃ S' w, m__law_plans [.d (.int (m : Int)), .d (.int (d : Int))] [] = .ok w S' ∧ Std S' w (plans d m) := by
  have hsz : ∀ j, j ≤ m → (plans d j).length ≤ 256 := fun j hj => by
    rw [plans_len]
    exact Nat.le_trans (Nat.pow_le_pow_left hd j) (Nat.le_trans (Nat.pow_le_pow_right (by decide) (show j ≤ 4 by omega)) (by decide))
  obtain ⟨ρ', S', e, ⟨w, p3, p4, p5, p6, rfl, hS⟩⟩ := forL_rg (n := m) (mk := fun (k : Nat) => W.d (.int (k : Int))) (grd := fun _ => True) (g := gNm 3) (body := l__law_plans_2) (Iv := fun j ρ S => ∃ w p3 p4 p5 p6, ρ = [some (.d (.int (m : Int))), some (.d (.int (d : Int))), some w, p3, p4, p5, p6] ∧ Std S w (plans d j))
    (fun _ _ _ _ => trivial) (by
      rintro j hj _ S ⟨w, p3, p4, p5, p6, rfl, hS⟩
      refine ⟨_, _, rfl, ?_⟩
      let part : Nat → List (List Nat) := fun i => ((plans d j).take i).flatMap fun r => (List.range d).map fun x => r ++ [x]
      have hlen : ∀ i, (part i).length ≤ 256 := fun i => by
        have h1 : (part i).length ≤ (plans d (j + 1)).length := by
          have : ∀ {l m : List (List Nat)}, l.Sublist m → (l.flatMap fun r => (List.range d).map fun x => r ++ [x]).length ≤ (m.flatMap fun r => (List.range d).map fun x => r ++ [x]).length := fun {l m} h => by
            induction h with
            | slnil => exact Nat.le_refl _
            | cons x _ ih => rw [List.flatMap_cons, List.length_append]; omega
            | cons_cons x _ ih => rw [List.flatMap_cons, List.flatMap_cons, List.length_append, List.length_append]; omega
          exact this (List.take_sublist i _)
        exact Nat.le_trans h1 (hsz (j + 1) (by omega))
      have hit : ∃ grd : Sto → Prop, (∀ p3 p4 p5 p6 : Option W, iSq (eVar 2) [some (.d (.int (m : Int))), some (.d (.int (d : Int))), some w, p3, p4, p5, p6] (S ++ [.lst []]) = .ok ⟨(plans d j).map fun r => W.d (nT r), grd⟩ (S ++ [.lst []])) ∧ ∀ S2 : Sto, (∀ i, i < S.length → S2[i]? = S[i]?) → grd S2 := by
        rcases hS with rfl | ⟨c, rfl, hc⟩
        · exact ⟨fun _ => True, fun _ _ _ _ => iSq_LT rfl, fun _ _ => trivial⟩
        · have hlt : c < S.length := (List.getElem?_eq_some_iff.1 hc).1
          refine ⟨fun S2 => S2[c]? = some (.lst ((plans d j).map fun r => W.d (nT r))), fun _ _ _ _ => ?_, fun S2 h2 => by show S2[c]? = _; rw [h2 c hlt, hc]⟩
          have hc2 : (S ++ [Ob.lst []])[c]? = some (.lst ((plans d j).map fun r => W.d (nT r))) := by rw [List.getElem?_append_left hlt, hc]
          simp only [iSq, eVar_ap, List.getElem?_cons_succ, List.getElem?_cons_zero, Out.bind, hc2]
      obtain ⟨grd, hit, hgr⟩ := hit
      obtain ⟨ρ', S', e, ⟨p5, p6, rfl, hk, hc, hlS⟩⟩ := forL_at (plans d j) (mk := fun r => W.d (nT r)) (grd := grd) (g := gNm 5) (body := l__law_plans_1) (Iv := fun i ρ S2 => ∃ p5 p6, ρ = [some (.d (.int (m : Int))), some (.d (.int (d : Int))), some w, some (.d (.int (j : Int))), some (.ref S.length), p5, p6] ∧ (∀ i, i < S.length → S2[i]? = S[i]?) ∧ S2[S.length]? = some (.lst ((part i).map fun r => W.d (nT r))) ∧ S2.length = S.length + 1)
        (fun _ _ S2 ⟨_, _, _, h, _⟩ => hgr S2 h) (by
          rintro i hi _ S2 ⟨p5, p6, rfl, hk, hc, hlS⟩
          have hr := plans_mem (List.getElem_mem hi)
          have e : part (i + 1) = part i ++ (List.range d).map fun x => (plans d j)[i] ++ [x] := by
            simp only [part]
            rw [List.take_succ, List.getElem?_eq_getElem hi, List.flatMap_append]
            simp only [Option.toList, List.flatMap_cons, List.flatMap_nil, List.append_nil]
          rw [e]
          generalize (plans d j)[i] = r at hr
          refine ⟨_, _, rfl, ?_⟩
          have hq : ∀ p6 : Option W, q__law_plans_0 [some (.d (.int (m : Int))), some (.d (.int (d : Int))), some w, some (.d (.int (j : Int))), some (.ref S.length), some (.d (nT r)), p6] S2 = .ok (.d (.list ((List.range d).map fun x => nT (r ++ [x])))) S2 := fun p6 => by
            unfold q__law_plans_0
            rw [eLc_y (List.range d) (fun (k : Nat) => W.d (.int (k : Int))) (fun x => nT (r ++ [x])) (grd := fun _ => True) (iRg1_nat (j := d) rfl (by omega)) trivial (by rw [List.length_range]; exact len_le (by omega)) fun y hy => ⟨_, rfl, by simp only [eVar_ap, eK_ap, aNil_ap, aCons_ap, eOp2_ap, eOp1_ap, eChain_ap, bOf_ap, bNot_ap, bAnd_ap, bOr_ap, eAnd_ap, eOr_ap, eNot_ap, eIf_ap, eTup_ap, eLst_ap, eLstM_ap, cNop_ap, cBreak_ap, cCont_ap, cSeq_ap, cExpr_ap, cSet_ap, cRet_ap, cRetN_ap, cIf_ap, cAsg_ap, cPar2_ap, cPar3_ap, bYes_ap, eCall_ap, oNone_ap, oSome_ap, eSl_ap, cFor_ap, eMtL_ap, aKw_ap, gNm_ap, gTp2, gTp3, gSb_ap, mkTup0, mkTup1, mkTup2, mkTup3, Out.bind, Out.ofO, exq, fin, callE_ap, List.getElem?_cons_succ, List.getElem?_cons_zero, List.set_cons_succ, List.set_cons_zero, List.map_cons, List.map_nil, List.replicate, List.cons_append, List.nil_append, List.length_cons, List.length_nil, Bool.not_true, Bool.not_false, if_true, if_false, ite_true, ite_false, reduceIte, Bool.false_eq_true, Bool.true_eq_false, Nat.reduceAdd, unD, Option.map_some, Nat.zero_le, Sh.sz1, Sh.sz2, Sh.sz3, Sh.sz4, Sh.sz5, Sh.sz6, Sh.sz7, Sh.sz8, Sh.sz9, Sh.sz10, Sh.sz11, Sh.sz12, Sh.sz13, Sh.sz14, Sh.sz15, Sh.sz16, Nat.reduceSub, Nat.reduceLeDiff, reduceCtorEq, Bool.and_true, Bool.true_and, Bool.and_false, Bool.false_and, Bool.or_true, Bool.or_false, Bool.true_or, Bool.false_or, wipeR, add_one (show r.length < 1000 by omega)]⟩]
          have hl := hlen i
          refine ⟨_, S2.set S.length (.lst ((part i).map (fun r => W.d (nT r)) ++ ((List.range d).map fun x => nT (r ++ [x])).map W.d)), .inl ?_, some (.d (nT r)), p6, rfl, fun i' hi' => by rw [List.getElem?_set_ne (by omega), hk i' hi'], ?_, by rw [List.length_set, hlS]⟩
          · unfold l__law_plans_1
            simp only [eVar_ap, eK_ap, aNil_ap, aCons_ap, eOp2_ap, eOp1_ap, eChain_ap, bOf_ap, bNot_ap, bAnd_ap, bOr_ap, eAnd_ap, eOr_ap, eNot_ap, eIf_ap, eTup_ap, eLst_ap, eLstM_ap, cNop_ap, cBreak_ap, cCont_ap, cSeq_ap, cExpr_ap, cSet_ap, cRet_ap, cRetN_ap, cIf_ap, cAsg_ap, cPar2_ap, cPar3_ap, bYes_ap, eCall_ap, oNone_ap, oSome_ap, eSl_ap, cFor_ap, eMtL_ap, aKw_ap, gNm_ap, gTp2, gTp3, gSb_ap, mkTup0, mkTup1, mkTup2, mkTup3, Out.bind, Out.ofO, exq, fin, callE_ap, List.getElem?_cons_succ, List.getElem?_cons_zero, List.set_cons_succ, List.set_cons_zero, List.map_cons, List.map_nil, List.replicate, List.cons_append, List.nil_append, List.length_cons, List.length_nil, Bool.not_true, Bool.not_false, if_true, if_false, ite_true, ite_false, reduceIte, Bool.false_eq_true, Bool.true_eq_false, Nat.reduceAdd, unD, Option.map_some, Nat.zero_le, Sh.sz1, Sh.sz2, Sh.sz3, Sh.sz4, Sh.sz5, Sh.sz6, Sh.sz7, Sh.sz8, Sh.sz9, Sh.sz10, Sh.sz11, Sh.sz12, Sh.sz13, Sh.sz14, Sh.sz15, Sh.sz16, Nat.reduceSub, Nat.reduceLeDiff, reduceCtorEq, Bool.and_true, Bool.true_and, Bool.and_false, Bool.false_and, Bool.or_true, Bool.or_false, Bool.true_or, Bool.false_or, isL_at hc, hq, mExtend_at hc (xs := (List.range d).map fun x => nT (r ++ [x])) (by rw [List.length_map, List.length_map, List.length_range]; omega)]
          · rw [List.getElem?_set_self (by omega), List.map_append, List.map_map, List.map_map]; rfl) [some (.d (.int (m : Int))), some (.d (.int (d : Int))), some w, some (.d (.int (j : Int))), some (.ref S.length), p5, p6] (S ++ [.lst []]) ⟨p5, p6, rfl, fun i hi => by rw [List.getElem?_append_left hi], by simp [part], by simp⟩
      refine ⟨_, S', .inl ?_, .ref S.length, some (.d (.int (j : Int))), some (.ref S.length), p5, p6, rfl, .inr ⟨_, rfl, ?_⟩⟩
      · unfold l__law_plans_2
        simp only [eVar_ap, eK_ap, aNil_ap, aCons_ap, eOp2_ap, eOp1_ap, eChain_ap, bOf_ap, bNot_ap, bAnd_ap, bOr_ap, eAnd_ap, eOr_ap, eNot_ap, eIf_ap, eTup_ap, eLst_ap, eLstM_ap, cNop_ap, cBreak_ap, cCont_ap, cSeq_ap, cExpr_ap, cSet_ap, cRet_ap, cRetN_ap, cIf_ap, cAsg_ap, cPar2_ap, cPar3_ap, bYes_ap, eCall_ap, oNone_ap, oSome_ap, eSl_ap, cFor_ap, eMtL_ap, aKw_ap, gNm_ap, gTp2, gTp3, gSb_ap, mkTup0, mkTup1, mkTup2, mkTup3, Out.bind, Out.ofO, exq, fin, callE_ap, List.getElem?_cons_succ, List.getElem?_cons_zero, List.set_cons_succ, List.set_cons_zero, List.map_cons, List.map_nil, List.replicate, List.cons_append, List.nil_append, List.length_cons, List.length_nil, Bool.not_true, Bool.not_false, if_true, if_false, ite_true, ite_false, reduceIte, Bool.false_eq_true, Bool.true_eq_false, Nat.reduceAdd, unD, Option.map_some, Nat.zero_le, Sh.sz1, Sh.sz2, Sh.sz3, Sh.sz4, Sh.sz5, Sh.sz6, Sh.sz7, Sh.sz8, Sh.sz9, Sh.sz10, Sh.sz11, Sh.sz12, Sh.sz13, Sh.sz14, Sh.sz15, Sh.sz16, Nat.reduceSub, Nat.reduceLeDiff, reduceCtorEq, Bool.and_true, Bool.true_and, Bool.and_false, Bool.false_and, Bool.or_true, Bool.or_false, Bool.true_or, Bool.false_or, newCell, hit, e]
      · rw [hc]
        simp only [part]
        rw [List.take_length]; rfl) [some (.d (.int (m : Int))), some (.d (.int (d : Int))), some (.d (.list [.tuple []])), none, none, none, none] [] ⟨_, _, _, _, _, rfl, .inl rfl⟩
  refine ⟨S', w, ?_, hS⟩
  unfold m__law_plans defM b__law_plans
  simp only [eVar_ap, eK_ap, aNil_ap, aCons_ap, eOp2_ap, eOp1_ap, eChain_ap, bOf_ap, bNot_ap, bAnd_ap, bOr_ap, eAnd_ap, eOr_ap, eNot_ap, eIf_ap, eTup_ap, eLst_ap, eLstM_ap, cNop_ap, cBreak_ap, cCont_ap, cSeq_ap, cExpr_ap, cSet_ap, cRet_ap, cRetN_ap, cIf_ap, cAsg_ap, cPar2_ap, cPar3_ap, bYes_ap, eCall_ap, oNone_ap, oSome_ap, eSl_ap, cFor_ap, eMtL_ap, aKw_ap, gNm_ap, gTp2, gTp3, gSb_ap, mkTup0, mkTup1, mkTup2, mkTup3, Out.bind, Out.ofO, exq, fin, callE_ap, List.getElem?_cons_succ, List.getElem?_cons_zero, List.set_cons_succ, List.set_cons_zero, List.map_cons, List.map_nil, List.replicate, List.cons_append, List.nil_append, List.length_cons, List.length_nil, Bool.not_true, Bool.not_false, if_true, if_false, ite_true, ite_false, reduceIte, Bool.false_eq_true, Bool.true_eq_false, Nat.reduceAdd, unD, Option.map_some, Nat.zero_le, Sh.sz1, Sh.sz2, Sh.sz3, Sh.sz4, Sh.sz5, Sh.sz6, Sh.sz7, Sh.sz8, Sh.sz9, Sh.sz10, Sh.sz11, Sh.sz12, Sh.sz13, Sh.sz14, Sh.sz15, Sh.sz16, Nat.reduceSub, Nat.reduceLeDiff, reduceCtorEq, Bool.and_true, Bool.true_and, Bool.and_false, Bool.false_and, Bool.or_true, Bool.or_false, Bool.true_or, Bool.false_or]
  rw [iRg1_nat (j := m) rfl (by omega)]
  simp only [eVar_ap, eK_ap, aNil_ap, aCons_ap, eOp2_ap, eOp1_ap, eChain_ap, bOf_ap, bNot_ap, bAnd_ap, bOr_ap, eAnd_ap, eOr_ap, eNot_ap, eIf_ap, eTup_ap, eLst_ap, eLstM_ap, cNop_ap, cBreak_ap, cCont_ap, cSeq_ap, cExpr_ap, cSet_ap, cRet_ap, cRetN_ap, cIf_ap, cAsg_ap, cPar2_ap, cPar3_ap, bYes_ap, eCall_ap, oNone_ap, oSome_ap, eSl_ap, cFor_ap, eMtL_ap, aKw_ap, gNm_ap, gTp2, gTp3, gSb_ap, mkTup0, mkTup1, mkTup2, mkTup3, Out.bind, Out.ofO, exq, fin, callE_ap, List.getElem?_cons_succ, List.getElem?_cons_zero, List.set_cons_succ, List.set_cons_zero, List.map_cons, List.map_nil, List.replicate, List.cons_append, List.nil_append, List.length_cons, List.length_nil, Bool.not_true, Bool.not_false, if_true, if_false, ite_true, ite_false, reduceIte, Bool.false_eq_true, Bool.true_eq_false, Nat.reduceAdd, unD, Option.map_some, Nat.zero_le, Sh.sz1, Sh.sz2, Sh.sz3, Sh.sz4, Sh.sz5, Sh.sz6, Sh.sz7, Sh.sz8, Sh.sz9, Sh.sz10, Sh.sz11, Sh.sz12, Sh.sz13, Sh.sz14, Sh.sz15, Sh.sz16, Nat.reduceSub, Nat.reduceLeDiff, reduceCtorEq, Bool.and_true, Bool.true_and, Bool.and_false, Bool.false_and, Bool.or_true, Bool.or_false, Bool.true_or, Bool.false_or, e]
theorem plans_word (hm : m ≤ 4) (h1 : 1 ≤ d) (hd : d ≤ 4) : callP m__law_plans [.d (.int (m : Int)), .d (.int (d : Int))] S = .ok (.d (.list ((plans d m).map nT))) S := by
  obtain ⟨S', w, e, h⟩ := law_plans_ok hm h1 hd
  rcases h with rfl | ⟨c, rfl, hc⟩
  · exact callP_d e
  · simp only [callP, List.all_cons, List.all_nil, isD, Bool.and_self, if_true, e, frzW, hc]
    have : unD ((plans d m).map fun r => W.d (nT r)) = some ((plans d m).map nT) := by
      rw [← unD_map, List.map_map]; rfl
    rw [this]; rfl
/-! a drawn sheet -/
theorem pick_eq : m__law_pick = mPick := rfl
theorem sum_set : ∀ {r : List Int} {q : Nat}, q < r.length → (r.set q (r.getD q 0 + 1)).sum = r.sum + 1
  | [], q, h => by simp at h
  | x :: r, 0, _ => by simp; omega
  | x :: r, q + 1, h => by
    have := sum_set (r := r) (q := q) (by simpa using h)
    simp only [List.set_cons_succ, List.sum_cons, List.getD_cons_succ, this]; omega
theorem row_draw (B : Bag S 0 k) (hk : k < 2 ^ 30) (h1 : 1 ≤ m) (hm : m ≤ 4) (ht : t ≤ 12) {c q : Nat} {wc : List W} {p1 p5 p7 p8 : Option W} (hc0 : c ≠ 0) (hq0 : q ≠ 0) (hcq : c ≠ q) (hc : S[c]? = some (.lst wc)) (hq : S[q]? = some (.lst ((List.replicate m (0 : Int)).map fun e => W.d (.int e)))) :
    ∃ (r : List Int) (p7' p8' : Option W) (S' : Sto), forL (fun _ => True) (gNm 7) l__law_sheet_0 ((List.range t).map fun (k : Nat) => W.d (.int (k : Int))) [some (.ref 0), p1, some (.d (.int (m : Int))), some (.d (.int (t : Int))), some (.ref c), p5, some (.ref q), p7, p8] S = .ok (.nx [some (.ref 0), p1, some (.d (.int (m : Int))), some (.d (.int (t : Int))), some (.ref c), p5, some (.ref q), p7', p8']) S' ∧
      r.length = m ∧ (∀ e ∈ r, 0 ≤ e ∧ e ≤ (t : Int)) ∧ r.sum = (t : Int) ∧ Bag S' 0 (k + t) ∧ S'[c]? = some (.lst wc) ∧ S'[q]? = some (.lst (r.map fun e => W.d (.int e))) ∧ S'.length = S.length := by
  obtain ⟨ρ', S', e, r, p7', p8', rfl, hl, he, hs, B', hc', hq', hlS⟩ := forL_rg (n := t) (mk := fun (k : Nat) => W.d (.int (k : Int))) (grd := fun _ => True) (g := gNm 7) (body := l__law_sheet_0) (Iv := fun j ρ S' => ∃ (r : List Int) (p7 p8 : Option W), ρ = [some (.ref 0), p1, some (.d (.int (m : Int))), some (.d (.int (t : Int))), some (.ref c), p5, some (.ref q), p7, p8] ∧ r.length = m ∧ (∀ e ∈ r, 0 ≤ e ∧ e ≤ (j : Int)) ∧ r.sum = (j : Int) ∧ Bag S' 0 (k + j) ∧ S'[c]? = some (.lst wc) ∧ S'[q]? = some (.lst (r.map fun e => W.d (.int e))) ∧ S'.length = S.length)
    (fun _ _ _ _ => trivial) (by
      rintro j hj _ S1 ⟨r, p7, p8, rfl, hl, he, hs, B, hc, hq, hlS⟩
      obtain ⟨v, S2, e2, hv, B2, hl2, hk2⟩ := pick_any B (by omega) (many := (m : Int)) (by omega) (by omega)
      have hv : v < r.length := by omega
      have hq2 : S2[q]? = some (.lst (r.map fun e => W.d (.int e))) := by rw [hk2 q hq0, hq]
      have hix : opIx (.ref q) (.d (.int (v : Int))) S2 = .ok (.d (.int (r.getD v 0))) S2 := opIx_ref hq2 (Sh.atI_nat (by rw [List.getElem?_map, List.getElem?_eq_getElem hv, List.getD_eq_getElem?_getD, List.getElem?_eq_getElem hv]; rfl))
      have hql : q < S2.length := (List.getElem?_eq_some_iff.1 hq2).1
      refine ⟨_, _, rfl, _, S2.set q (.lst ((r.map fun e => W.d (.int e)).set v (.d (.int (r.getD v 0 + 1))))), .inl ?_, r.set v (r.getD v 0 + 1), some (.d (.int (j : Int))), some (.d (.int (v : Int))), rfl, by rw [List.length_set, hl], ?_, by rw [sum_set hv, hs]; omega, ?_, ?_, ?_, by rw [List.length_set, hl2, hlS]⟩
      · unfold l__law_sheet_0
        simp only [eVar_ap, eK_ap, aNil_ap, aCons_ap, eOp2_ap, eOp1_ap, eChain_ap, bOf_ap, bNot_ap, bAnd_ap, bOr_ap, eAnd_ap, eOr_ap, eNot_ap, eIf_ap, eTup_ap, eLst_ap, eLstM_ap, cNop_ap, cBreak_ap, cCont_ap, cSeq_ap, cExpr_ap, cSet_ap, cRet_ap, cRetN_ap, cIf_ap, cAsg_ap, cPar2_ap, cPar3_ap, bYes_ap, eCall_ap, oNone_ap, oSome_ap, eSl_ap, cFor_ap, eMtL_ap, aKw_ap, gNm_ap, gTp2, gTp3, gSb_ap, mkTup0, mkTup1, mkTup2, mkTup3, Out.bind, Out.ofO, exq, fin, callE_ap, List.getElem?_cons_succ, List.getElem?_cons_zero, List.set_cons_succ, List.set_cons_zero, List.map_cons, List.map_nil, List.replicate, List.cons_append, List.nil_append, List.length_cons, List.length_nil, Bool.not_true, Bool.not_false, if_true, if_false, ite_true, ite_false, reduceIte, Bool.false_eq_true, Bool.true_eq_false, Nat.reduceAdd, unD, Option.map_some, Nat.zero_le, Sh.sz1, Sh.sz2, Sh.sz3, Sh.sz4, Sh.sz5, Sh.sz6, Sh.sz7, Sh.sz8, Sh.sz9, Sh.sz10, Sh.sz11, Sh.sz12, Sh.sz13, Sh.sz14, Sh.sz15, Sh.sz16, Nat.reduceSub, Nat.reduceLeDiff, reduceCtorEq, Bool.and_true, Bool.true_and, Bool.and_false, Bool.false_and, Bool.or_true, Bool.or_false, Bool.true_or, Bool.false_or, pick_eq, e2, hix, opAdd_int, setIx_at hq2 (j := v) (by rw [List.length_map]; exact hv)]
      · intro e hm'
        have hg := he _ (mem_getD (x0 := 0) hv)
        rcases List.mem_or_eq_of_mem_set hm' with h | rfl
        · have := he e h; omega
        · omega
      · obtain ⟨cells, a, b, c', h, r'⟩ := B2
        exact ⟨cells, a, b, c', by rw [List.getElem?_set_ne (by omega)]; exact h, r'⟩
      · rw [List.getElem?_set_ne (by omega), hk2 c hc0, hc]
      · rw [List.getElem?_set_self hql, List.map_set]) [some (.ref 0), p1, some (.d (.int (m : Int))), some (.d (.int (t : Int))), some (.ref c), p5, some (.ref q), p7, p8] S ⟨List.replicate m 0, p7, p8, rfl, by simp, fun e he => by have := List.eq_of_mem_replicate he; omega, by simp, by simpa using B, hc, hq, rfl⟩
  exact ⟨r, p7', p8', S', e, hl, he, hs, B', hc', hq', hlS⟩
theorem bag_lt (B : Bag S 0 k) : 0 < S.length := by
  obtain ⟨cells, a, b, c, h, r⟩ := B
  exact (List.getElem?_eq_some_iff.1 h).1
theorem bag_snoc {o : Ob} (B : Bag S 0 k) : Bag (S ++ [o]) 0 k := by
  have hl := bag_lt B
  obtain ⟨cells, a, b, c, h, r⟩ := B
  exact ⟨cells, a, b, c, by rw [List.getElem?_append_left hl]; exact h, r⟩
theorem bag_set {o : Ob} {c : Nat} (B : Bag S 0 k) (hc : c ≠ 0) : Bag (S.set c o) 0 k := by
  obtain ⟨cells, a, b, c', h, r⟩ := B
  exact ⟨cells, a, b, c', by rw [List.getElem?_set_ne hc]; exact h, r⟩
theorem sheet_draw (B : Bag S 0 k) (hk : k < 2 ^ 29) (hn1 : 1 ≤ n) (hn : n ≤ 4) (h1 : 1 ≤ m) (hm : m ≤ 4) : ∃ sh t S', SH sh n m t ∧ m__law_sheet [.ref 0, .d (.int (n : Int)), .d (.int (m : Int))] S = .ok (.d (zTT sh)) S' ∧ Bag S' 0 (k + 50) := by
  obtain ⟨v, S1, e1, hv, B1, hl1, hk1⟩ := pick_any B (by omega) (many := 12) (by decide) (by decide)
  have h0 := bag_lt B1
  obtain ⟨c, hc⟩ : ∃ c, c = S1.length := ⟨_, rfl⟩
  obtain ⟨ρ', S', e, sh, p5, p6, p7, p8, rfl, hl, hr, B', hcc⟩ := forL_rg (n := n) (mk := fun (k : Nat) => W.d (.int (k : Int))) (grd := fun _ => True) (g := gNm 5) (body := l__law_sheet_1) (Iv := fun j ρ S' => ∃ (sh : List (List Int)) (p5 p6 p7 p8 : Option W), ρ = [some (.ref 0), some (.d (.int (n : Int))), some (.d (.int (m : Int))), some (.d (.int ((1 + v : Nat) : Int))), some (.ref c), p5, p6, p7, p8] ∧ sh.length = j ∧ (∀ r ∈ sh, r.length = m ∧ (∀ e ∈ r, 0 ≤ e ∧ e ≤ 12) ∧ r.sum = ((1 + v : Nat) : Int)) ∧ Bag S' 0 (k + 1 + 12 * j) ∧ S'[c]? = some (.lst ((sh.map zT).map W.d)))
    (fun _ _ _ _ => trivial) (by
      rintro j hj _ S2 ⟨sh, p5, p6, p7, p8, rfl, hl, hr, B2, hcc⟩
      have hcl : c < S2.length := (List.getElem?_eq_some_iff.1 hcc).1
      have hrep : (List.replicate m (0 : Int)).map (fun e => W.d (.int e)) = List.replicate m (.d (.int 0)) := by rw [List.map_replicate]
      obtain ⟨r, p7', p8', S3, e3, hrl, hre, hrs, B3, hc3, hq3, hl3⟩ := row_draw (S := S2 ++ [.lst (List.replicate m (.d (.int 0)))]) (k := k + 1 + 12 * j) (m := m) (t := 1 + v) (c := c) (q := S2.length) (wc := (sh.map zT).map W.d) (p1 := some (.d (.int (n : Int)))) (p5 := some (.d (.int (j : Int)))) (p7 := p7) (p8 := p8) (bag_snoc B2) (by omega) h1 hm (by omega) (by omega) (by omega) (by omega) (by rw [List.getElem?_append_left hcl]; exact hcc) (by rw [hrep]; simp)
      have hq3' : S3[S2.length]? = some (.lst ((r.map PyData.int).map W.d)) := by rw [hq3, List.map_map]; rfl
      refine ⟨_, _, rfl, _, S3.set c (.lst ((sh.map zT).map W.d ++ [.d (zT r)])), .inl ?_, sh ++ [r], some (.d (.int (j : Int))), some (.ref S2.length), p7', p8', rfl, by simp [hl], ?_, ?_, ?_⟩
      · unfold l__law_sheet_1
        simp only [eVar_ap, eK_ap, aNil_ap, aCons_ap, eOp2_ap, eOp1_ap, eChain_ap, bOf_ap, bNot_ap, bAnd_ap, bOr_ap, eAnd_ap, eOr_ap, eNot_ap, eIf_ap, eTup_ap, eLst_ap, eLstM_ap, cNop_ap, cBreak_ap, cCont_ap, cSeq_ap, cExpr_ap, cSet_ap, cRet_ap, cRetN_ap, cIf_ap, cAsg_ap, cPar2_ap, cPar3_ap, bYes_ap, eCall_ap, oNone_ap, oSome_ap, eSl_ap, cFor_ap, eMtL_ap, aKw_ap, gNm_ap, gTp2, gTp3, gSb_ap, mkTup0, mkTup1, mkTup2, mkTup3, Out.bind, Out.ofO, exq, fin, callE_ap, List.getElem?_cons_succ, List.getElem?_cons_zero, List.set_cons_succ, List.set_cons_zero, List.map_cons, List.map_nil, List.replicate, List.cons_append, List.nil_append, List.length_cons, List.length_nil, Bool.not_true, Bool.not_false, if_true, if_false, ite_true, ite_false, reduceIte, Bool.false_eq_true, Bool.true_eq_false, Nat.reduceAdd, unD, Option.map_some, Nat.zero_le, Sh.sz1, Sh.sz2, Sh.sz3, Sh.sz4, Sh.sz5, Sh.sz6, Sh.sz7, Sh.sz8, Sh.sz9, Sh.sz10, Sh.sz11, Sh.sz12, Sh.sz13, Sh.sz14, Sh.sz15, Sh.sz16, Nat.reduceSub, Nat.reduceLeDiff, reduceCtorEq, Bool.and_true, Bool.true_and, Bool.and_false, Bool.false_and, Bool.or_true, Bool.or_false, Bool.true_or, Bool.false_or, opMulM_one (S := S2) (x := .int 0) (m := m) (by omega)]
        rw [iRg1_nat (j := 1 + v) rfl (by omega)]
        simp only [eVar_ap, eK_ap, aNil_ap, aCons_ap, eOp2_ap, eOp1_ap, eChain_ap, bOf_ap, bNot_ap, bAnd_ap, bOr_ap, eAnd_ap, eOr_ap, eNot_ap, eIf_ap, eTup_ap, eLst_ap, eLstM_ap, cNop_ap, cBreak_ap, cCont_ap, cSeq_ap, cExpr_ap, cSet_ap, cRet_ap, cRetN_ap, cIf_ap, cAsg_ap, cPar2_ap, cPar3_ap, bYes_ap, eCall_ap, oNone_ap, oSome_ap, eSl_ap, cFor_ap, eMtL_ap, aKw_ap, gNm_ap, gTp2, gTp3, gSb_ap, mkTup0, mkTup1, mkTup2, mkTup3, Out.bind, Out.ofO, exq, fin, callE_ap, List.getElem?_cons_succ, List.getElem?_cons_zero, List.set_cons_succ, List.set_cons_zero, List.map_cons, List.map_nil, List.replicate, List.cons_append, List.nil_append, List.length_cons, List.length_nil, Bool.not_true, Bool.not_false, if_true, if_false, ite_true, ite_false, reduceIte, Bool.false_eq_true, Bool.true_eq_false, Nat.reduceAdd, unD, Option.map_some, Nat.zero_le, Sh.sz1, Sh.sz2, Sh.sz3, Sh.sz4, Sh.sz5, Sh.sz6, Sh.sz7, Sh.sz8, Sh.sz9, Sh.sz10, Sh.sz11, Sh.sz12, Sh.sz13, Sh.sz14, Sh.sz15, Sh.sz16, Nat.reduceSub, Nat.reduceLeDiff, reduceCtorEq, Bool.and_true, Bool.true_and, Bool.and_false, Bool.false_and, Bool.or_true, Bool.or_false, Bool.true_or, Bool.false_or, e3, isL_at hc3, bTuple_ref hq3']
        rw [mAppend_at hc3 (by rw [List.length_map, List.length_map, hl]; exact Nat.lt_of_lt_of_le (show j < 1000 by omega) (by decide))]
      · intro r' hr'
        rcases List.mem_append.1 hr' with h | h
        · exact hr r' h
        · rw [List.mem_singleton] at h
          subst h
          exact ⟨hrl, fun e he => by have := hre e he; omega, hrs⟩
      · exact bag_set (B3.mono (by omega)) (by omega)
      · rw [List.getElem?_set_self (by rw [hl3]; simp; omega)]
        simp) [some (.ref 0), some (.d (.int (n : Int))), some (.d (.int (m : Int))), some (.d (.int ((1 + v : Nat) : Int))), some (.ref c), none, none, none, none] (S1 ++ [.lst []]) ⟨[], none, none, none, none, rfl, rfl, fun _ h => absurd h List.not_mem_nil, (bag_snoc B1).mono (by omega), by rw [hc]; simp⟩
  refine ⟨sh, 1 + v, S', ⟨hn1, hn, h1, hm, by omega, by omega, hl, hr⟩, ?_, B'.mono (by omega)⟩
  unfold m__law_sheet defM b__law_sheet
  simp only [eVar_ap, eK_ap, aNil_ap, aCons_ap, eOp2_ap, eOp1_ap, eChain_ap, bOf_ap, bNot_ap, bAnd_ap, bOr_ap, eAnd_ap, eOr_ap, eNot_ap, eIf_ap, eTup_ap, eLst_ap, eLstM_ap, cNop_ap, cBreak_ap, cCont_ap, cSeq_ap, cExpr_ap, cSet_ap, cRet_ap, cRetN_ap, cIf_ap, cAsg_ap, cPar2_ap, cPar3_ap, bYes_ap, eCall_ap, oNone_ap, oSome_ap, eSl_ap, cFor_ap, eMtL_ap, aKw_ap, gNm_ap, gTp2, gTp3, gSb_ap, mkTup0, mkTup1, mkTup2, mkTup3, Out.bind, Out.ofO, exq, fin, callE_ap, List.getElem?_cons_succ, List.getElem?_cons_zero, List.set_cons_succ, List.set_cons_zero, List.map_cons, List.map_nil, List.replicate, List.cons_append, List.nil_append, List.length_cons, List.length_nil, Bool.not_true, Bool.not_false, if_true, if_false, ite_true, ite_false, reduceIte, Bool.false_eq_true, Bool.true_eq_false, Nat.reduceAdd, unD, Option.map_some, Nat.zero_le, Sh.sz1, Sh.sz2, Sh.sz3, Sh.sz4, Sh.sz5, Sh.sz6, Sh.sz7, Sh.sz8, Sh.sz9, Sh.sz10, Sh.sz11, Sh.sz12, Sh.sz13, Sh.sz14, Sh.sz15, Sh.sz16, Nat.reduceSub, Nat.reduceLeDiff, reduceCtorEq, Bool.and_true, Bool.true_and, Bool.and_false, Bool.false_and, Bool.or_true, Bool.or_false, Bool.true_or, Bool.false_or, pick_eq, e1, opAdd_int, newCell, show (1 : Int) + (v : Int) = ((1 + v : Nat) : Int) by omega]
  rw [← hc]
  rw [iRg1_nat (j := n) rfl (by omega)]
  simp only [eVar_ap, eK_ap, aNil_ap, aCons_ap, eOp2_ap, eOp1_ap, eChain_ap, bOf_ap, bNot_ap, bAnd_ap, bOr_ap, eAnd_ap, eOr_ap, eNot_ap, eIf_ap, eTup_ap, eLst_ap, eLstM_ap, cNop_ap, cBreak_ap, cCont_ap, cSeq_ap, cExpr_ap, cSet_ap, cRet_ap, cRetN_ap, cIf_ap, cAsg_ap, cPar2_ap, cPar3_ap, bYes_ap, eCall_ap, oNone_ap, oSome_ap, eSl_ap, cFor_ap, eMtL_ap, aKw_ap, gNm_ap, gTp2, gTp3, gSb_ap, mkTup0, mkTup1, mkTup2, mkTup3, Out.bind, Out.ofO, exq, fin, callE_ap, List.getElem?_cons_succ, List.getElem?_cons_zero, List.set_cons_succ, List.set_cons_zero, List.map_cons, List.map_nil, List.replicate, List.cons_append, List.nil_append, List.length_cons, List.length_nil, Bool.not_true, Bool.not_false, if_true, if_false, ite_true, ite_false, reduceIte, Bool.false_eq_true, Bool.true_eq_false, Nat.reduceAdd, unD, Option.map_some, Nat.zero_le, Sh.sz1, Sh.sz2, Sh.sz3, Sh.sz4, Sh.sz5, Sh.sz6, Sh.sz7, Sh.sz8, Sh.sz9, Sh.sz10, Sh.sz11, Sh.sz12, Sh.sz13, Sh.sz14, Sh.sz15, Sh.sz16, Nat.reduceSub, Nat.reduceLeDiff, reduceCtorEq, Bool.and_true, Bool.true_and, Bool.and_false, Bool.false_and, Bool.or_true, Bool.or_false, Bool.true_or, Bool.false_or, e]
  rw [bTuple_ref hcc]
end
end Law
end

section
namespace Law
open PySem PySem.Spec PyProof.Rows L2 Sh Sheet
open Classical
section
variable {S S' : Sto} {n m d t k : Nat} {pl : List Nat} {sh ch : List (List Int)} {x g y p : PyData} {e z : Str}
theorem same_eq (h : tm 7 x = true) : m__law_same [.d x, .d x] S = .ok (.d (.bool true)) S := by
  have e : ∀ n, mr__law_same n = mSameB n := fun n => by
    induction n with
    | zero => rfl
    | succ n ih => simp only [mr__law_same, ih]; rfl
  show mr__law_same 8 _ S = _
  rw [e]
  exact sameB_self h
theorem tm_rat {i : Int} : tm 7 (rat i t) = true := rfl
theorem tm_bp (Z : SH sh n m t) : tm 7 (nT (bp sh ch m)) = true := tm_nT (by simp [bp, gs]; have := Z.m4; omega)
/-- the plans that are looked through -/
def pls (sh ch : List (List Int)) (m d : Nat) : List (List Nat) := if m < 4 ∨ d < 4 then plans d m else [bp sh ch m]
theorem pls_mem (Z : SH sh n m t) (C : CH ch n d) {one : List Nat} (h : one ∈ pls sh ch m d) : one.length = m ∧ ∀ x ∈ one, x < d := by
  unfold pls at h
  split at h
  · exact plans_mem h
  · rw [List.mem_singleton] at h
    subst h
    exact ⟨(bp_PL Z C).len, (bp_PL Z C).lt⟩
theorem pls_len (Z : SH sh n m t) (C : CH ch n d) : (pls sh ch m d).length ≤ 1000 := by
  have hm := Z.m4; have hd := C.d4; have hd0 := C.d0
  unfold pls
  split
  · rw [plans_len]
    exact Nat.le_trans (Nat.pow_le_pow_left hd m) (Nat.le_trans (Nat.pow_le_pow_right (by decide) hm) (by decide))
  · simp
theorem pls_ne (Z : SH sh n m t) (C : CH ch n d) : (pls sh ch m d).map (tot (gs sh ch m)) ≠ [] := by
  have hb := best_mem (gs_row (sh := sh) (m := m) C) C.d0
  rw [show (gs sh ch m).length = m by simp [gs]] at hb
  intro e
  rw [List.map_eq_nil_iff] at e
  unfold pls at e
  split at e
  · rw [e] at hb; cases hb
  · cases e
theorem pls_best (Z : SH sh n m t) (C : CH ch n d) : (pls sh ch m d).getD (ax ((pls sh ch m d).map (tot (gs sh ch m)))) [] = bp sh ch m := by
  have hb := first_best (gs_row (sh := sh) (m := m) C) C.d0
  rw [show (gs sh ch m).length = m by simp [gs]] at hb
  unfold pls
  split
  · exact hb
  · have : ax ([bp sh ch m].map (tot (gs sh ch m))) = 0 := by
      have := ax_lt (g := [bp sh ch m].map (tot (gs sh ch m))) (by simp)
      simp at this; simpa using this
    rw [this]; rfl
/-! wrong objects -/
theorem pw_x (h : m_need_choice [.d g, .d y] [] = .exc ⟨e, none⟩ S') : m_plan_worth [.d g, .d y, .d p] S = .exc ⟨e, none⟩ S := by
  unfold m_plan_worth defM b_plan_worth l_plan_worth_2
  simp only [eVar_ap, eK_ap, aNil_ap, aCons_ap, eOp2_ap, eOp1_ap, eChain_ap, bOf_ap, bNot_ap, bAnd_ap, bOr_ap, eAnd_ap, eOr_ap, eNot_ap, eIf_ap, eTup_ap, eLst_ap, eLstM_ap, cNop_ap, cBreak_ap, cCont_ap, cSeq_ap, cExpr_ap, cSet_ap, cRet_ap, cRetN_ap, cIf_ap, cAsg_ap, cPar2_ap, cPar3_ap, bYes_ap, eCall_ap, oNone_ap, oSome_ap, eSl_ap, cFor_ap, eMtL_ap, aKw_ap, gNm_ap, gTp2, gTp3, gSb_ap, mkTup0, mkTup1, mkTup2, mkTup3, Out.bind, Out.ofO, exq, fin, callE_ap, List.getElem?_cons_succ, List.getElem?_cons_zero, List.set_cons_succ, List.set_cons_zero, List.map_cons, List.map_nil, List.replicate, List.cons_append, List.nil_append, List.length_cons, List.length_nil, Bool.not_true, Bool.not_false, if_true, if_false, ite_true, ite_false, reduceIte, Bool.false_eq_true, Bool.true_eq_false, Nat.reduceAdd, unD, Option.map_some, Nat.zero_le, Sh.sz1, Sh.sz2, Sh.sz3, Sh.sz4, Sh.sz5, Sh.sz6, Sh.sz7, Sh.sz8, Sh.sz9, Sh.sz10, Sh.sz11, Sh.sz12, Sh.sz13, Sh.sz14, Sh.sz15, Sh.sz16, Nat.reduceSub, Nat.reduceLeDiff, reduceCtorEq, Bool.and_true, Bool.true_and, Bool.and_false, Bool.false_and, Bool.or_true, Bool.or_false, Bool.true_or, Bool.false_or, callP_x h]
theorem bp_x (h : m_need_choice [.d g, .d y] [] = .exc ⟨e, none⟩ S') : m_best_plan [.d g, .d y] S = .exc ⟨e, none⟩ S := by
  unfold m_best_plan defM b_best_plan
  simp only [eVar_ap, eK_ap, aNil_ap, aCons_ap, eOp2_ap, eOp1_ap, eChain_ap, bOf_ap, bNot_ap, bAnd_ap, bOr_ap, eAnd_ap, eOr_ap, eNot_ap, eIf_ap, eTup_ap, eLst_ap, eLstM_ap, cNop_ap, cBreak_ap, cCont_ap, cSeq_ap, cExpr_ap, cSet_ap, cRet_ap, cRetN_ap, cIf_ap, cAsg_ap, cPar2_ap, cPar3_ap, bYes_ap, eCall_ap, oNone_ap, oSome_ap, eSl_ap, cFor_ap, eMtL_ap, aKw_ap, gNm_ap, gTp2, gTp3, gSb_ap, mkTup0, mkTup1, mkTup2, mkTup3, Out.bind, Out.ofO, exq, fin, callE_ap, List.getElem?_cons_succ, List.getElem?_cons_zero, List.set_cons_succ, List.set_cons_zero, List.map_cons, List.map_nil, List.replicate, List.cons_append, List.nil_append, List.length_cons, List.length_nil, Bool.not_true, Bool.not_false, if_true, if_false, ite_true, ite_false, reduceIte, Bool.false_eq_true, Bool.true_eq_false, Nat.reduceAdd, unD, Option.map_some, Nat.zero_le, Sh.sz1, Sh.sz2, Sh.sz3, Sh.sz4, Sh.sz5, Sh.sz6, Sh.sz7, Sh.sz8, Sh.sz9, Sh.sz10, Sh.sz11, Sh.sz12, Sh.sz13, Sh.sz14, Sh.sz15, Sh.sz16, Nat.reduceSub, Nat.reduceLeDiff, reduceCtorEq, Bool.and_true, Bool.true_and, Bool.and_false, Bool.false_and, Bool.or_true, Bool.or_false, Bool.true_or, Bool.false_or, callP_x h]
theorem w_x (h : m_need_choice [.d g, .d y] [] = .exc ⟨e, none⟩ S') : m_worth [.d g, .d y] S = .exc ⟨e, none⟩ S := by
  unfold m_worth defM b_worth
  simp only [eVar_ap, eK_ap, aNil_ap, aCons_ap, eOp2_ap, eOp1_ap, eChain_ap, bOf_ap, bNot_ap, bAnd_ap, bOr_ap, eAnd_ap, eOr_ap, eNot_ap, eIf_ap, eTup_ap, eLst_ap, eLstM_ap, cNop_ap, cBreak_ap, cCont_ap, cSeq_ap, cExpr_ap, cSet_ap, cRet_ap, cRetN_ap, cIf_ap, cAsg_ap, cPar2_ap, cPar3_ap, bYes_ap, eCall_ap, oNone_ap, oSome_ap, eSl_ap, cFor_ap, eMtL_ap, aKw_ap, gNm_ap, gTp2, gTp3, gSb_ap, mkTup0, mkTup1, mkTup2, mkTup3, Out.bind, Out.ofO, exq, fin, callE_ap, List.getElem?_cons_succ, List.getElem?_cons_zero, List.set_cons_succ, List.set_cons_zero, List.map_cons, List.map_nil, List.replicate, List.cons_append, List.nil_append, List.length_cons, List.length_nil, Bool.not_true, Bool.not_false, if_true, if_false, ite_true, ite_false, reduceIte, Bool.false_eq_true, Bool.true_eq_false, Nat.reduceAdd, unD, Option.map_some, Nat.zero_le, Sh.sz1, Sh.sz2, Sh.sz3, Sh.sz4, Sh.sz5, Sh.sz6, Sh.sz7, Sh.sz8, Sh.sz9, Sh.sz10, Sh.sz11, Sh.sz12, Sh.sz13, Sh.sz14, Sh.sz15, Sh.sz16, Nat.reduceSub, Nat.reduceLeDiff, reduceCtorEq, Bool.and_true, Bool.true_and, Bool.and_false, Bool.false_and, Bool.or_true, Bool.or_false, Bool.true_or, Bool.false_or, callP_x h]
theorem catch_z (hn : (e, z) ∈ [(("BadSheet" : Str), ("sheet" : Str)), ("BadChoice", "choice"), ("BadPlan", "plan")]) (ρ : Rho) : catchL (subL subT) ⟨e, none⟩ ρ S [("BadSheet", cSet 4 (eStr "sheet")), ("BadChoice", cSet 4 (eStr "choice")), ("BadPlan", cSet 4 (eStr "plan"))] = .ok (.nx (ρ.set 4 (some (.d (.str z))))) S := by
  simp only [List.mem_cons, List.not_mem_nil, or_false, Prod.mk.injEq] at hn
  rcases hn with ⟨rfl, rfl⟩ | ⟨rfl, rfl⟩ | ⟨rfl, rfl⟩ <;> rfl
theorem word_x {k : Nat} (hk : k < 3) (hn : (e, z) ∈ [(("BadSheet" : Str), ("sheet" : Str)), ("BadChoice", "choice"), ("BadPlan", "plan")]) (h : m_need_choice [.d g, .d y] [] = .exc ⟨e, none⟩ S') : m__law_word [.d (.int (k : Int)), .d g, .d y, .d p] S = .ok (.d (.str z)) S := by
  unfold m__law_word defM b__law_word
  have hk' : k = 0 ∨ k = 1 ∨ k = 2 := by omega
  rcases hk' with rfl | rfl | rfl
  · simp only [eVar_ap, eK_ap, aNil_ap, aCons_ap, eOp2_ap, eOp1_ap, eChain_ap, bOf_ap, bNot_ap, bAnd_ap, bOr_ap, eAnd_ap, eOr_ap, eNot_ap, eIf_ap, eTup_ap, eLst_ap, eLstM_ap, cNop_ap, cBreak_ap, cCont_ap, cSeq_ap, cExpr_ap, cSet_ap, cRet_ap, cRetN_ap, cIf_ap, cAsg_ap, cPar2_ap, cPar3_ap, bYes_ap, eCall_ap, oNone_ap, oSome_ap, eSl_ap, cFor_ap, eMtL_ap, aKw_ap, gNm_ap, gTp2, gTp3, gSb_ap, mkTup0, mkTup1, mkTup2, mkTup3, Out.bind, Out.ofO, exq, fin, callE_ap, List.getElem?_cons_succ, List.getElem?_cons_zero, List.set_cons_succ, List.set_cons_zero, List.map_cons, List.map_nil, List.replicate, List.cons_append, List.nil_append, List.length_cons, List.length_nil, Bool.not_true, Bool.not_false, if_true, if_false, ite_true, ite_false, reduceIte, Bool.false_eq_true, Bool.true_eq_false, Nat.reduceAdd, unD, Option.map_some, Nat.zero_le, Sh.sz1, Sh.sz2, Sh.sz3, Sh.sz4, Sh.sz5, Sh.sz6, Sh.sz7, Sh.sz8, Sh.sz9, Sh.sz10, Sh.sz11, Sh.sz12, Sh.sz13, Sh.sz14, Sh.sz15, Sh.sz16, Nat.reduceSub, Nat.reduceLeDiff, reduceCtorEq, Bool.and_true, Bool.true_and, Bool.and_false, Bool.false_and, Bool.or_true, Bool.or_false, Bool.true_or, Bool.false_or, cTry_ap, opEq_int, show (((0 : Nat) : Int) == 0) = true from rfl, callP_x (pw_x (S := []) h), catch_z hn]
  · simp only [eVar_ap, eK_ap, aNil_ap, aCons_ap, eOp2_ap, eOp1_ap, eChain_ap, bOf_ap, bNot_ap, bAnd_ap, bOr_ap, eAnd_ap, eOr_ap, eNot_ap, eIf_ap, eTup_ap, eLst_ap, eLstM_ap, cNop_ap, cBreak_ap, cCont_ap, cSeq_ap, cExpr_ap, cSet_ap, cRet_ap, cRetN_ap, cIf_ap, cAsg_ap, cPar2_ap, cPar3_ap, bYes_ap, eCall_ap, oNone_ap, oSome_ap, eSl_ap, cFor_ap, eMtL_ap, aKw_ap, gNm_ap, gTp2, gTp3, gSb_ap, mkTup0, mkTup1, mkTup2, mkTup3, Out.bind, Out.ofO, exq, fin, callE_ap, List.getElem?_cons_succ, List.getElem?_cons_zero, List.set_cons_succ, List.set_cons_zero, List.map_cons, List.map_nil, List.replicate, List.cons_append, List.nil_append, List.length_cons, List.length_nil, Bool.not_true, Bool.not_false, if_true, if_false, ite_true, ite_false, reduceIte, Bool.false_eq_true, Bool.true_eq_false, Nat.reduceAdd, unD, Option.map_some, Nat.zero_le, Sh.sz1, Sh.sz2, Sh.sz3, Sh.sz4, Sh.sz5, Sh.sz6, Sh.sz7, Sh.sz8, Sh.sz9, Sh.sz10, Sh.sz11, Sh.sz12, Sh.sz13, Sh.sz14, Sh.sz15, Sh.sz16, Nat.reduceSub, Nat.reduceLeDiff, reduceCtorEq, Bool.and_true, Bool.true_and, Bool.and_false, Bool.false_and, Bool.or_true, Bool.or_false, Bool.true_or, Bool.false_or, cTry_ap, opEq_int, show (((1 : Nat) : Int) == 0) = false from rfl, show (((1 : Nat) : Int) == 1) = true from rfl, callP_x (bp_x (S := []) h), catch_z hn]
  · simp only [eVar_ap, eK_ap, aNil_ap, aCons_ap, eOp2_ap, eOp1_ap, eChain_ap, bOf_ap, bNot_ap, bAnd_ap, bOr_ap, eAnd_ap, eOr_ap, eNot_ap, eIf_ap, eTup_ap, eLst_ap, eLstM_ap, cNop_ap, cBreak_ap, cCont_ap, cSeq_ap, cExpr_ap, cSet_ap, cRet_ap, cRetN_ap, cIf_ap, cAsg_ap, cPar2_ap, cPar3_ap, bYes_ap, eCall_ap, oNone_ap, oSome_ap, eSl_ap, cFor_ap, eMtL_ap, aKw_ap, gNm_ap, gTp2, gTp3, gSb_ap, mkTup0, mkTup1, mkTup2, mkTup3, Out.bind, Out.ofO, exq, fin, callE_ap, List.getElem?_cons_succ, List.getElem?_cons_zero, List.set_cons_succ, List.set_cons_zero, List.map_cons, List.map_nil, List.replicate, List.cons_append, List.nil_append, List.length_cons, List.length_nil, Bool.not_true, Bool.not_false, if_true, if_false, ite_true, ite_false, reduceIte, Bool.false_eq_true, Bool.true_eq_false, Nat.reduceAdd, unD, Option.map_some, Nat.zero_le, Sh.sz1, Sh.sz2, Sh.sz3, Sh.sz4, Sh.sz5, Sh.sz6, Sh.sz7, Sh.sz8, Sh.sz9, Sh.sz10, Sh.sz11, Sh.sz12, Sh.sz13, Sh.sz14, Sh.sz15, Sh.sz16, Nat.reduceSub, Nat.reduceLeDiff, reduceCtorEq, Bool.and_true, Bool.true_and, Bool.and_false, Bool.false_and, Bool.or_true, Bool.or_false, Bool.true_or, Bool.false_or, cTry_ap, opEq_int, show (((2 : Nat) : Int) == 0) = false from rfl, show (((2 : Nat) : Int) == 1) = false from rfl, callP_x (w_x (S := []) h), catch_z hn]
theorem word_p (h : m_plan_worth [.d g, .d y, .d p] [] = .exc ⟨"BadPlan", none⟩ S') : m__law_word [.d (.int 0), .d g, .d y, .d p] S = .ok (.d (.str "plan")) S := by
  unfold m__law_word defM b__law_word
  simp only [eVar_ap, eK_ap, aNil_ap, aCons_ap, eOp2_ap, eOp1_ap, eChain_ap, bOf_ap, bNot_ap, bAnd_ap, bOr_ap, eAnd_ap, eOr_ap, eNot_ap, eIf_ap, eTup_ap, eLst_ap, eLstM_ap, cNop_ap, cBreak_ap, cCont_ap, cSeq_ap, cExpr_ap, cSet_ap, cRet_ap, cRetN_ap, cIf_ap, cAsg_ap, cPar2_ap, cPar3_ap, bYes_ap, eCall_ap, oNone_ap, oSome_ap, eSl_ap, cFor_ap, eMtL_ap, aKw_ap, gNm_ap, gTp2, gTp3, gSb_ap, mkTup0, mkTup1, mkTup2, mkTup3, Out.bind, Out.ofO, exq, fin, callE_ap, List.getElem?_cons_succ, List.getElem?_cons_zero, List.set_cons_succ, List.set_cons_zero, List.map_cons, List.map_nil, List.replicate, List.cons_append, List.nil_append, List.length_cons, List.length_nil, Bool.not_true, Bool.not_false, if_true, if_false, ite_true, ite_false, reduceIte, Bool.false_eq_true, Bool.true_eq_false, Nat.reduceAdd, unD, Option.map_some, Nat.zero_le, Sh.sz1, Sh.sz2, Sh.sz3, Sh.sz4, Sh.sz5, Sh.sz6, Sh.sz7, Sh.sz8, Sh.sz9, Sh.sz10, Sh.sz11, Sh.sz12, Sh.sz13, Sh.sz14, Sh.sz15, Sh.sz16, Nat.reduceSub, Nat.reduceLeDiff, reduceCtorEq, Bool.and_true, Bool.true_and, Bool.and_false, Bool.false_and, Bool.or_true, Bool.or_false, Bool.true_or, Bool.false_or, cTry_ap, opEq_int, show ((0 : Int) == 0) = true from rfl, callP_x h, catch_z (e := "BadPlan") (z := "plan") (by simp)]
/-- wrong sheets -/
def odds (sh : List (List Int)) (m : Nat) : List PyData := [.none, .tuple [], .tuple [.tuple []], .tuple (sh.map zT ++ [.tuple ((sh.getD 0 []).map .int ++ [.int 0])]), .tuple (sh.map zT ++ [.tuple (List.replicate m (.int 0))]), .list (sh.map zT), .tuple [.tuple [.int (-1), .int 2]], .tuple [.tuple [.bool true]], .tuple [.tuple [.int 0]], .tuple [.tuple [.int 1001]], .tuple [.tuple [.int 1, .int 1, .int 1, .int 1, .int 1, .int 1, .int 1]], .tuple [.tuple [.int 1], .tuple [.int 1], .tuple [.int 1], .tuple [.int 1], .tuple [.int 1], .tuple [.int 1], .tuple [.int 1]]]
theorem sh_flat (Z : SH sh n m t) {r : List Int} (hr : r.length ≤ 5) : ((sh ++ [r]).flatMap id).length ≤ 1000 := by
  have h4 := Z.m4; have hl := Z.len; have hn := Z.n4
  have hf := flat_len (rs := sh) (m := m) fun r hr => by rw [(Z.row r hr).1]; exact Nat.le_refl _
  have : sh.length * m ≤ 4 * 4 := Nat.mul_le_mul (by omega) (by omega)
  rw [List.flatMap_append, List.length_append]
  have : ([r].flatMap id).length = r.length := by simp
  omega
theorem odd_bad (Z : SH sh n m t) (h : x ∈ odds sh m) : m_is_sheet [.d x] S = .ok (.d (.bool false)) S := by
  have h4 := Z.m4; have hl := Z.len; have hn := Z.n4; have hn0 := Z.n0; have ht := Z.t0
  have conc : ∀ rs : List (List Int), (rs.flatMap id).length ≤ 1000 → rs.length ≤ 1000 → shOk rs = false → m_is_sheet [.d (zTT rs)] S = .ok (.d (.bool false)) S := fun rs h1 h2 h3 => by rw [sheet_int h1 h2, h3]
  have h0 := Z.row _ Z.mem0
  simp only [odds, List.mem_cons, List.not_mem_nil, or_false] at h
  rcases h with rfl | rfl | rfl | rfl | rfl | rfl | rfl | rfl | rfl | rfl | rfl | rfl
  · exact sheet_kind rfl
  · exact conc [] (by decide) (by decide) rfl
  · exact conc [[]] (by decide) (by decide) rfl
  · have e : (PyData.tuple (sh.map zT ++ [.tuple ((sh.getD 0 []).map .int ++ [.int 0])])) = zTT (sh ++ [sh.getD 0 [] ++ [0]]) := by simp [zTT, zT]
    rw [e]
    refine conc _ (sh_flat Z (by rw [List.length_append, h0.1]; simp; omega)) (by simp; omega) ?_
    have hd : decide (1 < dN (lns (sh ++ [sh.getD 0 [] ++ [0]]))) = true := decide_eq_true (dN_gt1 (a := (m : Int)) (b := (m : Int) + 1) (by
      simp only [lns, List.map_append, List.mem_append]
      exact .inl (List.mem_map.2 ⟨_, Z.mem0, by rw [h0.1]⟩)) (by
      simp only [lns, List.map_append, List.mem_append]
      exact .inr (by simp only [List.map_cons, List.map_nil, List.mem_singleton, List.length_append, h0.1]; simp)) (by omega))
    simp only [shOk, hd, Bool.true_or, Bool.not_true, Bool.false_and, Bool.and_false]
  · have e : (PyData.tuple (sh.map zT ++ [.tuple (List.replicate m (.int 0))])) = zTT (sh ++ [List.replicate m 0]) := by simp [zTT, zT]
    rw [e]
    refine conc _ (sh_flat Z (by simp; omega)) (by simp; omega) ?_
    have hd : decide (1 < dN (sms (sh ++ [List.replicate m 0]))) = true := decide_eq_true (dN_gt1 (a := (t : Int)) (b := 0) (by
      simp only [sms, List.map_append, List.mem_append]
      exact .inl (List.mem_map.2 ⟨_, Z.mem0, by rw [h0.2.2]⟩)) (by
      simp only [sms, List.map_append, List.mem_append]
      exact .inr (by simp)) (by omega))
    simp only [shOk, hd, Bool.or_true, Bool.not_true, Bool.false_and, Bool.and_false]
  · exact sheet_kind rfl
  · exact conc [[-1, 2]] (by decide) (by decide) (by decide +kernel)
  · exact sheet_true
  · exact conc [[0]] (by decide) (by decide) (by decide +kernel)
  · exact conc [[1001]] (by decide) (by decide) (by decide +kernel)
  · exact conc [[1, 1, 1, 1, 1, 1, 1]] (by decide) (by decide) (by decide +kernel)
  · exact conc [[1], [1], [1], [1], [1], [1], [1]] (by decide) (by decide) (by decide +kernel)
/-- wrong choices -/
def wrongs (ch : List (List Int)) (n : Nat) : List PyData := [.none, .tuple [], .tuple (ch.map zT ++ [.tuple (List.replicate (n + 1) (.int 0))]), .list (ch.map zT), .tuple [zT (ch.getD 0 []), zT (ch.getD 0 []), zT (ch.getD 0 []), zT (ch.getD 0 []), zT (ch.getD 0 []), zT (ch.getD 0 []), zT (ch.getD 0 []), zT (ch.getD 0 []), zT (ch.getD 0 [])], .tuple [.tuple (List.replicate n (.int 1000001))], .tuple [.tuple (List.replicate n .none)], .tuple [.tuple (List.replicate n (.bool true))]]
theorem CH.mem0 (C : CH ch n d) : ch.getD 0 [] ∈ ch := mem_getD (by have := C.len; have := C.d0; omega)
theorem rep_sm {v : PyData} (hv : leafOk v = true) {q : Nat} (hq : q ≤ 1000) : sm 1 (.tuple (List.replicate q v)) = true := sm_tup.2 ⟨by simpa using hq, fun x hx => by rw [List.eq_of_mem_replicate hx]; exact sm_leaf hv⟩
theorem wrong_bad (C : CH ch n d) (hn : 1 ≤ n) (h : x ∈ wrongs ch n) : m_are_deeds [.d (.int (n : Int)), .d x, .d (.int 8), .d (.int 1000000)] S = .ok (.d (.bool false)) S := by
  have hl := C.len; have hd := C.d4; have hd0 := C.d0; have hn4 := C.n4
  have h0 := (C.row _ C.mem0).1
  have hrep : ∀ v : PyData, leafOk v = true → isI v = false → m_are_deeds [.d (.int (n : Int)), .d (.tuple [.tuple (List.replicate n v)]), .d (.int 8), .d (.int 1000000)] S = .ok (.d (.bool false)) S := fun v h1 h2 =>
    deeds_rows (R := [List.replicate n v]) ((Sq.one (rep_sm h1 (by omega))).tup) (by simp) (by simp) (by
      obtain ⟨q, rfl⟩ : ∃ q, n = q + 1 := ⟨n - 1, by omega⟩
      simp [rowI, h2])
  simp only [wrongs, List.mem_cons, List.not_mem_nil, or_false] at h
  rcases h with rfl | rfl | rfl | rfl | rfl | rfl | rfl | rfl
  · exact deeds_kind rfl
  · exact deeds_len rfl (.inl rfl)
  · have e : (PyData.tuple (ch.map zT ++ [.tuple (List.replicate (n + 1) (.int 0))])) = rTT (ch.map (fun r => r.map PyData.int) ++ [List.replicate (n + 1) (.int 0)]) := by simp [rTT, zT, Function.comp_def]
    rw [e]
    refine deeds_rows (n := n) ?_ (by simp) (by simp; omega) ?_
    · rw [← e]
      refine sm_tup.2 ⟨by simp; omega, fun x hx => ?_⟩
      rcases List.mem_append.1 hx with h | h
      · obtain ⟨r, hr, rfl⟩ := List.mem_map.1 h
        exact sm_zT (by rw [(C.row r hr).1]; omega)
      · rw [List.mem_singleton] at h
        subst h
        exact rep_sm rfl (by omega)
    · rw [List.all_append]
      have : ([List.replicate (n + 1) (PyData.int 0)].all (rowI n)) = false := by simp [rowI]
      rw [this, Bool.and_false]
  · exact deeds_kind rfl
  · refine deeds_len ?_ (.inr (by simp))
    refine sm_tup.2 ⟨by simp, fun x hx => ?_⟩
    simp only [List.mem_cons, List.not_mem_nil, or_false, or_self] at hx
    subst hx
    exact sm_zT (by rw [h0]; omega)
  · have e : (PyData.tuple [.tuple (List.replicate n (.int 1000001))]) = zTT [List.replicate n 1000001] := by simp [zTT, zT]
    rw [e, deeds_int (rs := [List.replicate n 1000001]) (by rw [← e]; exact (Sq.one (rep_sm rfl (by omega))).tup) (by simp) (by simp) (by simp; omega) (by simp)]
    congr 3
    obtain ⟨q, rfl⟩ : ∃ q, n = q + 1 := ⟨n - 1, by omega⟩
    simp [inB, List.replicate_succ]
  · exact hrep .none rfl rfl
  · exact hrep (.bool true) rfl rfl
/-- wrong plans -/
def bads (pl : List Nat) (m d : Nat) : List PyData := [.none, .tuple (pl.map nI ++ [.int 0]), .tuple ((pl.map nI).drop 1), .tuple (List.replicate m (.int (d : Int))), .tuple (List.replicate m (.int (-1))), .tuple (List.replicate m (.bool true)), .list (pl.map nI)]
def planBad (m d : Nat) : PyData → Bool
  | .tuple xs => !(decide (xs.length = m) && xs.all fun x => Wn.inR x 0 ((d : Int) - 1))
  | _ => true
theorem plan_x (Z : SH sh n m t) (C : CH ch n d) (h : planBad m d x = true) : m_plan_worth [.d (zTT sh), .d (zTT ch), .d x] S = .exc ⟨"BadPlan", none⟩ S := by
  have hm4 := Z.m4
  have e4 : ∀ p4 p5 p6 : Option W, l_plan_worth_4 [some (.d (zTT sh)), some (.d (zTT ch)), some (.d x), some (.d (.int (m : Int))), p4, p5, p6] S = .ok (.ex ⟨"BadPlan", none⟩ [some (.d (zTT sh)), some (.d (zTT ch)), some (.d x), some (.d (.int (m : Int))), p4, p5, p6]) S := fun p4 p5 p6 => by
    unfold l_plan_worth_4 q_plan_worth_0
    simp only [eVar_ap, eK_ap, aNil_ap, aCons_ap, eOp2_ap, eOp1_ap, eChain_ap, bOf_ap, bNot_ap, bAnd_ap, bOr_ap, eAnd_ap, eOr_ap, eNot_ap, eIf_ap, eTup_ap, eLst_ap, eLstM_ap, cNop_ap, cBreak_ap, cCont_ap, cSeq_ap, cExpr_ap, cSet_ap, cRet_ap, cRetN_ap, cIf_ap, cAsg_ap, cPar2_ap, cPar3_ap, bYes_ap, eCall_ap, oNone_ap, oSome_ap, eSl_ap, cFor_ap, eMtL_ap, aKw_ap, gNm_ap, gTp2, gTp3, gSb_ap, mkTup0, mkTup1, mkTup2, mkTup3, Out.bind, Out.ofO, exq, fin, callE_ap, List.getElem?_cons_succ, List.getElem?_cons_zero, List.set_cons_succ, List.set_cons_zero, List.map_cons, List.map_nil, List.replicate, List.cons_append, List.nil_append, List.length_cons, List.length_nil, Bool.not_true, Bool.not_false, if_true, if_false, ite_true, ite_false, reduceIte, Bool.false_eq_true, Bool.true_eq_false, Nat.reduceAdd, unD, Option.map_some, Nat.zero_le, Sh.sz1, Sh.sz2, Sh.sz3, Sh.sz4, Sh.sz5, Sh.sz6, Sh.sz7, Sh.sz8, Sh.sz9, Sh.sz10, Sh.sz11, Sh.sz12, Sh.sz13, Sh.sz14, Sh.sz15, Sh.sz16, Nat.reduceSub, Nat.reduceLeDiff, reduceCtorEq, Bool.and_true, Bool.true_and, Bool.and_false, Bool.false_and, Bool.or_true, Bool.or_false, Bool.true_or, Bool.false_or, is_row_eq, cRaise_ap]
    rw [callP_d (Wn.is_row_ok (S := []) (x := x) (lo := m) (hi := m))]
    cases x with
    | tuple xs =>
      rw [Wn.rowOk_n]
      simp only [planBad] at h
      by_cases hl : xs.length = m
      · rw [show decide (xs.length = m) = true from decide_eq_true hl] at h ⊢
        simp only [eVar_ap, eK_ap, aNil_ap, aCons_ap, eOp2_ap, eOp1_ap, eChain_ap, bOf_ap, bNot_ap, bAnd_ap, bOr_ap, eAnd_ap, eOr_ap, eNot_ap, eIf_ap, eTup_ap, eLst_ap, eLstM_ap, cNop_ap, cBreak_ap, cCont_ap, cSeq_ap, cExpr_ap, cSet_ap, cRet_ap, cRetN_ap, cIf_ap, cAsg_ap, cPar2_ap, cPar3_ap, bYes_ap, eCall_ap, oNone_ap, oSome_ap, eSl_ap, cFor_ap, eMtL_ap, aKw_ap, gNm_ap, gTp2, gTp3, gSb_ap, mkTup0, mkTup1, mkTup2, mkTup3, Out.bind, Out.ofO, exq, fin, callE_ap, List.getElem?_cons_succ, List.getElem?_cons_zero, List.set_cons_succ, List.set_cons_zero, List.map_cons, List.map_nil, List.replicate, List.cons_append, List.nil_append, List.length_cons, List.length_nil, Bool.not_true, Bool.not_false, if_true, if_false, ite_true, ite_false, reduceIte, Bool.false_eq_true, Bool.true_eq_false, Nat.reduceAdd, unD, Option.map_some, Nat.zero_le, Sh.sz1, Sh.sz2, Sh.sz3, Sh.sz4, Sh.sz5, Sh.sz6, Sh.sz7, Sh.sz8, Sh.sz9, Sh.sz10, Sh.sz11, Sh.sz12, Sh.sz13, Sh.sz14, Sh.sz15, Sh.sz16, Nat.reduceSub, Nat.reduceLeDiff, reduceCtorEq, Bool.and_true, Bool.true_and, Bool.and_false, Bool.false_and, Bool.or_true, Bool.or_false, Bool.true_or, Bool.false_or]
        rw [eLc_y xs W.d (fun k => .bool (Wn.inR k 0 ((d : Int) - 1))) (grd := fun _ => True) (iSq_tup rfl) trivial (len_le (by omega)) fun k hk => ⟨_, rfl, ?_⟩]
        · simp only [eVar_ap, eK_ap, aNil_ap, aCons_ap, eOp2_ap, eOp1_ap, eChain_ap, bOf_ap, bNot_ap, bAnd_ap, bOr_ap, eAnd_ap, eOr_ap, eNot_ap, eIf_ap, eTup_ap, eLst_ap, eLstM_ap, cNop_ap, cBreak_ap, cCont_ap, cSeq_ap, cExpr_ap, cSet_ap, cRet_ap, cRetN_ap, cIf_ap, cAsg_ap, cPar2_ap, cPar3_ap, bYes_ap, eCall_ap, oNone_ap, oSome_ap, eSl_ap, cFor_ap, eMtL_ap, aKw_ap, gNm_ap, gTp2, gTp3, gSb_ap, mkTup0, mkTup1, mkTup2, mkTup3, Out.bind, Out.ofO, exq, fin, callE_ap, List.getElem?_cons_succ, List.getElem?_cons_zero, List.set_cons_succ, List.set_cons_zero, List.map_cons, List.map_nil, List.replicate, List.cons_append, List.nil_append, List.length_cons, List.length_nil, Bool.not_true, Bool.not_false, if_true, if_false, ite_true, ite_false, reduceIte, Bool.false_eq_true, Bool.true_eq_false, Nat.reduceAdd, unD, Option.map_some, Nat.zero_le, Sh.sz1, Sh.sz2, Sh.sz3, Sh.sz4, Sh.sz5, Sh.sz6, Sh.sz7, Sh.sz8, Sh.sz9, Sh.sz10, Sh.sz11, Sh.sz12, Sh.sz13, Sh.sz14, Sh.sz15, Sh.sz16, Nat.reduceSub, Nat.reduceLeDiff, reduceCtorEq, Bool.and_true, Bool.true_and, Bool.and_false, Bool.false_and, Bool.or_true, Bool.or_false, Bool.true_or, Bool.false_or, bAll_map]
          rw [Bool.true_and] at h
          simp only [Bool.not_eq_true'] at h
          rw [h]
          simp only [eVar_ap, eK_ap, aNil_ap, aCons_ap, eOp2_ap, eOp1_ap, eChain_ap, bOf_ap, bNot_ap, bAnd_ap, bOr_ap, eAnd_ap, eOr_ap, eNot_ap, eIf_ap, eTup_ap, eLst_ap, eLstM_ap, cNop_ap, cBreak_ap, cCont_ap, cSeq_ap, cExpr_ap, cSet_ap, cRet_ap, cRetN_ap, cIf_ap, cAsg_ap, cPar2_ap, cPar3_ap, bYes_ap, eCall_ap, oNone_ap, oSome_ap, eSl_ap, cFor_ap, eMtL_ap, aKw_ap, gNm_ap, gTp2, gTp3, gSb_ap, mkTup0, mkTup1, mkTup2, mkTup3, Out.bind, Out.ofO, exq, fin, callE_ap, List.getElem?_cons_succ, List.getElem?_cons_zero, List.set_cons_succ, List.set_cons_zero, List.map_cons, List.map_nil, List.replicate, List.cons_append, List.nil_append, List.length_cons, List.length_nil, Bool.not_true, Bool.not_false, if_true, if_false, ite_true, ite_false, reduceIte, Bool.false_eq_true, Bool.true_eq_false, Nat.reduceAdd, unD, Option.map_some, Nat.zero_le, Sh.sz1, Sh.sz2, Sh.sz3, Sh.sz4, Sh.sz5, Sh.sz6, Sh.sz7, Sh.sz8, Sh.sz9, Sh.sz10, Sh.sz11, Sh.sz12, Sh.sz13, Sh.sz14, Sh.sz15, Sh.sz16, Nat.reduceSub, Nat.reduceLeDiff, reduceCtorEq, Bool.and_true, Bool.true_and, Bool.and_false, Bool.false_and, Bool.or_true, Bool.or_false, Bool.true_or, Bool.false_or]
        · simp only [eVar_ap, eK_ap, aNil_ap, aCons_ap, eOp2_ap, eOp1_ap, eChain_ap, bOf_ap, bNot_ap, bAnd_ap, bOr_ap, eAnd_ap, eOr_ap, eNot_ap, eIf_ap, eTup_ap, eLst_ap, eLstM_ap, cNop_ap, cBreak_ap, cCont_ap, cSeq_ap, cExpr_ap, cSet_ap, cRet_ap, cRetN_ap, cIf_ap, cAsg_ap, cPar2_ap, cPar3_ap, bYes_ap, eCall_ap, oNone_ap, oSome_ap, eSl_ap, cFor_ap, eMtL_ap, aKw_ap, gNm_ap, gTp2, gTp3, gSb_ap, mkTup0, mkTup1, mkTup2, mkTup3, Out.bind, Out.ofO, exq, fin, callE_ap, List.getElem?_cons_succ, List.getElem?_cons_zero, List.set_cons_succ, List.set_cons_zero, List.map_cons, List.map_nil, List.replicate, List.cons_append, List.nil_append, List.length_cons, List.length_nil, Bool.not_true, Bool.not_false, if_true, if_false, ite_true, ite_false, reduceIte, Bool.false_eq_true, Bool.true_eq_false, Nat.reduceAdd, unD, Option.map_some, Nat.zero_le, Sh.sz1, Sh.sz2, Sh.sz3, Sh.sz4, Sh.sz5, Sh.sz6, Sh.sz7, Sh.sz8, Sh.sz9, Sh.sz10, Sh.sz11, Sh.sz12, Sh.sz13, Sh.sz14, Sh.sz15, Sh.sz16, Nat.reduceSub, Nat.reduceLeDiff, reduceCtorEq, Bool.and_true, Bool.true_and, Bool.and_false, Bool.false_and, Bool.or_true, Bool.or_false, Bool.true_or, Bool.false_or, wipeR, bLen_tup, List.length_map, C.len, opSub_int, within_eq]
          exact callP_d (Wn.within_ok (S := []) (x := k) (lo := 0) (hi := (d : Int) - 1))
      · rw [show decide (xs.length = m) = false from decide_eq_false hl]
        simp only [eVar_ap, eK_ap, aNil_ap, aCons_ap, eOp2_ap, eOp1_ap, eChain_ap, bOf_ap, bNot_ap, bAnd_ap, bOr_ap, eAnd_ap, eOr_ap, eNot_ap, eIf_ap, eTup_ap, eLst_ap, eLstM_ap, cNop_ap, cBreak_ap, cCont_ap, cSeq_ap, cExpr_ap, cSet_ap, cRet_ap, cRetN_ap, cIf_ap, cAsg_ap, cPar2_ap, cPar3_ap, bYes_ap, eCall_ap, oNone_ap, oSome_ap, eSl_ap, cFor_ap, eMtL_ap, aKw_ap, gNm_ap, gTp2, gTp3, gSb_ap, mkTup0, mkTup1, mkTup2, mkTup3, Out.bind, Out.ofO, exq, fin, callE_ap, List.getElem?_cons_succ, List.getElem?_cons_zero, List.set_cons_succ, List.set_cons_zero, List.map_cons, List.map_nil, List.replicate, List.cons_append, List.nil_append, List.length_cons, List.length_nil, Bool.not_true, Bool.not_false, if_true, if_false, ite_true, ite_false, reduceIte, Bool.false_eq_true, Bool.true_eq_false, Nat.reduceAdd, unD, Option.map_some, Nat.zero_le, Sh.sz1, Sh.sz2, Sh.sz3, Sh.sz4, Sh.sz5, Sh.sz6, Sh.sz7, Sh.sz8, Sh.sz9, Sh.sz10, Sh.sz11, Sh.sz12, Sh.sz13, Sh.sz14, Sh.sz15, Sh.sz16, Nat.reduceSub, Nat.reduceLeDiff, reduceCtorEq, Bool.and_true, Bool.true_and, Bool.and_false, Bool.false_and, Bool.or_true, Bool.or_false, Bool.true_or, Bool.false_or]
    | _ => simp only [Wn.rowOk] <;> simp only [eVar_ap, eK_ap, aNil_ap, aCons_ap, eOp2_ap, eOp1_ap, eChain_ap, bOf_ap, bNot_ap, bAnd_ap, bOr_ap, eAnd_ap, eOr_ap, eNot_ap, eIf_ap, eTup_ap, eLst_ap, eLstM_ap, cNop_ap, cBreak_ap, cCont_ap, cSeq_ap, cExpr_ap, cSet_ap, cRet_ap, cRetN_ap, cIf_ap, cAsg_ap, cPar2_ap, cPar3_ap, bYes_ap, eCall_ap, oNone_ap, oSome_ap, eSl_ap, cFor_ap, eMtL_ap, aKw_ap, gNm_ap, gTp2, gTp3, gSb_ap, mkTup0, mkTup1, mkTup2, mkTup3, Out.bind, Out.ofO, exq, fin, callE_ap, List.getElem?_cons_succ, List.getElem?_cons_zero, List.set_cons_succ, List.set_cons_zero, List.map_cons, List.map_nil, List.replicate, List.cons_append, List.nil_append, List.length_cons, List.length_nil, Bool.not_true, Bool.not_false, if_true, if_false, ite_true, ite_false, reduceIte, Bool.false_eq_true, Bool.true_eq_false, Nat.reduceAdd, unD, Option.map_some, Nat.zero_le, Sh.sz1, Sh.sz2, Sh.sz3, Sh.sz4, Sh.sz5, Sh.sz6, Sh.sz7, Sh.sz8, Sh.sz9, Sh.sz10, Sh.sz11, Sh.sz12, Sh.sz13, Sh.sz14, Sh.sz15, Sh.sz16, Nat.reduceSub, Nat.reduceLeDiff, reduceCtorEq, Bool.and_true, Bool.true_and, Bool.and_false, Bool.false_and, Bool.or_true, Bool.or_false, Bool.true_or, Bool.false_or]
  unfold m_plan_worth defM b_plan_worth l_plan_worth_2 l_plan_worth_3
  simp only [eVar_ap, eK_ap, aNil_ap, aCons_ap, eOp2_ap, eOp1_ap, eChain_ap, bOf_ap, bNot_ap, bAnd_ap, bOr_ap, eAnd_ap, eOr_ap, eNot_ap, eIf_ap, eTup_ap, eLst_ap, eLstM_ap, cNop_ap, cBreak_ap, cCont_ap, cSeq_ap, cExpr_ap, cSet_ap, cRet_ap, cRetN_ap, cIf_ap, cAsg_ap, cPar2_ap, cPar3_ap, bYes_ap, eCall_ap, oNone_ap, oSome_ap, eSl_ap, cFor_ap, eMtL_ap, aKw_ap, gNm_ap, gTp2, gTp3, gSb_ap, mkTup0, mkTup1, mkTup2, mkTup3, Out.bind, Out.ofO, exq, fin, callE_ap, List.getElem?_cons_succ, List.getElem?_cons_zero, List.set_cons_succ, List.set_cons_zero, List.map_cons, List.map_nil, List.replicate, List.cons_append, List.nil_append, List.length_cons, List.length_nil, Bool.not_true, Bool.not_false, if_true, if_false, ite_true, ite_false, reduceIte, Bool.false_eq_true, Bool.true_eq_false, Nat.reduceAdd, unD, Option.map_some, Nat.zero_le, Sh.sz1, Sh.sz2, Sh.sz3, Sh.sz4, Sh.sz5, Sh.sz6, Sh.sz7, Sh.sz8, Sh.sz9, Sh.sz10, Sh.sz11, Sh.sz12, Sh.sz13, Sh.sz14, Sh.sz15, Sh.sz16, Nat.reduceSub, Nat.reduceLeDiff, reduceCtorEq, Bool.and_true, Bool.true_and, Bool.and_false, Bool.false_and, Bool.or_true, Bool.or_false, Bool.true_or, Bool.false_or, callP_d (need_choice_ok (S := []) Z C), ix_head Z, bLen_tup, List.length_map, head_len Z]
  rw [e4]
theorem bad_bad (Z : SH sh n m t) (C : CH ch n d) (P : PL pl m d) (h : x ∈ bads pl m d) : planBad m d x = true := by
  have hl := P.len; have hm0 := Z.m0
  have hrep : ∀ v : PyData, Wn.inR v 0 ((d : Int) - 1) = false → planBad m d (.tuple (List.replicate m v)) = true := fun v hv => by
    obtain ⟨q, rfl⟩ : ∃ q, m = q + 1 := ⟨m - 1, by omega⟩
    simp [planBad, hv, List.replicate_succ]
  simp only [bads, List.mem_cons, List.not_mem_nil, or_false] at h
  rcases h with rfl | rfl | rfl | rfl | rfl | rfl | rfl
  · rfl
  · simp [planBad, hl]
  · have : ¬ (m - 1 = m) := by omega
    simp only [planBad, List.length_drop, List.length_map, hl, this, decide_false, Bool.false_and, Bool.not_false]
  · exact hrep _ (by simp [Wn.inR]; omega)
  · exact hrep _ (by simp [Wn.inR])
  · exact hrep _ rfl
  · rfl
end
section
variable {S : Sto} {n m d t k : Nat} {pl : List Nat} {sh ch : List (List Int)} {od wr bd : PyData} {s : W} {a2 a3 a4 a5 a6 a7 a8 a9 a10 a11 a12 a13 a14 a15 a16 a17 a18 a19 a20 a21 : Option W}
theorem t9 (B : Bag S 0 k) (hk : k < 2 ^ 29) : ∃ (n m d : Nat) (S' : Sto), (1 ≤ n ∧ n ≤ 4) ∧ (1 ≤ m ∧ m ≤ 4) ∧ (1 ≤ d ∧ d ≤ 4) ∧ l_law_9 [some s, some (.ref 0), a2, a3, a4, a5, a6, a7, a8, a9, a10, a11, a12, a13, a14, a15, a16, a17, a18, a19, a20, a21] S = .ok (.nx [some s, some (.ref 0), a2, some (.d (.int (n : Int))), some (.d (.int (m : Int))), some (.d (.int (d : Int))), a6, a7, a8, a9, a10, a11, a12, a13, a14, a15, a16, a17, a18, a19, a20, a21]) S' ∧ Bag S' 0 (k + 3) := by
  obtain ⟨k1, S1, e1, h1, B1, _, _⟩ := pick_any B (by omega) (many := 4) (by decide) (by decide)
  obtain ⟨k2, S2, e2, h2, B2, _, _⟩ := pick_any B1 (by omega) (many := 4) (by decide) (by decide)
  obtain ⟨k3, S3, e3, h3, B3, _, _⟩ := pick_any B2 (by omega) (many := 4) (by decide) (by decide)
  refine ⟨1 + k1, 1 + k2, 1 + k3, S3, ⟨by omega, by omega⟩, ⟨by omega, by omega⟩, ⟨by omega, by omega⟩, ?_, B3⟩
  unfold l_law_9
  simp only [eVar_ap, eK_ap, aNil_ap, aCons_ap, eOp2_ap, eOp1_ap, eChain_ap, bOf_ap, bNot_ap, bAnd_ap, bOr_ap, eAnd_ap, eOr_ap, eNot_ap, eIf_ap, eTup_ap, eLst_ap, eLstM_ap, cNop_ap, cBreak_ap, cCont_ap, cSeq_ap, cExpr_ap, cSet_ap, cRet_ap, cRetN_ap, cIf_ap, cAsg_ap, cPar2_ap, cPar3_ap, bYes_ap, eCall_ap, oNone_ap, oSome_ap, eSl_ap, cFor_ap, eMtL_ap, aKw_ap, gNm_ap, gTp2, gTp3, gSb_ap, mkTup0, mkTup1, mkTup2, mkTup3, Out.bind, Out.ofO, exq, fin, callE_ap, List.getElem?_cons_succ, List.getElem?_cons_zero, List.set_cons_succ, List.set_cons_zero, List.map_cons, List.map_nil, List.replicate, List.cons_append, List.nil_append, List.length_cons, List.length_nil, Bool.not_true, Bool.not_false, if_true, if_false, ite_true, ite_false, reduceIte, Bool.false_eq_true, Bool.true_eq_false, Nat.reduceAdd, unD, Option.map_some, Nat.zero_le, Sh.sz1, Sh.sz2, Sh.sz3, Sh.sz4, Sh.sz5, Sh.sz6, Sh.sz7, Sh.sz8, Sh.sz9, Sh.sz10, Sh.sz11, Sh.sz12, Sh.sz13, Sh.sz14, Sh.sz15, Sh.sz16, Nat.reduceSub, Nat.reduceLeDiff, reduceCtorEq, Bool.and_true, Bool.true_and, Bool.and_false, Bool.false_and, Bool.or_true, Bool.or_false, Bool.true_or, Bool.false_or, pick_eq, e1, e2, e3, opAdd_int, show (1 : Int) + (k1 : Int) = ((1 + k1 : Nat) : Int) by omega, show (1 : Int) + (k2 : Int) = ((1 + k2 : Nat) : Int) by omega, show (1 : Int) + (k3 : Int) = ((1 + k3 : Nat) : Int) by omega]
theorem t10 (B : Bag S 0 k) (hk : k < 2 ^ 29) (hn : 1 ≤ n ∧ n ≤ 4) (hm : 1 ≤ m ∧ m ≤ 4) : ∃ sh t S', SH sh n m t ∧ l_law_10 [some s, some (.ref 0), a2, some (.d (.int (n : Int))), some (.d (.int (m : Int))), some (.d (.int (d : Int))), a6, a7, a8, a9, a10, a11, a12, a13, a14, a15, a16, a17, a18, a19, a20, a21] S = .ok (.nx [some s, some (.ref 0), a2, some (.d (.int (n : Int))), some (.d (.int (m : Int))), some (.d (.int (d : Int))), some (.d (zTT sh)), a7, a8, a9, a10, a11, a12, a13, a14, a15, a16, a17, a18, a19, a20, a21]) S' ∧ Bag S' 0 (k + 50) := by
  obtain ⟨sh, t, S1, Z, e, B1⟩ := sheet_draw B hk hn.1 hn.2 hm.1 hm.2
  exact ⟨sh, t, S1, Z, by unfold l_law_10; simp only [eVar_ap, eK_ap, aNil_ap, aCons_ap, eOp2_ap, eOp1_ap, eChain_ap, bOf_ap, bNot_ap, bAnd_ap, bOr_ap, eAnd_ap, eOr_ap, eNot_ap, eIf_ap, eTup_ap, eLst_ap, eLstM_ap, cNop_ap, cBreak_ap, cCont_ap, cSeq_ap, cExpr_ap, cSet_ap, cRet_ap, cRetN_ap, cIf_ap, cAsg_ap, cPar2_ap, cPar3_ap, bYes_ap, eCall_ap, oNone_ap, oSome_ap, eSl_ap, cFor_ap, eMtL_ap, aKw_ap, gNm_ap, gTp2, gTp3, gSb_ap, mkTup0, mkTup1, mkTup2, mkTup3, Out.bind, Out.ofO, exq, fin, callE_ap, List.getElem?_cons_succ, List.getElem?_cons_zero, List.set_cons_succ, List.set_cons_zero, List.map_cons, List.map_nil, List.replicate, List.cons_append, List.nil_append, List.length_cons, List.length_nil, Bool.not_true, Bool.not_false, if_true, if_false, ite_true, ite_false, reduceIte, Bool.false_eq_true, Bool.true_eq_false, Nat.reduceAdd, unD, Option.map_some, Nat.zero_le, Sh.sz1, Sh.sz2, Sh.sz3, Sh.sz4, Sh.sz5, Sh.sz6, Sh.sz7, Sh.sz8, Sh.sz9, Sh.sz10, Sh.sz11, Sh.sz12, Sh.sz13, Sh.sz14, Sh.sz15, Sh.sz16, Nat.reduceSub, Nat.reduceLeDiff, reduceCtorEq, Bool.and_true, Bool.true_and, Bool.and_false, Bool.false_and, Bool.or_true, Bool.or_false, Bool.true_or, Bool.false_or, e], B1⟩
theorem t11 (B : Bag S 0 k) (hk : k < 2 ^ 29) (hn : 1 ≤ n ∧ n ≤ 4) (hd : 1 ≤ d ∧ d ≤ 4) : ∃ ch S', CH ch n d ∧ l_law_11 [some s, some (.ref 0), a2, some (.d (.int (n : Int))), some (.d (.int (m : Int))), some (.d (.int (d : Int))), some (.d (zTT sh)), a7, a8, a9, a10, a11, a12, a13, a14, a15, a16, a17, a18, a19, a20, a21] S = .ok (.nx [some s, some (.ref 0), a2, some (.d (.int (n : Int))), some (.d (.int (m : Int))), some (.d (.int (d : Int))), some (.d (zTT sh)), some (.d (zTT ch)), a8, a9, a10, a11, a12, a13, a14, a15, a16, a17, a18, a19, a20, a21]) S' ∧ Bag S' 0 (k + 16) := by
  obtain ⟨ch, S1, e, B1, hl, hP⟩ := eLc_at (im := iRg1 (eVar 5)) (g := gNm 18) (vs := [18]) (elt := eCall bTuple (aCons (q_law_0) aNil)) (ρ := [some s, some (.ref 0), a2, some (.d (.int (n : Int))), some (.d (.int (m : Int))), some (.d (.int (d : Int))), some (.d (zTT sh)), a7, a8, a9, a10, a11, a12, a13, a14, a15, a16, a17, a18, a19, a20, a21]) (mk := fun (x : Nat) => W.d (.int (x : Int))) (grd := fun _ => True) (enc := zT) (S := S) (S1 := S)
    (List.range d) (Iv := fun j S => Bag S 0 (k + 4 * j)) (Pe := fun _ r => r.length = n ∧ ∀ e ∈ r, -9 ≤ e ∧ e ≤ 9) (iRg1_nat (j := d) rfl (by omega)) (by rw [List.length_range]; exact len_le (by omega)) B (fun _ _ _ => trivial) (fun j hj S B => by
      rw [List.length_range] at hj
      obtain ⟨r, S1, e, B1, hl, hP⟩ := eLc_at (im := iRg1 (eVar 3)) (g := gNm 20) (vs := [20]) (elt := eOp2 opSub (eCall (callE m__law_pick) (aCons (eVar 1) (aCons (eInt 19) aNil))) (eInt 9)) (ρ := [some s, some (.ref 0), a2, some (.d (.int (n : Int))), some (.d (.int (m : Int))), some (.d (.int (d : Int))), some (.d (zTT sh)), a7, a8, a9, a10, a11, a12, a13, a14, a15, a16, a17, some (.d (.int (j : Int))), a19, a20, a21]) (mk := fun (x : Nat) => W.d (.int (x : Int))) (grd := fun _ => True) (enc := PyData.int) (S := S) (S1 := S)
        (List.range n) (Iv := fun i S => Bag S 0 (k + 4 * j + i)) (Pe := fun _ e => -9 ≤ e ∧ e ≤ 9) (iRg1_nat (j := n) rfl (by omega)) (by rw [List.length_range]; exact len_le (by omega)) B (fun _ _ _ => trivial) (fun i hi S B => by
          rw [List.length_range] at hi
          obtain ⟨q, S', e, hq, B', _, _⟩ := pick_any B (by omega) (many := 19) (by decide) (by decide)
          exact ⟨_, _, rfl, (q : Int) - 9, S', by simp only [eVar_ap, eK_ap, aNil_ap, aCons_ap, eOp2_ap, eOp1_ap, eChain_ap, bOf_ap, bNot_ap, bAnd_ap, bOr_ap, eAnd_ap, eOr_ap, eNot_ap, eIf_ap, eTup_ap, eLst_ap, eLstM_ap, cNop_ap, cBreak_ap, cCont_ap, cSeq_ap, cExpr_ap, cSet_ap, cRet_ap, cRetN_ap, cIf_ap, cAsg_ap, cPar2_ap, cPar3_ap, bYes_ap, eCall_ap, oNone_ap, oSome_ap, eSl_ap, cFor_ap, eMtL_ap, aKw_ap, gNm_ap, gTp2, gTp3, gSb_ap, mkTup0, mkTup1, mkTup2, mkTup3, Out.bind, Out.ofO, exq, fin, callE_ap, List.getElem?_cons_succ, List.getElem?_cons_zero, List.set_cons_succ, List.set_cons_zero, List.map_cons, List.map_nil, List.replicate, List.cons_append, List.nil_append, List.length_cons, List.length_nil, Bool.not_true, Bool.not_false, if_true, if_false, ite_true, ite_false, reduceIte, Bool.false_eq_true, Bool.true_eq_false, Nat.reduceAdd, unD, Option.map_some, Nat.zero_le, Sh.sz1, Sh.sz2, Sh.sz3, Sh.sz4, Sh.sz5, Sh.sz6, Sh.sz7, Sh.sz8, Sh.sz9, Sh.sz10, Sh.sz11, Sh.sz12, Sh.sz13, Sh.sz14, Sh.sz15, Sh.sz16, Nat.reduceSub, Nat.reduceLeDiff, reduceCtorEq, Bool.and_true, Bool.true_and, Bool.and_false, Bool.false_and, Bool.or_true, Bool.or_false, Bool.true_or, Bool.false_or, wipeR, pick_eq, e, opSub_int], by omega, B'⟩)
      rw [List.length_range] at hl B1
      refine ⟨_, _, rfl, r, S1, ?_, ⟨hl, fun e he => ?_⟩, B1.mono (by omega)⟩
      · rw [List.getElem_range]
        simp only [eVar_ap, eK_ap, aNil_ap, aCons_ap, eOp2_ap, eOp1_ap, eChain_ap, bOf_ap, bNot_ap, bAnd_ap, bOr_ap, eAnd_ap, eOr_ap, eNot_ap, eIf_ap, eTup_ap, eLst_ap, eLstM_ap, cNop_ap, cBreak_ap, cCont_ap, cSeq_ap, cExpr_ap, cSet_ap, cRet_ap, cRetN_ap, cIf_ap, cAsg_ap, cPar2_ap, cPar3_ap, bYes_ap, eCall_ap, oNone_ap, oSome_ap, eSl_ap, cFor_ap, eMtL_ap, aKw_ap, gNm_ap, gTp2, gTp3, gSb_ap, mkTup0, mkTup1, mkTup2, mkTup3, Out.bind, Out.ofO, exq, fin, callE_ap, List.getElem?_cons_succ, List.getElem?_cons_zero, List.set_cons_succ, List.set_cons_zero, List.map_cons, List.map_nil, List.replicate, List.cons_append, List.nil_append, List.length_cons, List.length_nil, Bool.not_true, Bool.not_false, if_true, if_false, ite_true, ite_false, reduceIte, Bool.false_eq_true, Bool.true_eq_false, Nat.reduceAdd, unD, Option.map_some, Nat.zero_le, Sh.sz1, Sh.sz2, Sh.sz3, Sh.sz4, Sh.sz5, Sh.sz6, Sh.sz7, Sh.sz8, Sh.sz9, Sh.sz10, Sh.sz11, Sh.sz12, Sh.sz13, Sh.sz14, Sh.sz15, Sh.sz16, Nat.reduceSub, Nat.reduceLeDiff, reduceCtorEq, Bool.and_true, Bool.true_and, Bool.and_false, Bool.false_and, Bool.or_true, Bool.or_false, Bool.true_or, Bool.false_or, wipeR, show ∀ ρ S, q_law_0 ρ S = eLc (iRg1 (eVar 3)) (gNm 20) bYes (eOp2 opSub (eCall (callE m__law_pick) (aCons (eVar 1) (aCons (eInt 19) aNil))) (eInt 9)) [20] ρ S from fun _ _ => rfl, e, bTuple_list]
      · obtain ⟨i, hi, rfl⟩ := List.getElem_of_mem he
        exact hP i hi)
  rw [List.length_range] at hl B1
  refine ⟨ch, S1, ⟨hd.1, hd.2, hn.2, hl, fun r hr => ?_⟩, ?_, B1.mono (by omega)⟩
  · obtain ⟨i, hi, rfl⟩ := List.getElem_of_mem hr
    exact hP i hi
  · unfold l_law_11 q_law_1
    simp only [eVar_ap, eK_ap, aNil_ap, aCons_ap, eOp2_ap, eOp1_ap, eChain_ap, bOf_ap, bNot_ap, bAnd_ap, bOr_ap, eAnd_ap, eOr_ap, eNot_ap, eIf_ap, eTup_ap, eLst_ap, eLstM_ap, cNop_ap, cBreak_ap, cCont_ap, cSeq_ap, cExpr_ap, cSet_ap, cRet_ap, cRetN_ap, cIf_ap, cAsg_ap, cPar2_ap, cPar3_ap, bYes_ap, eCall_ap, oNone_ap, oSome_ap, eSl_ap, cFor_ap, eMtL_ap, aKw_ap, gNm_ap, gTp2, gTp3, gSb_ap, mkTup0, mkTup1, mkTup2, mkTup3, Out.bind, Out.ofO, exq, fin, callE_ap, List.getElem?_cons_succ, List.getElem?_cons_zero, List.set_cons_succ, List.set_cons_zero, List.map_cons, List.map_nil, List.replicate, List.cons_append, List.nil_append, List.length_cons, List.length_nil, Bool.not_true, Bool.not_false, if_true, if_false, ite_true, ite_false, reduceIte, Bool.false_eq_true, Bool.true_eq_false, Nat.reduceAdd, unD, Option.map_some, Nat.zero_le, Sh.sz1, Sh.sz2, Sh.sz3, Sh.sz4, Sh.sz5, Sh.sz6, Sh.sz7, Sh.sz8, Sh.sz9, Sh.sz10, Sh.sz11, Sh.sz12, Sh.sz13, Sh.sz14, Sh.sz15, Sh.sz16, Nat.reduceSub, Nat.reduceLeDiff, reduceCtorEq, Bool.and_true, Bool.true_and, Bool.and_false, Bool.false_and, Bool.or_true, Bool.or_false, Bool.true_or, Bool.false_or, e, bTuple_list]
theorem t12 (B : Bag S 0 k) (hk : k < 2 ^ 29) (hm : 1 ≤ m ∧ m ≤ 4) (hd : 1 ≤ d ∧ d ≤ 4) : ∃ pl S', PL pl m d ∧ l_law_12 [some s, some (.ref 0), a2, some (.d (.int (n : Int))), some (.d (.int (m : Int))), some (.d (.int (d : Int))), some (.d (zTT sh)), some (.d (zTT ch)), a8, a9, a10, a11, a12, a13, a14, a15, a16, a17, a18, a19, a20, a21] S = .ok (.nx [some s, some (.ref 0), a2, some (.d (.int (n : Int))), some (.d (.int (m : Int))), some (.d (.int (d : Int))), some (.d (zTT sh)), some (.d (zTT ch)), some (.d (nT pl)), a9, a10, a11, a12, a13, a14, a15, a16, a17, a18, a19, a20, a21]) S' ∧ Bag S' 0 (k + 4) := by
  obtain ⟨pl, S1, e, B1, hl, hP⟩ := eLc_at (im := iRg1 (eVar 4)) (g := gNm 16) (vs := [16]) (elt := eCall (callE m__law_pick) (aCons (eVar 1) (aCons (eVar 5) aNil))) (ρ := [some s, some (.ref 0), a2, some (.d (.int (n : Int))), some (.d (.int (m : Int))), some (.d (.int (d : Int))), some (.d (zTT sh)), some (.d (zTT ch)), a8, a9, a10, a11, a12, a13, a14, a15, a16, a17, a18, a19, a20, a21]) (mk := fun (x : Nat) => W.d (.int (x : Int))) (grd := fun _ => True) (enc := nI) (S := S) (S1 := S)
    (List.range m) (Iv := fun j S => Bag S 0 (k + j)) (Pe := fun _ x => x < d) (iRg1_nat (j := m) rfl (by omega)) (by rw [List.length_range]; exact len_le (by omega)) B (fun _ _ _ => trivial) (fun j hj S B => by
      rw [List.length_range] at hj
      obtain ⟨q, S', e, hq, B', _, _⟩ := pick_any B (by omega) (many := (d : Int)) (by omega) (by omega)
      exact ⟨_, _, rfl, q, S', by simp only [eVar_ap, eK_ap, aNil_ap, aCons_ap, eOp2_ap, eOp1_ap, eChain_ap, bOf_ap, bNot_ap, bAnd_ap, bOr_ap, eAnd_ap, eOr_ap, eNot_ap, eIf_ap, eTup_ap, eLst_ap, eLstM_ap, cNop_ap, cBreak_ap, cCont_ap, cSeq_ap, cExpr_ap, cSet_ap, cRet_ap, cRetN_ap, cIf_ap, cAsg_ap, cPar2_ap, cPar3_ap, bYes_ap, eCall_ap, oNone_ap, oSome_ap, eSl_ap, cFor_ap, eMtL_ap, aKw_ap, gNm_ap, gTp2, gTp3, gSb_ap, mkTup0, mkTup1, mkTup2, mkTup3, Out.bind, Out.ofO, exq, fin, callE_ap, List.getElem?_cons_succ, List.getElem?_cons_zero, List.set_cons_succ, List.set_cons_zero, List.map_cons, List.map_nil, List.replicate, List.cons_append, List.nil_append, List.length_cons, List.length_nil, Bool.not_true, Bool.not_false, if_true, if_false, ite_true, ite_false, reduceIte, Bool.false_eq_true, Bool.true_eq_false, Nat.reduceAdd, unD, Option.map_some, Nat.zero_le, Sh.sz1, Sh.sz2, Sh.sz3, Sh.sz4, Sh.sz5, Sh.sz6, Sh.sz7, Sh.sz8, Sh.sz9, Sh.sz10, Sh.sz11, Sh.sz12, Sh.sz13, Sh.sz14, Sh.sz15, Sh.sz16, Nat.reduceSub, Nat.reduceLeDiff, reduceCtorEq, Bool.and_true, Bool.true_and, Bool.and_false, Bool.false_and, Bool.or_true, Bool.or_false, Bool.true_or, Bool.false_or, wipeR, pick_eq, e], by omega, B'⟩)
  rw [List.length_range] at hl B1
  refine ⟨pl, S1, ⟨hm.2, hl, fun x hx => ?_⟩, ?_, B1.mono (by omega)⟩
  · obtain ⟨i, hi, rfl⟩ := List.getElem_of_mem hx
    exact hP i hi
  · unfold l_law_12 q_law_2
    simp only [eVar_ap, eK_ap, aNil_ap, aCons_ap, eOp2_ap, eOp1_ap, eChain_ap, bOf_ap, bNot_ap, bAnd_ap, bOr_ap, eAnd_ap, eOr_ap, eNot_ap, eIf_ap, eTup_ap, eLst_ap, eLstM_ap, cNop_ap, cBreak_ap, cCont_ap, cSeq_ap, cExpr_ap, cSet_ap, cRet_ap, cRetN_ap, cIf_ap, cAsg_ap, cPar2_ap, cPar3_ap, bYes_ap, eCall_ap, oNone_ap, oSome_ap, eSl_ap, cFor_ap, eMtL_ap, aKw_ap, gNm_ap, gTp2, gTp3, gSb_ap, mkTup0, mkTup1, mkTup2, mkTup3, Out.bind, Out.ofO, exq, fin, callE_ap, List.getElem?_cons_succ, List.getElem?_cons_zero, List.set_cons_succ, List.set_cons_zero, List.map_cons, List.map_nil, List.replicate, List.cons_append, List.nil_append, List.length_cons, List.length_nil, Bool.not_true, Bool.not_false, if_true, if_false, ite_true, ite_false, reduceIte, Bool.false_eq_true, Bool.true_eq_false, Nat.reduceAdd, unD, Option.map_some, Nat.zero_le, Sh.sz1, Sh.sz2, Sh.sz3, Sh.sz4, Sh.sz5, Sh.sz6, Sh.sz7, Sh.sz8, Sh.sz9, Sh.sz10, Sh.sz11, Sh.sz12, Sh.sz13, Sh.sz14, Sh.sz15, Sh.sz16, Nat.reduceSub, Nat.reduceLeDiff, reduceCtorEq, Bool.and_true, Bool.true_and, Bool.and_false, Bool.false_and, Bool.or_true, Bool.or_false, Bool.true_or, Bool.false_or, e, bTuple_list]
section
variable (Z : SH sh n m t) (C : CH ch n d) (P : PL pl m d)
include Z C
theorem t13 (P : PL pl m d) : l_law_13 [some s, some (.ref 0), a2, some (.d (.int (n : Int))), some (.d (.int (m : Int))), some (.d (.int (d : Int))), some (.d (zTT sh)), some (.d (zTT ch)), some (.d (nT pl)), a9, a10, a11, a12, a13, a14, a15, a16, a17, a18, a19, a20, a21] S = .ok (.nx [some s, some (.ref 0), a2, some (.d (.int (n : Int))), some (.d (.int (m : Int))), some (.d (.int (d : Int))), some (.d (zTT sh)), some (.d (zTT ch)), some (.d (nT pl)), a9, a10, a11, a12, a13, a14, a15, a16, a17, a18, a19, a20, a21]) S := by
  unfold l_law_13
  simp only [eVar_ap, eK_ap, aNil_ap, aCons_ap, eOp2_ap, eOp1_ap, eChain_ap, bOf_ap, bNot_ap, bAnd_ap, bOr_ap, eAnd_ap, eOr_ap, eNot_ap, eIf_ap, eTup_ap, eLst_ap, eLstM_ap, cNop_ap, cBreak_ap, cCont_ap, cSeq_ap, cExpr_ap, cSet_ap, cRet_ap, cRetN_ap, cIf_ap, cAsg_ap, cPar2_ap, cPar3_ap, bYes_ap, eCall_ap, oNone_ap, oSome_ap, eSl_ap, cFor_ap, eMtL_ap, aKw_ap, gNm_ap, gTp2, gTp3, gSb_ap, mkTup0, mkTup1, mkTup2, mkTup3, Out.bind, Out.ofO, exq, fin, callE_ap, List.getElem?_cons_succ, List.getElem?_cons_zero, List.set_cons_succ, List.set_cons_zero, List.map_cons, List.map_nil, List.replicate, List.cons_append, List.nil_append, List.length_cons, List.length_nil, Bool.not_true, Bool.not_false, if_true, if_false, ite_true, ite_false, reduceIte, Bool.false_eq_true, Bool.true_eq_false, Nat.reduceAdd, unD, Option.map_some, Nat.zero_le, Sh.sz1, Sh.sz2, Sh.sz3, Sh.sz4, Sh.sz5, Sh.sz6, Sh.sz7, Sh.sz8, Sh.sz9, Sh.sz10, Sh.sz11, Sh.sz12, Sh.sz13, Sh.sz14, Sh.sz15, Sh.sz16, Nat.reduceSub, Nat.reduceLeDiff, reduceCtorEq, Bool.and_true, Bool.true_and, Bool.and_false, Bool.false_and, Bool.or_true, Bool.or_false, Bool.true_or, Bool.false_or, kw3, callP_d (sheet_good (S := []) Z), opNotB_b, beq_self_eq_true, callP_d (plan_worth_ok (S := []) Z C P), callP_d (law_worth_ok (S := []) Z C P), callP_d (same_eq (S := []) (tm_rat (i := wn sh ch pl) (t := t)))]
theorem t14  : l_law_14 [some s, some (.ref 0), a2, some (.d (.int (n : Int))), some (.d (.int (m : Int))), some (.d (.int (d : Int))), some (.d (zTT sh)), some (.d (zTT ch)), some (.d (nT pl)), a9, a10, a11, a12, a13, a14, a15, a16, a17, a18, a19, a20, a21] S = .ok (.nx [some s, some (.ref 0), a2, some (.d (.int (n : Int))), some (.d (.int (m : Int))), some (.d (.int (d : Int))), some (.d (zTT sh)), some (.d (zTT ch)), some (.d (nT pl)), some (.d (nT (bp sh ch m))), a10, a11, a12, a13, a14, a15, a16, a17, a18, a19, a20, a21]) S := by
  unfold l_law_14
  simp only [eVar_ap, eK_ap, aNil_ap, aCons_ap, eOp2_ap, eOp1_ap, eChain_ap, bOf_ap, bNot_ap, bAnd_ap, bOr_ap, eAnd_ap, eOr_ap, eNot_ap, eIf_ap, eTup_ap, eLst_ap, eLstM_ap, cNop_ap, cBreak_ap, cCont_ap, cSeq_ap, cExpr_ap, cSet_ap, cRet_ap, cRetN_ap, cIf_ap, cAsg_ap, cPar2_ap, cPar3_ap, bYes_ap, eCall_ap, oNone_ap, oSome_ap, eSl_ap, cFor_ap, eMtL_ap, aKw_ap, gNm_ap, gTp2, gTp3, gSb_ap, mkTup0, mkTup1, mkTup2, mkTup3, Out.bind, Out.ofO, exq, fin, callE_ap, List.getElem?_cons_succ, List.getElem?_cons_zero, List.set_cons_succ, List.set_cons_zero, List.map_cons, List.map_nil, List.replicate, List.cons_append, List.nil_append, List.length_cons, List.length_nil, Bool.not_true, Bool.not_false, if_true, if_false, ite_true, ite_false, reduceIte, Bool.false_eq_true, Bool.true_eq_false, Nat.reduceAdd, unD, Option.map_some, Nat.zero_le, Sh.sz1, Sh.sz2, Sh.sz3, Sh.sz4, Sh.sz5, Sh.sz6, Sh.sz7, Sh.sz8, Sh.sz9, Sh.sz10, Sh.sz11, Sh.sz12, Sh.sz13, Sh.sz14, Sh.sz15, Sh.sz16, Nat.reduceSub, Nat.reduceLeDiff, reduceCtorEq, Bool.and_true, Bool.true_and, Bool.and_false, Bool.false_and, Bool.or_true, Bool.or_false, Bool.true_or, Bool.false_or, kw2, best_word Z C]
theorem t14b  : (cSet 10 q_law_3) [some s, some (.ref 0), a2, some (.d (.int (n : Int))), some (.d (.int (m : Int))), some (.d (.int (d : Int))), some (.d (zTT sh)), some (.d (zTT ch)), some (.d (nT pl)), some (.d (nT (bp sh ch m))), a10, a11, a12, a13, a14, a15, a16, a17, a18, a19, a20, a21] S = .ok (.nx [some s, some (.ref 0), a2, some (.d (.int (n : Int))), some (.d (.int (m : Int))), some (.d (.int (d : Int))), some (.d (zTT sh)), some (.d (zTT ch)), some (.d (nT pl)), some (.d (nT (bp sh ch m))), some (.d (.list ((gs sh ch m).map zL))), a11, a12, a13, a14, a15, a16, a17, a18, a19, a20, a21]) S := by
  have hm4 := Z.m4
  have e : q_law_3 [some s, some (.ref 0), a2, some (.d (.int (n : Int))), some (.d (.int (m : Int))), some (.d (.int (d : Int))), some (.d (zTT sh)), some (.d (zTT ch)), some (.d (nT pl)), some (.d (nT (bp sh ch m))), a10, a11, a12, a13, a14, a15, a16, a17, a18, a19, a20, a21] S = .ok (.d (.list ((gs sh ch m).map zL))) S := by
    unfold q_law_3
    rw [eLc_y (List.range m) (fun (k : Nat) => W.d (.int (k : Int))) (fun a => zL (gn sh ch a)) (grd := fun _ => True) (iRg1_nat (j := m) rfl (by omega)) trivial (by rw [List.length_range]; exact len_le (by omega)) fun a ha => ⟨_, rfl, by simp only [eVar_ap, eK_ap, aNil_ap, aCons_ap, eOp2_ap, eOp1_ap, eChain_ap, bOf_ap, bNot_ap, bAnd_ap, bOr_ap, eAnd_ap, eOr_ap, eNot_ap, eIf_ap, eTup_ap, eLst_ap, eLstM_ap, cNop_ap, cBreak_ap, cCont_ap, cSeq_ap, cExpr_ap, cSet_ap, cRet_ap, cRetN_ap, cIf_ap, cAsg_ap, cPar2_ap, cPar3_ap, bYes_ap, eCall_ap, oNone_ap, oSome_ap, eSl_ap, cFor_ap, eMtL_ap, aKw_ap, gNm_ap, gTp2, gTp3, gSb_ap, mkTup0, mkTup1, mkTup2, mkTup3, Out.bind, Out.ofO, exq, fin, callE_ap, List.getElem?_cons_succ, List.getElem?_cons_zero, List.set_cons_succ, List.set_cons_zero, List.map_cons, List.map_nil, List.replicate, List.cons_append, List.nil_append, List.length_cons, List.length_nil, Bool.not_true, Bool.not_false, if_true, if_false, ite_true, ite_false, reduceIte, Bool.false_eq_true, Bool.true_eq_false, Nat.reduceAdd, unD, Option.map_some, Nat.zero_le, Sh.sz1, Sh.sz2, Sh.sz3, Sh.sz4, Sh.sz5, Sh.sz6, Sh.sz7, Sh.sz8, Sh.sz9, Sh.sz10, Sh.sz11, Sh.sz12, Sh.sz13, Sh.sz14, Sh.sz15, Sh.sz16, Nat.reduceSub, Nat.reduceLeDiff, reduceCtorEq, Bool.and_true, Bool.true_and, Bool.and_false, Bool.false_and, Bool.or_true, Bool.or_false, Bool.true_or, Bool.false_or, wipeR, callP_d (law_gains_ok (S := []) Z C (a := a) (List.mem_range.1 ha))]⟩]
    simp only [gs, List.map_map]; rfl
  simp only [eVar_ap, eK_ap, aNil_ap, aCons_ap, eOp2_ap, eOp1_ap, eChain_ap, bOf_ap, bNot_ap, bAnd_ap, bOr_ap, eAnd_ap, eOr_ap, eNot_ap, eIf_ap, eTup_ap, eLst_ap, eLstM_ap, cNop_ap, cBreak_ap, cCont_ap, cSeq_ap, cExpr_ap, cSet_ap, cRet_ap, cRetN_ap, cIf_ap, cAsg_ap, cPar2_ap, cPar3_ap, bYes_ap, eCall_ap, oNone_ap, oSome_ap, eSl_ap, cFor_ap, eMtL_ap, aKw_ap, gNm_ap, gTp2, gTp3, gSb_ap, mkTup0, mkTup1, mkTup2, mkTup3, Out.bind, Out.ofO, exq, fin, callE_ap, List.getElem?_cons_succ, List.getElem?_cons_zero, List.set_cons_succ, List.set_cons_zero, List.map_cons, List.map_nil, List.replicate, List.cons_append, List.nil_append, List.length_cons, List.length_nil, Bool.not_true, Bool.not_false, if_true, if_false, ite_true, ite_false, reduceIte, Bool.false_eq_true, Bool.true_eq_false, Nat.reduceAdd, unD, Option.map_some, Nat.zero_le, Sh.sz1, Sh.sz2, Sh.sz3, Sh.sz4, Sh.sz5, Sh.sz6, Sh.sz7, Sh.sz8, Sh.sz9, Sh.sz10, Sh.sz11, Sh.sz12, Sh.sz13, Sh.sz14, Sh.sz15, Sh.sz16, Nat.reduceSub, Nat.reduceLeDiff, reduceCtorEq, Bool.and_true, Bool.true_and, Bool.and_false, Bool.false_and, Bool.or_true, Bool.or_false, Bool.true_or, Bool.false_or, e]
theorem t15  : l_law_15 [some s, some (.ref 0), a2, some (.d (.int (n : Int))), some (.d (.int (m : Int))), some (.d (.int (d : Int))), some (.d (zTT sh)), some (.d (zTT ch)), some (.d (nT pl)), some (.d (nT (bp sh ch m))), some (.d (.list ((gs sh ch m).map zL))), a11, a12, a13, a14, a15, a16, a17, a18, a19, a20, a21] S = .ok (.nx [some s, some (.ref 0), a2, some (.d (.int (n : Int))), some (.d (.int (m : Int))), some (.d (.int (d : Int))), some (.d (zTT sh)), some (.d (zTT ch)), some (.d (nT pl)), some (.d (nT (bp sh ch m))), some (.d (.list ((gs sh ch m).map zL))), a11, a12, a13, a14, a15, a16, a17, a18, a19, a20, a21]) S := by
  have hm4 := Z.m4; have hd4 := C.d4
  have e : q_law_4 [some s, some (.ref 0), a2, some (.d (.int (n : Int))), some (.d (.int (m : Int))), some (.d (.int (d : Int))), some (.d (zTT sh)), some (.d (zTT ch)), some (.d (nT pl)), some (.d (nT (bp sh ch m))), some (.d (.list ((gs sh ch m).map zL))), a11, a12, a13, a14, a15, a16, a17, a18, a19, a20, a21] S = .ok (.d (nL (bp sh ch m))) S := by
    unfold q_law_4
    rw [eLc_y (gs sh ch m) (fun g => W.d (zL g)) (fun g => nI (ax g)) (grd := fun _ => True) (iSq_LzL rfl) trivial (by rw [gs, List.length_map, List.length_range]; exact len_le (by omega)) fun g hg => ⟨_, rfl, ?_⟩]
    · simp only [bp, nL, List.map_map]; rfl
    · have hgl := gs_row C g hg
      have hne : g ≠ [] := fun e => by rw [e] at hgl; have := C.d0; simp at hgl; omega
      simp only [eVar_ap, eK_ap, aNil_ap, aCons_ap, eOp2_ap, eOp1_ap, eChain_ap, bOf_ap, bNot_ap, bAnd_ap, bOr_ap, eAnd_ap, eOr_ap, eNot_ap, eIf_ap, eTup_ap, eLst_ap, eLstM_ap, cNop_ap, cBreak_ap, cCont_ap, cSeq_ap, cExpr_ap, cSet_ap, cRet_ap, cRetN_ap, cIf_ap, cAsg_ap, cPar2_ap, cPar3_ap, bYes_ap, eCall_ap, oNone_ap, oSome_ap, eSl_ap, cFor_ap, eMtL_ap, aKw_ap, gNm_ap, gTp2, gTp3, gSb_ap, mkTup0, mkTup1, mkTup2, mkTup3, Out.bind, Out.ofO, exq, fin, callE_ap, List.getElem?_cons_succ, List.getElem?_cons_zero, List.set_cons_succ, List.set_cons_zero, List.map_cons, List.map_nil, List.replicate, List.cons_append, List.nil_append, List.length_cons, List.length_nil, Bool.not_true, Bool.not_false, if_true, if_false, ite_true, ite_false, reduceIte, Bool.false_eq_true, Bool.true_eq_false, Nat.reduceAdd, unD, Option.map_some, Nat.zero_le, Sh.sz1, Sh.sz2, Sh.sz3, Sh.sz4, Sh.sz5, Sh.sz6, Sh.sz7, Sh.sz8, Sh.sz9, Sh.sz10, Sh.sz11, Sh.sz12, Sh.sz13, Sh.sz14, Sh.sz15, Sh.sz16, Nat.reduceSub, Nat.reduceLeDiff, reduceCtorEq, Bool.and_true, Bool.true_and, Bool.and_false, Bool.false_and, Bool.or_true, Bool.or_false, Bool.true_or, Bool.false_or, wipeR, isL_list, max_zL hne, index_zL (maxI_spec hne).1 (by omega), ax]
  unfold l_law_15
  simp only [eVar_ap, eK_ap, aNil_ap, aCons_ap, eOp2_ap, eOp1_ap, eChain_ap, bOf_ap, bNot_ap, bAnd_ap, bOr_ap, eAnd_ap, eOr_ap, eNot_ap, eIf_ap, eTup_ap, eLst_ap, eLstM_ap, cNop_ap, cBreak_ap, cCont_ap, cSeq_ap, cExpr_ap, cSet_ap, cRet_ap, cRetN_ap, cIf_ap, cAsg_ap, cPar2_ap, cPar3_ap, bYes_ap, eCall_ap, oNone_ap, oSome_ap, eSl_ap, cFor_ap, eMtL_ap, aKw_ap, gNm_ap, gTp2, gTp3, gSb_ap, mkTup0, mkTup1, mkTup2, mkTup3, Out.bind, Out.ofO, exq, fin, callE_ap, List.getElem?_cons_succ, List.getElem?_cons_zero, List.set_cons_succ, List.set_cons_zero, List.map_cons, List.map_nil, List.replicate, List.cons_append, List.nil_append, List.length_cons, List.length_nil, Bool.not_true, Bool.not_false, if_true, if_false, ite_true, ite_false, reduceIte, Bool.false_eq_true, Bool.true_eq_false, Nat.reduceAdd, unD, Option.map_some, Nat.zero_le, Sh.sz1, Sh.sz2, Sh.sz3, Sh.sz4, Sh.sz5, Sh.sz6, Sh.sz7, Sh.sz8, Sh.sz9, Sh.sz10, Sh.sz11, Sh.sz12, Sh.sz13, Sh.sz14, Sh.sz15, Sh.sz16, Nat.reduceSub, Nat.reduceLeDiff, reduceCtorEq, Bool.and_true, Bool.true_and, Bool.and_false, Bool.false_and, Bool.or_true, Bool.or_false, Bool.true_or, Bool.false_or, e, bTuple_list]
  rw [callP_d (same_eq (S := []) (tm_bp Z))]
  simp only [eVar_ap, eK_ap, aNil_ap, aCons_ap, eOp2_ap, eOp1_ap, eChain_ap, bOf_ap, bNot_ap, bAnd_ap, bOr_ap, eAnd_ap, eOr_ap, eNot_ap, eIf_ap, eTup_ap, eLst_ap, eLstM_ap, cNop_ap, cBreak_ap, cCont_ap, cSeq_ap, cExpr_ap, cSet_ap, cRet_ap, cRetN_ap, cIf_ap, cAsg_ap, cPar2_ap, cPar3_ap, bYes_ap, eCall_ap, oNone_ap, oSome_ap, eSl_ap, cFor_ap, eMtL_ap, aKw_ap, gNm_ap, gTp2, gTp3, gSb_ap, mkTup0, mkTup1, mkTup2, mkTup3, Out.bind, Out.ofO, exq, fin, callE_ap, List.getElem?_cons_succ, List.getElem?_cons_zero, List.set_cons_succ, List.set_cons_zero, List.map_cons, List.map_nil, List.replicate, List.cons_append, List.nil_append, List.length_cons, List.length_nil, Bool.not_true, Bool.not_false, if_true, if_false, ite_true, ite_false, reduceIte, Bool.false_eq_true, Bool.true_eq_false, Nat.reduceAdd, unD, Option.map_some, Nat.zero_le, Sh.sz1, Sh.sz2, Sh.sz3, Sh.sz4, Sh.sz5, Sh.sz6, Sh.sz7, Sh.sz8, Sh.sz9, Sh.sz10, Sh.sz11, Sh.sz12, Sh.sz13, Sh.sz14, Sh.sz15, Sh.sz16, Nat.reduceSub, Nat.reduceLeDiff, reduceCtorEq, Bool.and_true, Bool.true_and, Bool.and_false, Bool.false_and, Bool.or_true, Bool.or_false, Bool.true_or, Bool.false_or]
theorem t16  : l_law_16 [some s, some (.ref 0), a2, some (.d (.int (n : Int))), some (.d (.int (m : Int))), some (.d (.int (d : Int))), some (.d (zTT sh)), some (.d (zTT ch)), some (.d (nT pl)), some (.d (nT (bp sh ch m))), some (.d (.list ((gs sh ch m).map zL))), a11, a12, a13, a14, a15, a16, a17, a18, a19, a20, a21] S = .ok (.nx [some s, some (.ref 0), a2, some (.d (.int (n : Int))), some (.d (.int (m : Int))), some (.d (.int (d : Int))), some (.d (zTT sh)), some (.d (zTT ch)), some (.d (nT pl)), some (.d (nT (bp sh ch m))), some (.d (.list ((gs sh ch m).map zL))), some (.d (.list ((pls sh ch m d).map nT))), a12, a13, a14, a15, a16, a17, a18, a19, a20, a21]) S := by
  have hm0 := Z.m0; have hm4 := Z.m4; have hd0 := C.d0; have hd4 := C.d4
  unfold l_law_16 pls
  simp only [eVar_ap, eK_ap, aNil_ap, aCons_ap, eOp2_ap, eOp1_ap, eChain_ap, bOf_ap, bNot_ap, bAnd_ap, bOr_ap, eAnd_ap, eOr_ap, eNot_ap, eIf_ap, eTup_ap, eLst_ap, eLstM_ap, cNop_ap, cBreak_ap, cCont_ap, cSeq_ap, cExpr_ap, cSet_ap, cRet_ap, cRetN_ap, cIf_ap, cAsg_ap, cPar2_ap, cPar3_ap, bYes_ap, eCall_ap, oNone_ap, oSome_ap, eSl_ap, cFor_ap, eMtL_ap, aKw_ap, gNm_ap, gTp2, gTp3, gSb_ap, mkTup0, mkTup1, mkTup2, mkTup3, Out.bind, Out.ofO, exq, fin, callE_ap, List.getElem?_cons_succ, List.getElem?_cons_zero, List.set_cons_succ, List.set_cons_zero, List.map_cons, List.map_nil, List.replicate, List.cons_append, List.nil_append, List.length_cons, List.length_nil, Bool.not_true, Bool.not_false, if_true, if_false, ite_true, ite_false, reduceIte, Bool.false_eq_true, Bool.true_eq_false, Nat.reduceAdd, unD, Option.map_some, Nat.zero_le, Sh.sz1, Sh.sz2, Sh.sz3, Sh.sz4, Sh.sz5, Sh.sz6, Sh.sz7, Sh.sz8, Sh.sz9, Sh.sz10, Sh.sz11, Sh.sz12, Sh.sz13, Sh.sz14, Sh.sz15, Sh.sz16, Nat.reduceSub, Nat.reduceLeDiff, reduceCtorEq, Bool.and_true, Bool.true_and, Bool.and_false, Bool.false_and, Bool.or_true, Bool.or_false, Bool.true_or, Bool.false_or, opLt_int]
  by_cases h1 : m < 4
  · simp only [eVar_ap, eK_ap, aNil_ap, aCons_ap, eOp2_ap, eOp1_ap, eChain_ap, bOf_ap, bNot_ap, bAnd_ap, bOr_ap, eAnd_ap, eOr_ap, eNot_ap, eIf_ap, eTup_ap, eLst_ap, eLstM_ap, cNop_ap, cBreak_ap, cCont_ap, cSeq_ap, cExpr_ap, cSet_ap, cRet_ap, cRetN_ap, cIf_ap, cAsg_ap, cPar2_ap, cPar3_ap, bYes_ap, eCall_ap, oNone_ap, oSome_ap, eSl_ap, cFor_ap, eMtL_ap, aKw_ap, gNm_ap, gTp2, gTp3, gSb_ap, mkTup0, mkTup1, mkTup2, mkTup3, Out.bind, Out.ofO, exq, fin, callE_ap, List.getElem?_cons_succ, List.getElem?_cons_zero, List.set_cons_succ, List.set_cons_zero, List.map_cons, List.map_nil, List.replicate, List.cons_append, List.nil_append, List.length_cons, List.length_nil, Bool.not_true, Bool.not_false, if_true, if_false, ite_true, ite_false, reduceIte, Bool.false_eq_true, Bool.true_eq_false, Nat.reduceAdd, unD, Option.map_some, Nat.zero_le, Sh.sz1, Sh.sz2, Sh.sz3, Sh.sz4, Sh.sz5, Sh.sz6, Sh.sz7, Sh.sz8, Sh.sz9, Sh.sz10, Sh.sz11, Sh.sz12, Sh.sz13, Sh.sz14, Sh.sz15, Sh.sz16, Nat.reduceSub, Nat.reduceLeDiff, reduceCtorEq, Bool.and_true, Bool.true_and, Bool.and_false, Bool.false_and, Bool.or_true, Bool.or_false, Bool.true_or, Bool.false_or, show decide ((m : Int) < 4) = true from decide_eq_true (by omega), plans_word hm4 hd0 hd4, show (m < 4 ∨ d < 4) = True by simp [h1]]
  · simp only [eVar_ap, eK_ap, aNil_ap, aCons_ap, eOp2_ap, eOp1_ap, eChain_ap, bOf_ap, bNot_ap, bAnd_ap, bOr_ap, eAnd_ap, eOr_ap, eNot_ap, eIf_ap, eTup_ap, eLst_ap, eLstM_ap, cNop_ap, cBreak_ap, cCont_ap, cSeq_ap, cExpr_ap, cSet_ap, cRet_ap, cRetN_ap, cIf_ap, cAsg_ap, cPar2_ap, cPar3_ap, bYes_ap, eCall_ap, oNone_ap, oSome_ap, eSl_ap, cFor_ap, eMtL_ap, aKw_ap, gNm_ap, gTp2, gTp3, gSb_ap, mkTup0, mkTup1, mkTup2, mkTup3, Out.bind, Out.ofO, exq, fin, callE_ap, List.getElem?_cons_succ, List.getElem?_cons_zero, List.set_cons_succ, List.set_cons_zero, List.map_cons, List.map_nil, List.replicate, List.cons_append, List.nil_append, List.length_cons, List.length_nil, Bool.not_true, Bool.not_false, if_true, if_false, ite_true, ite_false, reduceIte, Bool.false_eq_true, Bool.true_eq_false, Nat.reduceAdd, unD, Option.map_some, Nat.zero_le, Sh.sz1, Sh.sz2, Sh.sz3, Sh.sz4, Sh.sz5, Sh.sz6, Sh.sz7, Sh.sz8, Sh.sz9, Sh.sz10, Sh.sz11, Sh.sz12, Sh.sz13, Sh.sz14, Sh.sz15, Sh.sz16, Nat.reduceSub, Nat.reduceLeDiff, reduceCtorEq, Bool.and_true, Bool.true_and, Bool.and_false, Bool.false_and, Bool.or_true, Bool.or_false, Bool.true_or, Bool.false_or, show decide ((m : Int) < 4) = false from decide_eq_false (by omega)]
    by_cases h2 : d < 4
    · simp only [eVar_ap, eK_ap, aNil_ap, aCons_ap, eOp2_ap, eOp1_ap, eChain_ap, bOf_ap, bNot_ap, bAnd_ap, bOr_ap, eAnd_ap, eOr_ap, eNot_ap, eIf_ap, eTup_ap, eLst_ap, eLstM_ap, cNop_ap, cBreak_ap, cCont_ap, cSeq_ap, cExpr_ap, cSet_ap, cRet_ap, cRetN_ap, cIf_ap, cAsg_ap, cPar2_ap, cPar3_ap, bYes_ap, eCall_ap, oNone_ap, oSome_ap, eSl_ap, cFor_ap, eMtL_ap, aKw_ap, gNm_ap, gTp2, gTp3, gSb_ap, mkTup0, mkTup1, mkTup2, mkTup3, Out.bind, Out.ofO, exq, fin, callE_ap, List.getElem?_cons_succ, List.getElem?_cons_zero, List.set_cons_succ, List.set_cons_zero, List.map_cons, List.map_nil, List.replicate, List.cons_append, List.nil_append, List.length_cons, List.length_nil, Bool.not_true, Bool.not_false, if_true, if_false, ite_true, ite_false, reduceIte, Bool.false_eq_true, Bool.true_eq_false, Nat.reduceAdd, unD, Option.map_some, Nat.zero_le, Sh.sz1, Sh.sz2, Sh.sz3, Sh.sz4, Sh.sz5, Sh.sz6, Sh.sz7, Sh.sz8, Sh.sz9, Sh.sz10, Sh.sz11, Sh.sz12, Sh.sz13, Sh.sz14, Sh.sz15, Sh.sz16, Nat.reduceSub, Nat.reduceLeDiff, reduceCtorEq, Bool.and_true, Bool.true_and, Bool.and_false, Bool.false_and, Bool.or_true, Bool.or_false, Bool.true_or, Bool.false_or, show decide ((d : Int) < 4) = true from decide_eq_true (by omega), plans_word hm4 hd0 hd4, show (m < 4 ∨ d < 4) = True by simp [h2]]
    · simp only [eVar_ap, eK_ap, aNil_ap, aCons_ap, eOp2_ap, eOp1_ap, eChain_ap, bOf_ap, bNot_ap, bAnd_ap, bOr_ap, eAnd_ap, eOr_ap, eNot_ap, eIf_ap, eTup_ap, eLst_ap, eLstM_ap, cNop_ap, cBreak_ap, cCont_ap, cSeq_ap, cExpr_ap, cSet_ap, cRet_ap, cRetN_ap, cIf_ap, cAsg_ap, cPar2_ap, cPar3_ap, bYes_ap, eCall_ap, oNone_ap, oSome_ap, eSl_ap, cFor_ap, eMtL_ap, aKw_ap, gNm_ap, gTp2, gTp3, gSb_ap, mkTup0, mkTup1, mkTup2, mkTup3, Out.bind, Out.ofO, exq, fin, callE_ap, List.getElem?_cons_succ, List.getElem?_cons_zero, List.set_cons_succ, List.set_cons_zero, List.map_cons, List.map_nil, List.replicate, List.cons_append, List.nil_append, List.length_cons, List.length_nil, Bool.not_true, Bool.not_false, if_true, if_false, ite_true, ite_false, reduceIte, Bool.false_eq_true, Bool.true_eq_false, Nat.reduceAdd, unD, Option.map_some, Nat.zero_le, Sh.sz1, Sh.sz2, Sh.sz3, Sh.sz4, Sh.sz5, Sh.sz6, Sh.sz7, Sh.sz8, Sh.sz9, Sh.sz10, Sh.sz11, Sh.sz12, Sh.sz13, Sh.sz14, Sh.sz15, Sh.sz16, Nat.reduceSub, Nat.reduceLeDiff, reduceCtorEq, Bool.and_true, Bool.true_and, Bool.and_false, Bool.false_and, Bool.or_true, Bool.or_false, Bool.true_or, Bool.false_or, show decide ((d : Int) < 4) = false from decide_eq_false (by omega), show (m < 4 ∨ d < 4) = False by simp [h1, h2]]
theorem t16b  : (cSet 12 q_law_6) [some s, some (.ref 0), a2, some (.d (.int (n : Int))), some (.d (.int (m : Int))), some (.d (.int (d : Int))), some (.d (zTT sh)), some (.d (zTT ch)), some (.d (nT pl)), some (.d (nT (bp sh ch m))), some (.d (.list ((gs sh ch m).map zL))), some (.d (.list ((pls sh ch m d).map nT))), a12, a13, a14, a15, a16, a17, a18, a19, a20, a21] S = .ok (.nx [some s, some (.ref 0), a2, some (.d (.int (n : Int))), some (.d (.int (m : Int))), some (.d (.int (d : Int))), some (.d (zTT sh)), some (.d (zTT ch)), some (.d (nT pl)), some (.d (nT (bp sh ch m))), some (.d (.list ((gs sh ch m).map zL))), some (.d (.list ((pls sh ch m d).map nT))), some (.d (zL ((pls sh ch m d).map (tot (gs sh ch m))))), a13, a14, a15, a16, a17, a18, a19, a20, a21]) S := by
  have hm4 := Z.m4
  have e5 : ∀ (one : List Nat), one ∈ pls sh ch m d → ∀ a16 : Option W, q_law_5 [some s, some (.ref 0), a2, some (.d (.int (n : Int))), some (.d (.int (m : Int))), some (.d (.int (d : Int))), some (.d (zTT sh)), some (.d (zTT ch)), some (.d (nT pl)), some (.d (nT (bp sh ch m))), some (.d (.list ((gs sh ch m).map zL))), some (.d (.list ((pls sh ch m d).map nT))), a12, a13, a14, a15, a16, some (.d (nT one)), a18, a19, a20, a21] S = .ok (.d (zL ((List.range m).map fun a => ((gs sh ch m).getD a []).getD (one.getD a 0) 0))) S := fun one ho a16 => by
    have h1 := pls_mem Z C ho
    unfold q_law_5
    rw [eLc_y (List.range m) (fun (k : Nat) => W.d (.int (k : Int))) (fun a => .int (((gs sh ch m).getD a []).getD (one.getD a 0) 0)) (grd := fun _ => True) (iRg1_nat (j := m) rfl (by omega)) trivial (by rw [List.length_range]; exact len_le (by omega)) fun a ha => ⟨_, rfl, ?_⟩]
    · simp only [zL, List.map_map]; rfl
    · have ha := List.mem_range.1 ha
      have hx := h1.2 _ (mem_getD (l := one) (k := a) (x0 := 0) (by omega))
      have hgl := gs_row C _ (mem_getD (l := gs sh ch m) (k := a) (x0 := []) (by simp [gs]; omega))
      simp only [eVar_ap, eK_ap, aNil_ap, aCons_ap, eOp2_ap, eOp1_ap, eChain_ap, bOf_ap, bNot_ap, bAnd_ap, bOr_ap, eAnd_ap, eOr_ap, eNot_ap, eIf_ap, eTup_ap, eLst_ap, eLstM_ap, cNop_ap, cBreak_ap, cCont_ap, cSeq_ap, cExpr_ap, cSet_ap, cRet_ap, cRetN_ap, cIf_ap, cAsg_ap, cPar2_ap, cPar3_ap, bYes_ap, eCall_ap, oNone_ap, oSome_ap, eSl_ap, cFor_ap, eMtL_ap, aKw_ap, gNm_ap, gTp2, gTp3, gSb_ap, mkTup0, mkTup1, mkTup2, mkTup3, Out.bind, Out.ofO, exq, fin, callE_ap, List.getElem?_cons_succ, List.getElem?_cons_zero, List.set_cons_succ, List.set_cons_zero, List.map_cons, List.map_nil, List.replicate, List.cons_append, List.nil_append, List.length_cons, List.length_nil, Bool.not_true, Bool.not_false, if_true, if_false, ite_true, ite_false, reduceIte, Bool.false_eq_true, Bool.true_eq_false, Nat.reduceAdd, unD, Option.map_some, Nat.zero_le, Sh.sz1, Sh.sz2, Sh.sz3, Sh.sz4, Sh.sz5, Sh.sz6, Sh.sz7, Sh.sz8, Sh.sz9, Sh.sz10, Sh.sz11, Sh.sz12, Sh.sz13, Sh.sz14, Sh.sz15, Sh.sz16, Nat.reduceSub, Nat.reduceLeDiff, reduceCtorEq, Bool.and_true, Bool.true_and, Bool.and_false, Bool.false_and, Bool.or_true, Bool.or_false, Bool.true_or, Bool.false_or, wipeR, ix_LzL (rs := gs sh ch m) (k := a) (by simp [gs]; omega), ix_nT (r := one) (k := a) (by omega), ix_zL (r := (gs sh ch m).getD a []) (k := one.getD a 0) (by omega)]
  have e : q_law_6 [some s, some (.ref 0), a2, some (.d (.int (n : Int))), some (.d (.int (m : Int))), some (.d (.int (d : Int))), some (.d (zTT sh)), some (.d (zTT ch)), some (.d (nT pl)), some (.d (nT (bp sh ch m))), some (.d (.list ((gs sh ch m).map zL))), some (.d (.list ((pls sh ch m d).map nT))), a12, a13, a14, a15, a16, a17, a18, a19, a20, a21] S = .ok (.d (zL ((pls sh ch m d).map (tot (gs sh ch m))))) S := by
    unfold q_law_6
    rw [eLc_y (pls sh ch m d) (fun one => W.d (nT one)) (fun one => .int (tot (gs sh ch m) one)) (grd := fun _ => True) (iSq_LT rfl) trivial (len_le (pls_len Z C)) fun one ho => ⟨_, rfl, ?_⟩]
    · simp only [zL, List.map_map]; rfl
    · have h1 := pls_mem Z C ho
      simp only [eVar_ap, eK_ap, aNil_ap, aCons_ap, eOp2_ap, eOp1_ap, eChain_ap, bOf_ap, bNot_ap, bAnd_ap, bOr_ap, eAnd_ap, eOr_ap, eNot_ap, eIf_ap, eTup_ap, eLst_ap, eLstM_ap, cNop_ap, cBreak_ap, cCont_ap, cSeq_ap, cExpr_ap, cSet_ap, cRet_ap, cRetN_ap, cIf_ap, cAsg_ap, cPar2_ap, cPar3_ap, bYes_ap, eCall_ap, oNone_ap, oSome_ap, eSl_ap, cFor_ap, eMtL_ap, aKw_ap, gNm_ap, gTp2, gTp3, gSb_ap, mkTup0, mkTup1, mkTup2, mkTup3, Out.bind, Out.ofO, exq, fin, callE_ap, List.getElem?_cons_succ, List.getElem?_cons_zero, List.set_cons_succ, List.set_cons_zero, List.map_cons, List.map_nil, List.replicate, List.cons_append, List.nil_append, List.length_cons, List.length_nil, Bool.not_true, Bool.not_false, if_true, if_false, ite_true, ite_false, reduceIte, Bool.false_eq_true, Bool.true_eq_false, Nat.reduceAdd, unD, Option.map_some, Nat.zero_le, Sh.sz1, Sh.sz2, Sh.sz3, Sh.sz4, Sh.sz5, Sh.sz6, Sh.sz7, Sh.sz8, Sh.sz9, Sh.sz10, Sh.sz11, Sh.sz12, Sh.sz13, Sh.sz14, Sh.sz15, Sh.sz16, Nat.reduceSub, Nat.reduceLeDiff, reduceCtorEq, Bool.and_true, Bool.true_and, Bool.and_false, Bool.false_and, Bool.or_true, Bool.or_false, Bool.true_or, Bool.false_or, wipeR, e5 one ho, sum_zL]
      rw [tot_range (by rw [h1.1]; simp [gs])]
      simp [gs]
  simp only [eVar_ap, eK_ap, aNil_ap, aCons_ap, eOp2_ap, eOp1_ap, eChain_ap, bOf_ap, bNot_ap, bAnd_ap, bOr_ap, eAnd_ap, eOr_ap, eNot_ap, eIf_ap, eTup_ap, eLst_ap, eLstM_ap, cNop_ap, cBreak_ap, cCont_ap, cSeq_ap, cExpr_ap, cSet_ap, cRet_ap, cRetN_ap, cIf_ap, cAsg_ap, cPar2_ap, cPar3_ap, bYes_ap, eCall_ap, oNone_ap, oSome_ap, eSl_ap, cFor_ap, eMtL_ap, aKw_ap, gNm_ap, gTp2, gTp3, gSb_ap, mkTup0, mkTup1, mkTup2, mkTup3, Out.bind, Out.ofO, exq, fin, callE_ap, List.getElem?_cons_succ, List.getElem?_cons_zero, List.set_cons_succ, List.set_cons_zero, List.map_cons, List.map_nil, List.replicate, List.cons_append, List.nil_append, List.length_cons, List.length_nil, Bool.not_true, Bool.not_false, if_true, if_false, ite_true, ite_false, reduceIte, Bool.false_eq_true, Bool.true_eq_false, Nat.reduceAdd, unD, Option.map_some, Nat.zero_le, Sh.sz1, Sh.sz2, Sh.sz3, Sh.sz4, Sh.sz5, Sh.sz6, Sh.sz7, Sh.sz8, Sh.sz9, Sh.sz10, Sh.sz11, Sh.sz12, Sh.sz13, Sh.sz14, Sh.sz15, Sh.sz16, Nat.reduceSub, Nat.reduceLeDiff, reduceCtorEq, Bool.and_true, Bool.true_and, Bool.and_false, Bool.false_and, Bool.or_true, Bool.or_false, Bool.true_or, Bool.false_or, e]
theorem t17  : l_law_17 [some s, some (.ref 0), a2, some (.d (.int (n : Int))), some (.d (.int (m : Int))), some (.d (.int (d : Int))), some (.d (zTT sh)), some (.d (zTT ch)), some (.d (nT pl)), some (.d (nT (bp sh ch m))), some (.d (.list ((gs sh ch m).map zL))), some (.d (.list ((pls sh ch m d).map nT))), some (.d (zL ((pls sh ch m d).map (tot (gs sh ch m))))), a13, a14, a15, a16, a17, a18, a19, a20, a21] S = .ok (.nx [some s, some (.ref 0), a2, some (.d (.int (n : Int))), some (.d (.int (m : Int))), some (.d (.int (d : Int))), some (.d (zTT sh)), some (.d (zTT ch)), some (.d (nT pl)), some (.d (nT (bp sh ch m))), some (.d (.list ((gs sh ch m).map zL))), some (.d (.list ((pls sh ch m d).map nT))), some (.d (zL ((pls sh ch m d).map (tot (gs sh ch m))))), a13, a14, a15, a16, a17, a18, a19, a20, a21]) S := by
  have hlen := pls_len Z C
  have hne := pls_ne Z C
  have hsp := maxI_spec hne
  have hix : ax ((pls sh ch m d).map (tot (gs sh ch m))) < (pls sh ch m d).length := by have := ax_lt hne; rwa [List.length_map] at this
  have hb := bp_PL Z C
  have hbn := ne_self (S := S) (m := 1) (x := nT (bp sh ch m)) (sm_nT (by rw [hb.len]; have := Z.m4; omega))
  unfold l_law_17
  simp only [eVar_ap, eK_ap, aNil_ap, aCons_ap, eOp2_ap, eOp1_ap, eChain_ap, bOf_ap, bNot_ap, bAnd_ap, bOr_ap, eAnd_ap, eOr_ap, eNot_ap, eIf_ap, eTup_ap, eLst_ap, eLstM_ap, cNop_ap, cBreak_ap, cCont_ap, cSeq_ap, cExpr_ap, cSet_ap, cRet_ap, cRetN_ap, cIf_ap, cAsg_ap, cPar2_ap, cPar3_ap, bYes_ap, eCall_ap, oNone_ap, oSome_ap, eSl_ap, cFor_ap, eMtL_ap, aKw_ap, gNm_ap, gTp2, gTp3, gSb_ap, mkTup0, mkTup1, mkTup2, mkTup3, Out.bind, Out.ofO, exq, fin, callE_ap, List.getElem?_cons_succ, List.getElem?_cons_zero, List.set_cons_succ, List.set_cons_zero, List.map_cons, List.map_nil, List.replicate, List.cons_append, List.nil_append, List.length_cons, List.length_nil, Bool.not_true, Bool.not_false, if_true, if_false, ite_true, ite_false, reduceIte, Bool.false_eq_true, Bool.true_eq_false, Nat.reduceAdd, unD, Option.map_some, Nat.zero_le, Sh.sz1, Sh.sz2, Sh.sz3, Sh.sz4, Sh.sz5, Sh.sz6, Sh.sz7, Sh.sz8, Sh.sz9, Sh.sz10, Sh.sz11, Sh.sz12, Sh.sz13, Sh.sz14, Sh.sz15, Sh.sz16, Nat.reduceSub, Nat.reduceLeDiff, reduceCtorEq, Bool.and_true, Bool.true_and, Bool.and_false, Bool.false_and, Bool.or_true, Bool.or_false, Bool.true_or, Bool.false_or, isL_list, max_zL hne, index_zL hsp.1 (by rw [List.length_map]; omega)]
  rw [show List.findIdx (fun x => x == maxI ((pls sh ch m d).map (tot (gs sh ch m)))) ((pls sh ch m d).map (tot (gs sh ch m))) = ax ((pls sh ch m d).map (tot (gs sh ch m))) from rfl]
  simp only [eVar_ap, eK_ap, aNil_ap, aCons_ap, eOp2_ap, eOp1_ap, eChain_ap, bOf_ap, bNot_ap, bAnd_ap, bOr_ap, eAnd_ap, eOr_ap, eNot_ap, eIf_ap, eTup_ap, eLst_ap, eLstM_ap, cNop_ap, cBreak_ap, cCont_ap, cSeq_ap, cExpr_ap, cSet_ap, cRet_ap, cRetN_ap, cIf_ap, cAsg_ap, cPar2_ap, cPar3_ap, bYes_ap, eCall_ap, oNone_ap, oSome_ap, eSl_ap, cFor_ap, eMtL_ap, aKw_ap, gNm_ap, gTp2, gTp3, gSb_ap, mkTup0, mkTup1, mkTup2, mkTup3, Out.bind, Out.ofO, exq, fin, callE_ap, List.getElem?_cons_succ, List.getElem?_cons_zero, List.set_cons_succ, List.set_cons_zero, List.map_cons, List.map_nil, List.replicate, List.cons_append, List.nil_append, List.length_cons, List.length_nil, Bool.not_true, Bool.not_false, if_true, if_false, ite_true, ite_false, reduceIte, Bool.false_eq_true, Bool.true_eq_false, Nat.reduceAdd, unD, Option.map_some, Nat.zero_le, Sh.sz1, Sh.sz2, Sh.sz3, Sh.sz4, Sh.sz5, Sh.sz6, Sh.sz7, Sh.sz8, Sh.sz9, Sh.sz10, Sh.sz11, Sh.sz12, Sh.sz13, Sh.sz14, Sh.sz15, Sh.sz16, Nat.reduceSub, Nat.reduceLeDiff, reduceCtorEq, Bool.and_true, Bool.true_and, Bool.and_false, Bool.false_and, Bool.or_true, Bool.or_false, Bool.true_or, Bool.false_or, ix_LT hix, pls_best Z C, hbn]
theorem t18  : l_law_18 [some s, some (.ref 0), a2, some (.d (.int (n : Int))), some (.d (.int (m : Int))), some (.d (.int (d : Int))), some (.d (zTT sh)), some (.d (zTT ch)), some (.d (nT pl)), some (.d (nT (bp sh ch m))), some (.d (.list ((gs sh ch m).map zL))), some (.d (.list ((pls sh ch m d).map nT))), some (.d (zL ((pls sh ch m d).map (tot (gs sh ch m))))), a13, a14, a15, a16, a17, a18, a19, a20, a21] S = .ok (.nx [some s, some (.ref 0), a2, some (.d (.int (n : Int))), some (.d (.int (m : Int))), some (.d (.int (d : Int))), some (.d (zTT sh)), some (.d (zTT ch)), some (.d (nT pl)), some (.d (nT (bp sh ch m))), some (.d (.list ((gs sh ch m).map zL))), some (.d (.list ((pls sh ch m d).map nT))), some (.d (zL ((pls sh ch m d).map (tot (gs sh ch m))))), a13, a14, a15, a16, a17, a18, a19, a20, a21]) S := by
  unfold l_law_18
  simp only [eVar_ap, eK_ap, aNil_ap, aCons_ap, eOp2_ap, eOp1_ap, eChain_ap, bOf_ap, bNot_ap, bAnd_ap, bOr_ap, eAnd_ap, eOr_ap, eNot_ap, eIf_ap, eTup_ap, eLst_ap, eLstM_ap, cNop_ap, cBreak_ap, cCont_ap, cSeq_ap, cExpr_ap, cSet_ap, cRet_ap, cRetN_ap, cIf_ap, cAsg_ap, cPar2_ap, cPar3_ap, bYes_ap, eCall_ap, oNone_ap, oSome_ap, eSl_ap, cFor_ap, eMtL_ap, aKw_ap, gNm_ap, gTp2, gTp3, gSb_ap, mkTup0, mkTup1, mkTup2, mkTup3, Out.bind, Out.ofO, exq, fin, callE_ap, List.getElem?_cons_succ, List.getElem?_cons_zero, List.set_cons_succ, List.set_cons_zero, List.map_cons, List.map_nil, List.replicate, List.cons_append, List.nil_append, List.length_cons, List.length_nil, Bool.not_true, Bool.not_false, if_true, if_false, ite_true, ite_false, reduceIte, Bool.false_eq_true, Bool.true_eq_false, Nat.reduceAdd, unD, Option.map_some, Nat.zero_le, Sh.sz1, Sh.sz2, Sh.sz3, Sh.sz4, Sh.sz5, Sh.sz6, Sh.sz7, Sh.sz8, Sh.sz9, Sh.sz10, Sh.sz11, Sh.sz12, Sh.sz13, Sh.sz14, Sh.sz15, Sh.sz16, Nat.reduceSub, Nat.reduceLeDiff, reduceCtorEq, Bool.and_true, Bool.true_and, Bool.and_false, Bool.false_and, Bool.or_true, Bool.or_false, Bool.true_or, Bool.false_or, kw2, callP_d (worth_ok (S := []) Z C), callP_d (law_worth_ok (S := []) Z C (bp_PL Z C)), callP_d (same_eq (S := []) (tm_rat (i := wn sh ch (bp sh ch m)) (t := t)))]
end
theorem mul7 {x : PyData} : opMul (.d (.tuple [x])) (.d (.int 7)) S = .ok (.d (.tuple [x, x, x, x, x, x, x])) S := mul_tup (m := 7) (by decide) (by decide)
theorem mul9 {x : PyData} : opMul (.d (.tuple [x])) (.d (.int 9)) S = .ok (.d (.tuple [x, x, x, x, x, x, x, x, x])) S := mul_tup (m := 9) (by decide) (by decide)
theorem t19 (Z : SH sh n m t) (B : Bag S 0 k) (hk : k < 2 ^ 29) : ∃ od S', od ∈ odds sh m ∧ l_law_19 [some s, some (.ref 0), a2, some (.d (.int (n : Int))), some (.d (.int (m : Int))), some (.d (.int (d : Int))), some (.d (zTT sh)), some (.d (zTT ch)), some (.d (nT pl)), some (.d (nT (bp sh ch m))), some (.d (.list ((gs sh ch m).map zL))), some (.d (.list ((pls sh ch m d).map nT))), some (.d (zL ((pls sh ch m d).map (tot (gs sh ch m))))), a13, a14, a15, a16, a17, a18, a19, a20, a21] S = .ok (.nx [some s, some (.ref 0), a2, some (.d (.int (n : Int))), some (.d (.int (m : Int))), some (.d (.int (d : Int))), some (.d (zTT sh)), some (.d (zTT ch)), some (.d (nT pl)), some (.d (nT (bp sh ch m))), some (.d (.list ((gs sh ch m).map zL))), some (.d (.list ((pls sh ch m d).map nT))), some (.d (zL ((pls sh ch m d).map (tot (gs sh ch m))))), some (.d od), a14, a15, a16, a17, a18, a19, a20, a21]) S' ∧ Bag S' 0 (k + 1) := by
  have h4 := Z.m4; have hl := Z.len; have hn := Z.n4; have hn0 := Z.n0; have hm0 := Z.m0
  obtain ⟨q, S1, e1, h1, B1, _, _⟩ := pick_any B (by omega) (many := 12) (by decide) (by decide)
  have hq : q < (odds sh m).length := by simp only [odds, List.length_cons, List.length_nil]; omega
  have hb := getD_mem hq
  have eb := opIx_list (S := S1) (atI_getD hq)
  generalize (odds sh m).getD q .none = od at hb eb
  refine ⟨od, S1, hb, ?_, B1⟩
  unfold odds at eb
  have x3 : opAdd (.d (zT (sh.getD 0 []))) (.d (.tuple [.int 0])) S = .ok (.d (.tuple ((sh.getD 0 []).map .int ++ [.int 0]))) S := by
    rw [opAdd_tup, List.length_map, if_pos (len_le (by rw [head_len Z]; simp; omega))]
  have x4 : ∀ y : PyData, opAdd (.d (zTT sh)) (.d (.tuple [y])) S = .ok (.d (.tuple (sh.map zT ++ [y]))) S := fun y => by
    rw [opAdd_tup, List.length_map, if_pos (len_le (by simp; omega))]
  unfold l_law_19
  simp only [eVar_ap, eK_ap, aNil_ap, aCons_ap, eOp2_ap, eOp1_ap, eChain_ap, bOf_ap, bNot_ap, bAnd_ap, bOr_ap, eAnd_ap, eOr_ap, eNot_ap, eIf_ap, eTup_ap, eLst_ap, eLstM_ap, cNop_ap, cBreak_ap, cCont_ap, cSeq_ap, cExpr_ap, cSet_ap, cRet_ap, cRetN_ap, cIf_ap, cAsg_ap, cPar2_ap, cPar3_ap, bYes_ap, eCall_ap, oNone_ap, oSome_ap, eSl_ap, cFor_ap, eMtL_ap, aKw_ap, gNm_ap, gTp2, gTp3, gSb_ap, mkTup0, mkTup1, mkTup2, mkTup3, Out.bind, Out.ofO, exq, fin, callE_ap, List.getElem?_cons_succ, List.getElem?_cons_zero, List.set_cons_succ, List.set_cons_zero, List.map_cons, List.map_nil, List.replicate, List.cons_append, List.nil_append, List.length_cons, List.length_nil, Bool.not_true, Bool.not_false, if_true, if_false, ite_true, ite_false, reduceIte, Bool.false_eq_true, Bool.true_eq_false, Nat.reduceAdd, unD, Option.map_some, Nat.zero_le, Sh.sz1, Sh.sz2, Sh.sz3, Sh.sz4, Sh.sz5, Sh.sz6, Sh.sz7, Sh.sz8, Sh.sz9, Sh.sz10, Sh.sz11, Sh.sz12, Sh.sz13, Sh.sz14, Sh.sz15, Sh.sz16, Nat.reduceSub, Nat.reduceLeDiff, reduceCtorEq, Bool.and_true, Bool.true_and, Bool.and_false, Bool.false_and, Bool.or_true, Bool.or_false, Bool.true_or, Bool.false_or, ix_head Z, x3, x4, mul_tup (S := S) (x := .int 0) (m := m) hm0 (by omega), bList_tup, opNeg_int, mul7, pick_eq, e1, eb]
theorem t20 (Z : SH sh n m t) (C : CH ch n d) (B : Bag S 0 k) (hk : k < 2 ^ 29) : ∃ wr S', wr ∈ wrongs ch n ∧ l_law_20 [some s, some (.ref 0), a2, some (.d (.int (n : Int))), some (.d (.int (m : Int))), some (.d (.int (d : Int))), some (.d (zTT sh)), some (.d (zTT ch)), some (.d (nT pl)), some (.d (nT (bp sh ch m))), some (.d (.list ((gs sh ch m).map zL))), some (.d (.list ((pls sh ch m d).map nT))), some (.d (zL ((pls sh ch m d).map (tot (gs sh ch m))))), some (.d od), a14, a15, a16, a17, a18, a19, a20, a21] S = .ok (.nx [some s, some (.ref 0), a2, some (.d (.int (n : Int))), some (.d (.int (m : Int))), some (.d (.int (d : Int))), some (.d (zTT sh)), some (.d (zTT ch)), some (.d (nT pl)), some (.d (nT (bp sh ch m))), some (.d (.list ((gs sh ch m).map zL))), some (.d (.list ((pls sh ch m d).map nT))), some (.d (zL ((pls sh ch m d).map (tot (gs sh ch m))))), some (.d od), some (.d wr), a15, a16, a17, a18, a19, a20, a21]) S' ∧ Bag S' 0 (k + 1) := by
  have hl := C.len; have hn := Z.n4; have hn0 := Z.n0; have hd4 := C.d4; have hd0 := C.d0
  obtain ⟨q, S1, e1, h1, B1, _, _⟩ := pick_any B (by omega) (many := 8) (by decide) (by decide)
  have hq : q < (wrongs ch n).length := by simp only [wrongs, List.length_cons, List.length_nil]; omega
  have hb := getD_mem hq
  have eb := opIx_list (S := S1) (atI_getD hq)
  generalize (wrongs ch n).getD q .none = wr at hb eb
  refine ⟨wr, S1, hb, ?_, B1⟩
  unfold wrongs at eb
  have x4 : ∀ y : PyData, opAdd (.d (zTT ch)) (.d (.tuple [y])) S = .ok (.d (.tuple (ch.map zT ++ [y]))) S := fun y => by
    rw [opAdd_tup, List.length_map, if_pos (len_le (by simp; omega))]
  have x0 : opIx (.d (zTT ch)) (.d (.int 0)) S = .ok (.d (zT (ch.getD 0 []))) S := ix_zTT (k := 0) (by omega)
  have m1 : opMul (.d (.tuple [.int 0])) (.d (.int ((n : Int) + 1))) S = .ok (.d (.tuple (List.replicate (n + 1) (.int 0)))) S := mul_tup (m := n + 1) (by omega) (by omega)
  have m2 : ∀ y : PyData, opMul (.d (.tuple [y])) (.d (.int (n : Int))) S = .ok (.d (.tuple (List.replicate n y))) S := fun y => mul_tup hn0 (by omega)
  unfold l_law_20
  simp only [List.replicate] at eb
  simp only [eVar_ap, eK_ap, aNil_ap, aCons_ap, eOp2_ap, eOp1_ap, eChain_ap, bOf_ap, bNot_ap, bAnd_ap, bOr_ap, eAnd_ap, eOr_ap, eNot_ap, eIf_ap, eTup_ap, eLst_ap, eLstM_ap, cNop_ap, cBreak_ap, cCont_ap, cSeq_ap, cExpr_ap, cSet_ap, cRet_ap, cRetN_ap, cIf_ap, cAsg_ap, cPar2_ap, cPar3_ap, bYes_ap, eCall_ap, oNone_ap, oSome_ap, eSl_ap, cFor_ap, eMtL_ap, aKw_ap, gNm_ap, gTp2, gTp3, gSb_ap, mkTup0, mkTup1, mkTup2, mkTup3, Out.bind, Out.ofO, exq, fin, callE_ap, List.getElem?_cons_succ, List.getElem?_cons_zero, List.set_cons_succ, List.set_cons_zero, List.map_cons, List.map_nil, List.replicate, List.cons_append, List.nil_append, List.length_cons, List.length_nil, Bool.not_true, Bool.not_false, if_true, if_false, ite_true, ite_false, reduceIte, Bool.false_eq_true, Bool.true_eq_false, Nat.reduceAdd, unD, Option.map_some, Nat.zero_le, Sh.sz1, Sh.sz2, Sh.sz3, Sh.sz4, Sh.sz5, Sh.sz6, Sh.sz7, Sh.sz8, Sh.sz9, Sh.sz10, Sh.sz11, Sh.sz12, Sh.sz13, Sh.sz14, Sh.sz15, Sh.sz16, Nat.reduceSub, Nat.reduceLeDiff, reduceCtorEq, Bool.and_true, Bool.true_and, Bool.and_false, Bool.false_and, Bool.or_true, Bool.or_false, Bool.true_or, Bool.false_or, opAdd_int, x0, x4, m1, m2, mul9, bList_tup, pick_eq, e1, eb]
theorem t21 (Z : SH sh n m t) (C : CH ch n d) (P : PL pl m d) (B : Bag S 0 k) (hk : k < 2 ^ 29) : ∃ bd S', bd ∈ bads pl m d ∧ l_law_21 [some s, some (.ref 0), a2, some (.d (.int (n : Int))), some (.d (.int (m : Int))), some (.d (.int (d : Int))), some (.d (zTT sh)), some (.d (zTT ch)), some (.d (nT pl)), some (.d (nT (bp sh ch m))), some (.d (.list ((gs sh ch m).map zL))), some (.d (.list ((pls sh ch m d).map nT))), some (.d (zL ((pls sh ch m d).map (tot (gs sh ch m))))), some (.d od), some (.d wr), a15, a16, a17, a18, a19, a20, a21] S = .ok (.nx [some s, some (.ref 0), a2, some (.d (.int (n : Int))), some (.d (.int (m : Int))), some (.d (.int (d : Int))), some (.d (zTT sh)), some (.d (zTT ch)), some (.d (nT pl)), some (.d (nT (bp sh ch m))), some (.d (.list ((gs sh ch m).map zL))), some (.d (.list ((pls sh ch m d).map nT))), some (.d (zL ((pls sh ch m d).map (tot (gs sh ch m))))), some (.d od), some (.d wr), some (.d bd), a16, a17, a18, a19, a20, a21]) S' ∧ Bag S' 0 (k + 1) := by
  have hl := P.len; have hm0 := Z.m0; have hm4 := Z.m4
  obtain ⟨q, S1, e1, h1, B1, _, _⟩ := pick_any B (by omega) (many := 7) (by decide) (by decide)
  have hq : q < (bads pl m d).length := by simp only [bads, List.length_cons, List.length_nil]; omega
  have hb := getD_mem hq
  have eb := opIx_list (S := S1) (atI_getD hq)
  generalize (bads pl m d).getD q .none = bd at hb eb
  refine ⟨bd, S1, hb, ?_, B1⟩
  unfold bads at eb
  have x4 : opAdd (.d (nT pl)) (.d (.tuple [.int 0])) S = .ok (.d (.tuple (pl.map nI ++ [.int 0]))) S := by
    rw [opAdd_tup, List.length_map, if_pos (len_le (by simp; omega))]
  have m2 : ∀ y : PyData, opMul (.d (.tuple [y])) (.d (.int (m : Int))) S = .ok (.d (.tuple (List.replicate m y))) S := fun y => mul_tup hm0 (by omega)
  unfold l_law_21
  simp only [eVar_ap, eK_ap, aNil_ap, aCons_ap, eOp2_ap, eOp1_ap, eChain_ap, bOf_ap, bNot_ap, bAnd_ap, bOr_ap, eAnd_ap, eOr_ap, eNot_ap, eIf_ap, eTup_ap, eLst_ap, eLstM_ap, cNop_ap, cBreak_ap, cCont_ap, cSeq_ap, cExpr_ap, cSet_ap, cRet_ap, cRetN_ap, cIf_ap, cAsg_ap, cPar2_ap, cPar3_ap, bYes_ap, eCall_ap, oNone_ap, oSome_ap, eSl_ap, cFor_ap, eMtL_ap, aKw_ap, gNm_ap, gTp2, gTp3, gSb_ap, mkTup0, mkTup1, mkTup2, mkTup3, Out.bind, Out.ofO, exq, fin, callE_ap, List.getElem?_cons_succ, List.getElem?_cons_zero, List.set_cons_succ, List.set_cons_zero, List.map_cons, List.map_nil, List.replicate, List.cons_append, List.nil_append, List.length_cons, List.length_nil, Bool.not_true, Bool.not_false, if_true, if_false, ite_true, ite_false, reduceIte, Bool.false_eq_true, Bool.true_eq_false, Nat.reduceAdd, unD, Option.map_some, Nat.zero_le, Sh.sz1, Sh.sz2, Sh.sz3, Sh.sz4, Sh.sz5, Sh.sz6, Sh.sz7, Sh.sz8, Sh.sz9, Sh.sz10, Sh.sz11, Sh.sz12, Sh.sz13, Sh.sz14, Sh.sz15, Sh.sz16, Nat.reduceSub, Nat.reduceLeDiff, reduceCtorEq, Bool.and_true, Bool.true_and, Bool.and_false, Bool.false_and, Bool.or_true, Bool.or_false, Bool.true_or, Bool.false_or, x4, opSl_tup, cut1, m2, opNeg_int, bList_tup, pick_eq, e1, eb]
theorem rep3 {x : PyData} : opMul (.d (.list [x])) (.d (.int 3)) S = .ok (.d (.list (List.replicate 3 x))) S := mulL (m := 3) (by decide)
theorem w3 {z : Str} (hz : leafOk (.str z) = true) : opNe (.d (.list (List.replicate 3 (.str z)))) (.d (.list (List.replicate 3 (.str z)))) S = .ok (.d (.bool false)) S := ne_self (m := 1) (sm_list.2 ⟨by simp, fun x hx => by rw [List.eq_of_mem_replicate hx]; exact sm_leaf hz⟩)
theorem t22 (Z : SH sh n m t) (ho : od ∈ odds sh m) : l_law_22 [some s, some (.ref 0), a2, some (.d (.int (n : Int))), some (.d (.int (m : Int))), some (.d (.int (d : Int))), some (.d (zTT sh)), some (.d (zTT ch)), some (.d (nT pl)), some (.d (nT (bp sh ch m))), some (.d (.list ((gs sh ch m).map zL))), some (.d (.list ((pls sh ch m d).map nT))), some (.d (zL ((pls sh ch m d).map (tot (gs sh ch m))))), some (.d od), some (.d wr), some (.d bd), a16, a17, a18, a19, a20, a21] S = .ok (.nx [some s, some (.ref 0), a2, some (.d (.int (n : Int))), some (.d (.int (m : Int))), some (.d (.int (d : Int))), some (.d (zTT sh)), some (.d (zTT ch)), some (.d (nT pl)), some (.d (nT (bp sh ch m))), some (.d (.list ((gs sh ch m).map zL))), some (.d (.list ((pls sh ch m d).map nT))), some (.d (zL ((pls sh ch m d).map (tot (gs sh ch m))))), some (.d od), some (.d wr), some (.d bd), a16, a17, a18, a19, a20, a21]) S := by
  have w1 : q_law_7 [some s, some (.ref 0), a2, some (.d (.int (n : Int))), some (.d (.int (m : Int))), some (.d (.int (d : Int))), some (.d (zTT sh)), some (.d (zTT ch)), some (.d (nT pl)), some (.d (nT (bp sh ch m))), some (.d (.list ((gs sh ch m).map zL))), some (.d (.list ((pls sh ch m d).map nT))), some (.d (zL ((pls sh ch m d).map (tot (gs sh ch m))))), some (.d od), some (.d wr), some (.d bd), a16, a17, a18, a19, a20, a21] S = .ok (.d (.list (List.replicate 3 (.str "sheet")))) S := q_words (iRg1_nat (j := 3) rfl (by decide)) (by decide) fun k hk => ⟨_, rfl, by
    simp only [eVar_ap, eK_ap, aNil_ap, aCons_ap, eOp2_ap, eOp1_ap, eChain_ap, bOf_ap, bNot_ap, bAnd_ap, bOr_ap, eAnd_ap, eOr_ap, eNot_ap, eIf_ap, eTup_ap, eLst_ap, eLstM_ap, cNop_ap, cBreak_ap, cCont_ap, cSeq_ap, cExpr_ap, cSet_ap, cRet_ap, cRetN_ap, cIf_ap, cAsg_ap, cPar2_ap, cPar3_ap, bYes_ap, eCall_ap, oNone_ap, oSome_ap, eSl_ap, cFor_ap, eMtL_ap, aKw_ap, gNm_ap, gTp2, gTp3, gSb_ap, mkTup0, mkTup1, mkTup2, mkTup3, Out.bind, Out.ofO, exq, fin, callE_ap, List.getElem?_cons_succ, List.getElem?_cons_zero, List.set_cons_succ, List.set_cons_zero, List.map_cons, List.map_nil, List.replicate, List.cons_append, List.nil_append, List.length_cons, List.length_nil, Bool.not_true, Bool.not_false, if_true, if_false, ite_true, ite_false, reduceIte, Bool.false_eq_true, Bool.true_eq_false, Nat.reduceAdd, unD, Option.map_some, Nat.zero_le, Sh.sz1, Sh.sz2, Sh.sz3, Sh.sz4, Sh.sz5, Sh.sz6, Sh.sz7, Sh.sz8, Sh.sz9, Sh.sz10, Sh.sz11, Sh.sz12, Sh.sz13, Sh.sz14, Sh.sz15, Sh.sz16, Nat.reduceSub, Nat.reduceLeDiff, reduceCtorEq, Bool.and_true, Bool.true_and, Bool.and_false, Bool.false_and, Bool.or_true, Bool.or_false, Bool.true_or, Bool.false_or, wipeR]
    rw [callP_d (word_x (S := []) (e := "BadSheet") (z := "sheet") hk (by simp) (need_choice_x (S := []) (odd_bad (S := []) Z ho)))]⟩
  have w2 := w3 (S := S) (z := "sheet") (by decide +kernel)
  have r3 := rep3 (S := S) (x := .str "sheet")
  simp only [List.replicate] at w1 w2 r3
  unfold l_law_22
  simp only [eVar_ap, eK_ap, aNil_ap, aCons_ap, eOp2_ap, eOp1_ap, eChain_ap, bOf_ap, bNot_ap, bAnd_ap, bOr_ap, eAnd_ap, eOr_ap, eNot_ap, eIf_ap, eTup_ap, eLst_ap, eLstM_ap, cNop_ap, cBreak_ap, cCont_ap, cSeq_ap, cExpr_ap, cSet_ap, cRet_ap, cRetN_ap, cIf_ap, cAsg_ap, cPar2_ap, cPar3_ap, bYes_ap, eCall_ap, oNone_ap, oSome_ap, eSl_ap, cFor_ap, eMtL_ap, aKw_ap, gNm_ap, gTp2, gTp3, gSb_ap, mkTup0, mkTup1, mkTup2, mkTup3, Out.bind, Out.ofO, exq, fin, callE_ap, List.getElem?_cons_succ, List.getElem?_cons_zero, List.set_cons_succ, List.set_cons_zero, List.map_cons, List.map_nil, List.replicate, List.cons_append, List.nil_append, List.length_cons, List.length_nil, Bool.not_true, Bool.not_false, if_true, if_false, ite_true, ite_false, reduceIte, Bool.false_eq_true, Bool.true_eq_false, Nat.reduceAdd, unD, Option.map_some, Nat.zero_le, Sh.sz1, Sh.sz2, Sh.sz3, Sh.sz4, Sh.sz5, Sh.sz6, Sh.sz7, Sh.sz8, Sh.sz9, Sh.sz10, Sh.sz11, Sh.sz12, Sh.sz13, Sh.sz14, Sh.sz15, Sh.sz16, Nat.reduceSub, Nat.reduceLeDiff, reduceCtorEq, Bool.and_true, Bool.true_and, Bool.and_false, Bool.false_and, Bool.or_true, Bool.or_false, Bool.true_or, Bool.false_or, callP_d (odd_bad (S := []) Z ho), opNotB_b, beq_self_eq_true, w1, r3, w2]
theorem ne_str {z : Str} (hz : leafOk (.str z) = true) : opNe (.d (.str z)) (.d (.str z)) S = .ok (.d (.bool false)) S := ne_self (m := 0) hz
theorem t23 (Z : SH sh n m t) (C : CH ch n d) (P : PL pl m d) (hw : wr ∈ wrongs ch n) (hb : bd ∈ bads pl m d) : l_law_23 [some s, some (.ref 0), a2, some (.d (.int (n : Int))), some (.d (.int (m : Int))), some (.d (.int (d : Int))), some (.d (zTT sh)), some (.d (zTT ch)), some (.d (nT pl)), some (.d (nT (bp sh ch m))), some (.d (.list ((gs sh ch m).map zL))), some (.d (.list ((pls sh ch m d).map nT))), some (.d (zL ((pls sh ch m d).map (tot (gs sh ch m))))), some (.d od), some (.d wr), some (.d bd), a16, a17, a18, a19, a20, a21] S = .ok (.nx [some s, some (.ref 0), a2, some (.d (.int (n : Int))), some (.d (.int (m : Int))), some (.d (.int (d : Int))), some (.d (zTT sh)), some (.d (zTT ch)), some (.d (nT pl)), some (.d (nT (bp sh ch m))), some (.d (.list ((gs sh ch m).map zL))), some (.d (.list ((pls sh ch m d).map nT))), some (.d (zL ((pls sh ch m d).map (tot (gs sh ch m))))), some (.d od), some (.d wr), some (.d bd), a16, a17, a18, a19, a20, a21]) S := by
  have w1 : q_law_8 [some s, some (.ref 0), a2, some (.d (.int (n : Int))), some (.d (.int (m : Int))), some (.d (.int (d : Int))), some (.d (zTT sh)), some (.d (zTT ch)), some (.d (nT pl)), some (.d (nT (bp sh ch m))), some (.d (.list ((gs sh ch m).map zL))), some (.d (.list ((pls sh ch m d).map nT))), some (.d (zL ((pls sh ch m d).map (tot (gs sh ch m))))), some (.d od), some (.d wr), some (.d bd), a16, a17, a18, a19, a20, a21] S = .ok (.d (.list (List.replicate 3 (.str "choice")))) S := q_words (iRg1_nat (j := 3) rfl (by decide)) (by decide) fun k hk => ⟨_, rfl, by
    simp only [eVar_ap, eK_ap, aNil_ap, aCons_ap, eOp2_ap, eOp1_ap, eChain_ap, bOf_ap, bNot_ap, bAnd_ap, bOr_ap, eAnd_ap, eOr_ap, eNot_ap, eIf_ap, eTup_ap, eLst_ap, eLstM_ap, cNop_ap, cBreak_ap, cCont_ap, cSeq_ap, cExpr_ap, cSet_ap, cRet_ap, cRetN_ap, cIf_ap, cAsg_ap, cPar2_ap, cPar3_ap, bYes_ap, eCall_ap, oNone_ap, oSome_ap, eSl_ap, cFor_ap, eMtL_ap, aKw_ap, gNm_ap, gTp2, gTp3, gSb_ap, mkTup0, mkTup1, mkTup2, mkTup3, Out.bind, Out.ofO, exq, fin, callE_ap, List.getElem?_cons_succ, List.getElem?_cons_zero, List.set_cons_succ, List.set_cons_zero, List.map_cons, List.map_nil, List.replicate, List.cons_append, List.nil_append, List.length_cons, List.length_nil, Bool.not_true, Bool.not_false, if_true, if_false, ite_true, ite_false, reduceIte, Bool.false_eq_true, Bool.true_eq_false, Nat.reduceAdd, unD, Option.map_some, Nat.zero_le, Sh.sz1, Sh.sz2, Sh.sz3, Sh.sz4, Sh.sz5, Sh.sz6, Sh.sz7, Sh.sz8, Sh.sz9, Sh.sz10, Sh.sz11, Sh.sz12, Sh.sz13, Sh.sz14, Sh.sz15, Sh.sz16, Nat.reduceSub, Nat.reduceLeDiff, reduceCtorEq, Bool.and_true, Bool.true_and, Bool.and_false, Bool.false_and, Bool.or_true, Bool.or_false, Bool.true_or, Bool.false_or, wipeR]
    rw [callP_d (word_x (S := []) (e := "BadChoice") (z := "choice") hk (by simp) (need_choice_y (S := []) Z (wrong_bad (S := []) C Z.n0 hw)))]⟩
  have w2 := w3 (S := S) (z := "choice") (by decide +kernel)
  have r3 := rep3 (S := S) (x := .str "choice")
  simp only [List.replicate] at w1 w2 r3
  unfold l_law_23
  simp only [eVar_ap, eK_ap, aNil_ap, aCons_ap, eOp2_ap, eOp1_ap, eChain_ap, bOf_ap, bNot_ap, bAnd_ap, bOr_ap, eAnd_ap, eOr_ap, eNot_ap, eIf_ap, eTup_ap, eLst_ap, eLstM_ap, cNop_ap, cBreak_ap, cCont_ap, cSeq_ap, cExpr_ap, cSet_ap, cRet_ap, cRetN_ap, cIf_ap, cAsg_ap, cPar2_ap, cPar3_ap, bYes_ap, eCall_ap, oNone_ap, oSome_ap, eSl_ap, cFor_ap, eMtL_ap, aKw_ap, gNm_ap, gTp2, gTp3, gSb_ap, mkTup0, mkTup1, mkTup2, mkTup3, Out.bind, Out.ofO, exq, fin, callE_ap, List.getElem?_cons_succ, List.getElem?_cons_zero, List.set_cons_succ, List.set_cons_zero, List.map_cons, List.map_nil, List.replicate, List.cons_append, List.nil_append, List.length_cons, List.length_nil, Bool.not_true, Bool.not_false, if_true, if_false, ite_true, ite_false, reduceIte, Bool.false_eq_true, Bool.true_eq_false, Nat.reduceAdd, unD, Option.map_some, Nat.zero_le, Sh.sz1, Sh.sz2, Sh.sz3, Sh.sz4, Sh.sz5, Sh.sz6, Sh.sz7, Sh.sz8, Sh.sz9, Sh.sz10, Sh.sz11, Sh.sz12, Sh.sz13, Sh.sz14, Sh.sz15, Sh.sz16, Nat.reduceSub, Nat.reduceLeDiff, reduceCtorEq, Bool.and_true, Bool.true_and, Bool.and_false, Bool.false_and, Bool.or_true, Bool.or_false, Bool.true_or, Bool.false_or, w1, r3, w2, callP_d (word_p (S := []) (plan_x (S := []) Z C (bad_bad Z C P hb))), ne_str (z := "plan") (by decide +kernel)]
end
theorem turn_ok {S : Sto} {k : Nat} {s : W} {r : List (Option W)} (hr : r.length = 20) (B : Bag S 0 k) (hk : k < 2 ^ 20) : ∃ r' S', r'.length = 20 ∧ l_law_24 (some s :: some (.ref 0) :: r) S = .ok (.nx (some s :: some (.ref 0) :: r')) S' ∧ Bag S' 0 (k + 100) := by
  match r, hr with
  | [a2, a3, a4, a5, a6, a7, a8, a9, a10, a11, a12, a13, a14, a15, a16, a17, a18, a19, a20, a21], _ =>
  obtain ⟨n, m, d, S1, hn, hm, hd, e9, B1⟩ := t9 (s := s) (a2 := a2) (a3 := a3) (a4 := a4) (a5 := a5) (a6 := a6) (a7 := a7) (a8 := a8) (a9 := a9) (a10 := a10) (a11 := a11) (a12 := a12) (a13 := a13) (a14 := a14) (a15 := a15) (a16 := a16) (a17 := a17) (a18 := a18) (a19 := a19) (a20 := a20) (a21 := a21) B (by omega)
  obtain ⟨sh, t, S2, Z, e10, B2⟩ := t10 (d := d) (s := s) (a2 := a2) (a6 := a6) (a7 := a7) (a8 := a8) (a9 := a9) (a10 := a10) (a11 := a11) (a12 := a12) (a13 := a13) (a14 := a14) (a15 := a15) (a16 := a16) (a17 := a17) (a18 := a18) (a19 := a19) (a20 := a20) (a21 := a21) B1 (by omega) hn hm
  obtain ⟨ch, S3, C, e11, B3⟩ := t11 (m := m) (sh := sh) (s := s) (a2 := a2) (a7 := a7) (a8 := a8) (a9 := a9) (a10 := a10) (a11 := a11) (a12 := a12) (a13 := a13) (a14 := a14) (a15 := a15) (a16 := a16) (a17 := a17) (a18 := a18) (a19 := a19) (a20 := a20) (a21 := a21) B2 (by omega) hn hd
  obtain ⟨pl, S4, P, e12, B4⟩ := t12 (n := n) (sh := sh) (ch := ch) (s := s) (a2 := a2) (a8 := a8) (a9 := a9) (a10 := a10) (a11 := a11) (a12 := a12) (a13 := a13) (a14 := a14) (a15 := a15) (a16 := a16) (a17 := a17) (a18 := a18) (a19 := a19) (a20 := a20) (a21 := a21) B3 (by omega) hm hd
  obtain ⟨od, S5, ho, e19, B5⟩ := t19 (d := d) (pl := pl) (ch := ch) (s := s) (a2 := a2) (a13 := a13) (a14 := a14) (a15 := a15) (a16 := a16) (a17 := a17) (a18 := a18) (a19 := a19) (a20 := a20) (a21 := a21) Z B4 (by omega)
  obtain ⟨wr, S6, hw, e20, B6⟩ := t20 (pl := pl) (od := od) (s := s) (a2 := a2) (a14 := a14) (a15 := a15) (a16 := a16) (a17 := a17) (a18 := a18) (a19 := a19) (a20 := a20) (a21 := a21) Z C B5 (by omega)
  obtain ⟨bd, S7, hb, e21, B7⟩ := t21 (od := od) (wr := wr) (s := s) (a2 := a2) (a15 := a15) (a16 := a16) (a17 := a17) (a18 := a18) (a19 := a19) (a20 := a20) (a21 := a21) Z C P B6 (by omega)
  refine ⟨[a2, some (.d (.int (n : Int))), some (.d (.int (m : Int))), some (.d (.int (d : Int))), some (.d (zTT sh)), some (.d (zTT ch)), some (.d (nT pl)), some (.d (nT (bp sh ch m))), some (.d (.list ((gs sh ch m).map zL))), some (.d (.list ((pls sh ch m d).map nT))), some (.d (zL ((pls sh ch m d).map (tot (gs sh ch m))))), some (.d od), some (.d wr), some (.d bd), a16, a17, a18, a19, a20, a21], S7, rfl, ?_, B7.mono (by omega)⟩
  · unfold l_law_24
    rw [seq_nx e9, seq_nx e10, seq_nx e11, seq_nx e12, seq_nx (t13 Z C P), seq_nx (t14 Z C), seq_nx (t14b Z C), seq_nx (t15 Z C), seq_nx (t16 Z C), seq_nx (t16b Z C), seq_nx (t17 Z C), seq_nx (t18 Z C), seq_nx e19, seq_nx e20, seq_nx e21, seq_nx (t22 Z ho), t23 Z C P hw hb]
theorem plain (ns : List Int) (hl : ns.length ≤ 63) : ∃ S', m_law [.fl (ns.map .int)] [] = .ok (.d (.bool true)) S' := by
  have hw := bag_ok (S := []) hl
  have e0 : m__law_bag [.fl (ns.map .int)] [] = .ok (.ref 0) [bagOb ns 0 0 7] := hw.1
  have B0 : Bag [bagOb ns 0 0 7] 0 0 := hw.2
  generalize [bagOb ns 0 0 7] = S0 at e0 B0
  clear hw
  obtain ⟨ρ', S2, e2, ⟨r, hr, rfl⟩, B2⟩ := forL_rg (n := 3) (mk := fun (k : Nat) => W.d (.int (k : Int))) (grd := fun _ => True) (g := gNm 2) (body := l_law_24) (Iv := fun k ρ S => (∃ r : List (Option W), r.length = 20 ∧ ρ = some (.fl (ns.map .int)) :: some (.ref 0) :: r) ∧ Bag S 0 (100 * k)) (fun _ _ _ _ => trivial) (by
    rintro x hx _ S ⟨⟨r, hr, rfl⟩, B⟩
    match r, hr with
    | a2 :: r, hr =>
    obtain ⟨r', S', h', e, B'⟩ := turn_ok (s := .fl (ns.map .int)) (r := some (.d (.int (x : Int))) :: r) hr B (by omega)
    exact ⟨_, _, rfl, _, _, .inl e, ⟨r', h', rfl⟩, B'⟩) (some (.fl (ns.map .int)) :: some (.ref 0) :: List.replicate 20 none) S0 ⟨⟨_, rfl, rfl⟩, B0⟩
  refine ⟨S2, ?_⟩
  unfold m_law defM b_law
  simp only [eVar_ap, eK_ap, aNil_ap, aCons_ap, eOp2_ap, eOp1_ap, eChain_ap, bOf_ap, bNot_ap, bAnd_ap, bOr_ap, eAnd_ap, eOr_ap, eNot_ap, eIf_ap, eTup_ap, eLst_ap, eLstM_ap, cNop_ap, cBreak_ap, cCont_ap, cSeq_ap, cExpr_ap, cSet_ap, cRet_ap, cRetN_ap, cIf_ap, cAsg_ap, cPar2_ap, cPar3_ap, bYes_ap, eCall_ap, oNone_ap, oSome_ap, eSl_ap, cFor_ap, eMtL_ap, aKw_ap, gNm_ap, gTp2, gTp3, gSb_ap, mkTup0, mkTup1, mkTup2, mkTup3, Out.bind, Out.ofO, exq, fin, callE_ap, List.getElem?_cons_succ, List.getElem?_cons_zero, List.set_cons_succ, List.set_cons_zero, List.map_cons, List.map_nil, List.replicate, List.cons_append, List.nil_append, List.length_cons, List.length_nil, Bool.not_true, Bool.not_false, if_true, if_false, ite_true, ite_false, reduceIte, Bool.false_eq_true, Bool.true_eq_false, Nat.reduceAdd, unD, Option.map_some, Nat.zero_le, Sh.sz1, Sh.sz2, Sh.sz3, Sh.sz4, Sh.sz5, Sh.sz6, Sh.sz7, Sh.sz8, Sh.sz9, Sh.sz10, Sh.sz11, Sh.sz12, Sh.sz13, Sh.sz14, Sh.sz15, Sh.sz16, Nat.reduceSub, Nat.reduceLeDiff, reduceCtorEq, Bool.and_true, Bool.true_and, Bool.and_false, Bool.false_and, Bool.or_true, Bool.or_false, Bool.true_or, Bool.false_or, e0]
  rw [iRg1_nat (j := 3) rfl (by decide)]
  simp only [List.replicate] at e2
  simp only [eVar_ap, eK_ap, aNil_ap, aCons_ap, eOp2_ap, eOp1_ap, eChain_ap, bOf_ap, bNot_ap, bAnd_ap, bOr_ap, eAnd_ap, eOr_ap, eNot_ap, eIf_ap, eTup_ap, eLst_ap, eLstM_ap, cNop_ap, cBreak_ap, cCont_ap, cSeq_ap, cExpr_ap, cSet_ap, cRet_ap, cRetN_ap, cIf_ap, cAsg_ap, cPar2_ap, cPar3_ap, bYes_ap, eCall_ap, oNone_ap, oSome_ap, eSl_ap, cFor_ap, eMtL_ap, aKw_ap, gNm_ap, gTp2, gTp3, gSb_ap, mkTup0, mkTup1, mkTup2, mkTup3, Out.bind, Out.ofO, exq, fin, callE_ap, List.getElem?_cons_succ, List.getElem?_cons_zero, List.set_cons_succ, List.set_cons_zero, List.map_cons, List.map_nil, List.replicate, List.cons_append, List.nil_append, List.length_cons, List.length_nil, Bool.not_true, Bool.not_false, if_true, if_false, ite_true, ite_false, reduceIte, Bool.false_eq_true, Bool.true_eq_false, Nat.reduceAdd, unD, Option.map_some, Nat.zero_le, Sh.sz1, Sh.sz2, Sh.sz3, Sh.sz4, Sh.sz5, Sh.sz6, Sh.sz7, Sh.sz8, Sh.sz9, Sh.sz10, Sh.sz11, Sh.sz12, Sh.sz13, Sh.sz14, Sh.sz15, Sh.sz16, Nat.reduceSub, Nat.reduceLeDiff, reduceCtorEq, Bool.and_true, Bool.true_and, Bool.and_false, Bool.false_and, Bool.or_true, Bool.or_false, Bool.true_or, Bool.false_or, e2]
end Law
end

section
set_option maxHeartbeats 4000000
namespace Law
open PySem PySem.Spec PyProof.Rows L2 Sh
def topS (i : Nat) : Stmt := PySem.Challenge.pw_whoknows_k24_plans_and_worths.main.body.getD i (.Pass ⟨0, 0, 0, 0⟩)
abbrev s_is_int : Stmt := topS 7
theorem sc_is_int : FnScope ["thing"] ["thing"] (defScope s_is_int) := ⟨rfl, rfl, rfl, by decide +kernel, rfl, by decide +kernel, by decide +kernel⟩
abbrev s_is_row : Stmt := topS 9
theorem sc_is_row : FnScope ["thing", "low", "high"] ["thing", "low", "high"] (defScope s_is_row) := ⟨rfl, rfl, rfl, by decide +kernel, rfl, by decide +kernel, by decide +kernel⟩
abbrev s_ratio : Stmt := topS 11
theorem sc_ratio : FnScope ["top", "bottom", "divisor"] ["top", "bottom"] (defScope s_ratio) := ⟨rfl, rfl, rfl, by decide +kernel, rfl, by decide +kernel, by decide +kernel⟩
abbrev s_gains_at : Stmt := topS 23
theorem sc_gains_at : FnScope ["sheet", "choice", "answer", "deed", "row", "pay"] ["sheet", "choice", "answer"] (defScope s_gains_at) := ⟨rfl, rfl, rfl, by decide +kernel, rfl, by decide +kernel, by decide +kernel⟩
abbrev s__law_bag : Stmt := topS 29
theorem sc__law_bag : FnScope ["script"] ["script"] (defScope s__law_bag) := ⟨rfl, rfl, rfl, by decide +kernel, rfl, by decide +kernel, by decide +kernel⟩
abbrev s__law_pick : Stmt := topS 30
theorem sc__law_pick : FnScope ["bag", "many", "at", "cell", "got"] ["bag", "many"] (defScope s__law_pick) := ⟨rfl, rfl, rfl, by decide +kernel, rfl, by decide +kernel, by decide +kernel⟩
abbrev s__law_ratio : Stmt := topS 33
theorem sc__law_ratio : FnScope ["top", "bottom", "one", "other"] ["top", "bottom"] (defScope s__law_ratio) := ⟨rfl, rfl, rfl, by decide +kernel, rfl, by decide +kernel, by decide +kernel⟩
abbrev s__law_gains : Stmt := topS 35
theorem sc__law_gains : FnScope ["sheet", "choice", "answer", "deed", "s"] ["sheet", "choice", "answer"] (defScope s__law_gains) := ⟨rfl, rfl, rfl, by decide +kernel, rfl, by decide +kernel, by decide +kernel⟩
abbrev s__law_plans : Stmt := topS 36
theorem sc__law_plans : FnScope ["many", "deeds", "found", "k", "later", "row", "deed"] ["many", "deeds"] (defScope s__law_plans) := ⟨rfl, rfl, rfl, by decide +kernel, rfl, by decide +kernel, by decide +kernel⟩
abbrev s_within : Stmt := topS 8
theorem sc_within : FnScope ["thing", "low", "high"] ["thing", "low", "high"] (defScope s_within) := ⟨rfl, rfl, rfl, by decide +kernel, rfl, by decide +kernel, by decide +kernel⟩
abbrev s_are_deeds : Stmt := topS 20
theorem sc_are_deeds : FnScope ["states", "thing", "most", "payment", "deed", "entry"] ["states", "thing", "most", "payment"] (defScope s_are_deeds) := ⟨rfl, rfl, rfl, by decide +kernel, rfl, by decide +kernel, by decide +kernel⟩
abbrev s_worth_of : Stmt := topS 24
theorem sc_worth_of : FnScope ["sheet", "choice", "tops", "answer"] ["sheet", "choice"] (defScope s_worth_of) := ⟨rfl, rfl, rfl, by decide +kernel, rfl, by decide +kernel, by decide +kernel⟩
abbrev s__law_sheet : Stmt := topS 32
theorem sc__law_sheet : FnScope ["bag", "states", "answers", "total", "found", "k", "row", "j", "at"] ["bag", "states", "answers"] (defScope s__law_sheet) := ⟨rfl, rfl, rfl, by decide +kernel, rfl, by decide +kernel, by decide +kernel⟩
abbrev s__law_worth : Stmt := topS 34
theorem sc__law_worth : FnScope ["sheet", "choice", "plan", "total", "s", "a"] ["sheet", "choice", "plan"] (defScope s__law_worth) := ⟨rfl, rfl, rfl, by decide +kernel, rfl, by decide +kernel, by decide +kernel⟩
abbrev s_are_counts : Stmt := topS 18
theorem sc_are_counts : FnScope ["thing", "height", "most_width", "most_sum", "total", "width", "row", "entry"] ["thing", "height", "most_width", "most_sum"] (defScope s_are_counts) := ⟨rfl, rfl, rfl, by decide +kernel, rfl, by decide +kernel, by decide +kernel⟩
abbrev s_is_sheet : Stmt := topS 19
theorem sc_is_sheet : FnScope ["thing"] ["thing"] (defScope s_is_sheet) := ⟨rfl, rfl, rfl, by decide +kernel, rfl, by decide +kernel, by decide +kernel⟩
abbrev s_need_sheet : Stmt := topS 21
theorem sc_need_sheet : FnScope ["sheet"] ["sheet"] (defScope s_need_sheet) := ⟨rfl, rfl, rfl, by decide +kernel, rfl, by decide +kernel, by decide +kernel⟩
abbrev s_need_choice : Stmt := topS 22
theorem sc_need_choice : FnScope ["sheet", "choice"] ["sheet", "choice"] (defScope s_need_choice) := ⟨rfl, rfl, rfl, by decide +kernel, rfl, by decide +kernel, by decide +kernel⟩
abbrev s_plan_worth : Stmt := topS 25
theorem sc_plan_worth : FnScope ["sheet", "choice", "plan", "many", "total", "answer", "deed"] ["sheet", "choice", "plan"] (defScope s_plan_worth) := ⟨rfl, rfl, rfl, by decide +kernel, rfl, by decide +kernel, by decide +kernel⟩
abbrev s_best_plan : Stmt := topS 26
theorem sc_best_plan : FnScope ["sheet", "choice", "found", "answer", "gains"] ["sheet", "choice"] (defScope s_best_plan) := ⟨rfl, rfl, rfl, by decide +kernel, rfl, by decide +kernel, by decide +kernel⟩
abbrev s_worth : Stmt := topS 27
theorem sc_worth : FnScope ["sheet", "choice"] ["sheet", "choice"] (defScope s_worth) := ⟨rfl, rfl, rfl, by decide +kernel, rfl, by decide +kernel, by decide +kernel⟩
abbrev s__law_word : Stmt := topS 37
theorem sc__law_word : FnScope ["which", "sheet", "choice", "plan", "found"] ["which", "sheet", "choice", "plan"] (defScope s__law_word) := ⟨rfl, rfl, rfl, by decide +kernel, rfl, by decide +kernel, by decide +kernel⟩
abbrev s__law_same : Stmt := topS 31
theorem sc__law_same : FnScope ["found", "due", "k"] ["found", "due"] (defScope s__law_same) := ⟨rfl, rfl, rfl, by decide +kernel, rfl, by decide +kernel, by decide +kernel⟩
abbrev s_law : Stmt := topS 38
theorem sc_law : FnScope ["script", "bag", "turn", "states", "answers", "deeds", "sheet", "choice", "plan", "best", "gains", "plans", "tops", "odd", "wrong", "bad", "a", "one", "k", "which", "s", "row"] ["script"] (defScope s_law) := ⟨rfl, rfl, rfl, by decide +kernel, rfl, by decide +kernel, by decide +kernel⟩
structure Lw0 (K : PySem.W.Frag) (mg : Str → Option Value) where
  a_is_int : Addr
  d_is_int : FuncData
  f_is_int : Fun K "is_int" "is_int" s_is_int a_is_int d_is_int
  g_is_int : mg "is_int" = some (.ref a_is_int)
  b_is_int : Binds K d_is_int ["thing"] []
  a_is_row : Addr
  d_is_row : FuncData
  f_is_row : Fun K "is_row" "is_row" s_is_row a_is_row d_is_row
  g_is_row : mg "is_row" = some (.ref a_is_row)
  b_is_row : Binds K d_is_row ["thing", "low", "high"] []
  a_ratio : Addr
  d_ratio : FuncData
  f_ratio : Fun K "ratio" "ratio" s_ratio a_ratio d_ratio
  g_ratio : mg "ratio" = some (.ref a_ratio)
  b_ratio : Binds K d_ratio ["top", "bottom"] []
  a_gains_at : Addr
  d_gains_at : FuncData
  f_gains_at : Fun K "gains_at" "gains_at" s_gains_at a_gains_at d_gains_at
  g_gains_at : mg "gains_at" = some (.ref a_gains_at)
  b_gains_at : Binds K d_gains_at ["sheet", "choice", "answer"] []
  a__law_bag : Addr
  d__law_bag : FuncData
  f__law_bag : Fun K "_law_bag" "_law_bag" s__law_bag a__law_bag d__law_bag
  g__law_bag : mg "_law_bag" = some (.ref a__law_bag)
  b__law_bag : Binds K d__law_bag ["script"] []
  a__law_pick : Addr
  d__law_pick : FuncData
  f__law_pick : Fun K "_law_pick" "_law_pick" s__law_pick a__law_pick d__law_pick
  g__law_pick : mg "_law_pick" = some (.ref a__law_pick)
  b__law_pick : Binds K d__law_pick ["bag", "many"] []
  a__law_ratio : Addr
  d__law_ratio : FuncData
  f__law_ratio : Fun K "_law_ratio" "_law_ratio" s__law_ratio a__law_ratio d__law_ratio
  g__law_ratio : mg "_law_ratio" = some (.ref a__law_ratio)
  b__law_ratio : Binds K d__law_ratio ["top", "bottom"] []
  a__law_gains : Addr
  d__law_gains : FuncData
  f__law_gains : Fun K "_law_gains" "_law_gains" s__law_gains a__law_gains d__law_gains
  g__law_gains : mg "_law_gains" = some (.ref a__law_gains)
  b__law_gains : Binds K d__law_gains ["sheet", "choice", "answer"] []
  a__law_plans : Addr
  d__law_plans : FuncData
  f__law_plans : Fun K "_law_plans" "_law_plans" s__law_plans a__law_plans d__law_plans
  g__law_plans : mg "_law_plans" = some (.ref a__law_plans)
  b__law_plans : Binds K d__law_plans ["many", "deeds"] []
  a_within : Addr
  d_within : FuncData
  f_within : Fun K "within" "within" s_within a_within d_within
  g_within : mg "within" = some (.ref a_within)
  b_within : Binds K d_within ["thing", "low", "high"] []
  a_are_deeds : Addr
  d_are_deeds : FuncData
  f_are_deeds : Fun K "are_deeds" "are_deeds" s_are_deeds a_are_deeds d_are_deeds
  g_are_deeds : mg "are_deeds" = some (.ref a_are_deeds)
  b_are_deeds : Binds K d_are_deeds ["states", "thing", "most", "payment"] []
  a_worth_of : Addr
  d_worth_of : FuncData
  f_worth_of : Fun K "worth_of" "worth_of" s_worth_of a_worth_of d_worth_of
  g_worth_of : mg "worth_of" = some (.ref a_worth_of)
  b_worth_of : Binds K d_worth_of ["sheet", "choice"] []
  a__law_sheet : Addr
  d__law_sheet : FuncData
  f__law_sheet : Fun K "_law_sheet" "_law_sheet" s__law_sheet a__law_sheet d__law_sheet
  g__law_sheet : mg "_law_sheet" = some (.ref a__law_sheet)
  b__law_sheet : Binds K d__law_sheet ["bag", "states", "answers"] []
  a__law_worth : Addr
  d__law_worth : FuncData
  f__law_worth : Fun K "_law_worth" "_law_worth" s__law_worth a__law_worth d__law_worth
  g__law_worth : mg "_law_worth" = some (.ref a__law_worth)
  b__law_worth : Binds K d__law_worth ["sheet", "choice", "plan"] []
  a_are_counts : Addr
  d_are_counts : FuncData
  f_are_counts : Fun K "are_counts" "are_counts" s_are_counts a_are_counts d_are_counts
  g_are_counts : mg "are_counts" = some (.ref a_are_counts)
  b_are_counts : Binds K d_are_counts ["thing", "height", "most_width", "most_sum"] []
  a_is_sheet : Addr
  d_is_sheet : FuncData
  f_is_sheet : Fun K "is_sheet" "is_sheet" s_is_sheet a_is_sheet d_is_sheet
  g_is_sheet : mg "is_sheet" = some (.ref a_is_sheet)
  b_is_sheet : Binds K d_is_sheet ["thing"] []
  a_need_sheet : Addr
  d_need_sheet : FuncData
  f_need_sheet : Fun K "need_sheet" "need_sheet" s_need_sheet a_need_sheet d_need_sheet
  g_need_sheet : mg "need_sheet" = some (.ref a_need_sheet)
  b_need_sheet : Binds K d_need_sheet ["sheet"] []
  a_need_choice : Addr
  d_need_choice : FuncData
  f_need_choice : Fun K "need_choice" "need_choice" s_need_choice a_need_choice d_need_choice
  g_need_choice : mg "need_choice" = some (.ref a_need_choice)
  b_need_choice : Binds K d_need_choice ["sheet", "choice"] []
  a_plan_worth : Addr
  d_plan_worth : FuncData
  f_plan_worth : Fun K "plan_worth" "plan_worth" s_plan_worth a_plan_worth d_plan_worth
  g_plan_worth : mg "plan_worth" = some (.ref a_plan_worth)
  b_plan_worth : Binds K d_plan_worth ["sheet", "choice", "plan"] []
  a_best_plan : Addr
  d_best_plan : FuncData
  f_best_plan : Fun K "best_plan" "best_plan" s_best_plan a_best_plan d_best_plan
  g_best_plan : mg "best_plan" = some (.ref a_best_plan)
  b_best_plan : Binds K d_best_plan ["sheet", "choice"] []
  a_worth : Addr
  d_worth : FuncData
  f_worth : Fun K "worth" "worth" s_worth a_worth d_worth
  g_worth : mg "worth" = some (.ref a_worth)
  b_worth : Binds K d_worth ["sheet", "choice"] []
  a__law_word : Addr
  d__law_word : FuncData
  f__law_word : Fun K "_law_word" "_law_word" s__law_word a__law_word d__law_word
  g__law_word : mg "_law_word" = some (.ref a__law_word)
  b__law_word : Binds K d__law_word ["which", "sheet", "choice", "plan"] []
  a__law_same : Addr
  d__law_same : FuncData
  f__law_same : Fun K "_law_same" "_law_same" s__law_same a__law_same d__law_same
  g__law_same : mg "_law_same" = some (.ref a__law_same)
  b__law_same : Binds K d__law_same ["found", "due"] []
  a_law : Addr
  d_law : FuncData
  f_law : Fun K "law" "law" s_law a_law d_law
  g_law : mg "law" = some (.ref a_law)
  b_law : Binds K d_law ["script"] []
  k_best_plan_choice_sheet : KB K d_best_plan ["sheet", "choice"] ["choice", "sheet"] [1, 0]
  k_plan_worth_plan_choice_sheet : KB K d_plan_worth ["sheet", "choice", "plan"] ["plan", "choice", "sheet"] [2, 1, 0]
  k_worth_choice_sheet : KB K d_worth ["sheet", "choice"] ["choice", "sheet"] [1, 0]
  t_MOST_STATES : Tok
  c_MOST_STATES : mg "MOST_STATES" = some (.int 6 t_MOST_STATES)
  t_MOST_ANSWERS : Tok
  c_MOST_ANSWERS : mg "MOST_ANSWERS" = some (.int 6 t_MOST_ANSWERS)
  t_MOST_SUM : Tok
  c_MOST_SUM : mg "MOST_SUM" = some (.int 1000 t_MOST_SUM)
  t_MOST_DEEDS : Tok
  c_MOST_DEEDS : mg "MOST_DEEDS" = some (.int 8 t_MOST_DEEDS)
  t_MOST_PAYMENT : Tok
  c_MOST_PAYMENT : mg "MOST_PAYMENT" = some (.int 1000000 t_MOST_PAYMENT)
  n_abs : mg "abs" = none
  n_all : mg "all" = none
  n_bool : mg "bool" = none
  n_enumerate : mg "enumerate" = none
  n_int : mg "int" = none
  n_isinstance : mg "isinstance" = none
  n_len : mg "len" = none
  n_list : mg "list" = none
  n_max : mg "max" = none
  n_range : mg "range" = none
  n_set : mg "set" = none
  n_str : mg "str" = none
  n_sum : mg "sum" = none
  n_tuple : mg "tuple" = none
  n_zip : mg "zip" = none
  g_gcd : mg "gcd" = some (.builtin "math.gcd")
  x_BadChoice : Addr
  r_BadChoice : Rsk K mg "BadChoice" x_BadChoice
  x_BadPlan : Addr
  r_BadPlan : Rsk K mg "BadPlan" x_BadPlan
  x_BadSheet : Addr
  r_BadSheet : Rsk K mg "BadSheet" x_BadSheet
  hx_BadChoice : ∀ n b C, subL subT n "BadChoice" = some b → mg n = some (.ref C) → PySem.W.exmOne K (.ref C) (.ref x_BadChoice) = some b
  hx_BadPlan : ∀ n b C, subL subT n "BadPlan" = some b → mg n = some (.ref C) → PySem.W.exmOne K (.ref C) (.ref x_BadPlan) = some b
  hx_BadSheet : ∀ n b C, subL subT n "BadSheet" = some b → mg n = some (.ref C) → PySem.W.exmOne K (.ref C) (.ref x_BadSheet) = some b
section
variable {P : Program} {w : World} {K : PySem.W.Frag} {mg : Str → Option Value} {base : Heap}
theorem ok_is_int (L : Lw0 K mg) : FnOk P w K mg base (L2.CX P w) 1 L.a_is_int L.d_is_int ["thing"] (spM K mg 1 m_is_int) := by
  refine def_ok L.f_is_int sc_is_int fun cdv A outer s H E hr => ?_
  have tk := tk_body (P := P) (w := w) (K := K) (mg := mg) (base := base) (N := ["thing"]) (qual := "is_int") (scope := defScope s_is_int) (f := L.a_is_int) (cdv := cdv) (A := A) (outer := outer) (s := s) (H := H) (E := E)
  have po := po_body (P := P) (w := w) (K := K) (mg := mg) (base := base) (N := ["thing"]) (qual := "is_int") (scope := defScope s_is_int) (f := L.a_is_int) (cdv := cdv) (A := A) (outer := outer) (s := s) (H := H) (E := E)
  exact sm_one (sm_ret (s_and (s_isi kit_int L.n_isinstance L.n_int (by decide +kernel) (s_var 0)) (s_one (s_not (s_isi kit_bool L.n_isinstance L.n_bool (by decide +kernel) (s_var 0))))))
theorem ok_is_row (L : Lw0 K mg) : FnOk P w K mg base (L2.CX P w) 1 L.a_is_row L.d_is_row ["thing", "low", "high"] (spM K mg 3 m_is_row) := by
  refine def_ok L.f_is_row sc_is_row fun cdv A outer s H E hr => ?_
  have tk := tk_body (P := P) (w := w) (K := K) (mg := mg) (base := base) (N := ["thing", "low", "high"]) (qual := "is_row") (scope := defScope s_is_row) (f := L.a_is_row) (cdv := cdv) (A := A) (outer := outer) (s := s) (H := H) (E := E)
  have po := po_body (P := P) (w := w) (K := K) (mg := mg) (base := base) (N := ["thing", "low", "high"]) (qual := "is_row") (scope := defScope s_is_row) (f := L.a_is_row) (cdv := cdv) (A := A) (outer := outer) (s := s) (H := H) (E := E)
  exact sm_one (sm_ret (s_and (s_isi kit_tuple L.n_isinstance L.n_tuple (by decide +kernel) (s_var 0)) (s_one (s_chain op_le op_le ok_int ok_int (s_var 1) (s_len L.n_len (sa_cons (s_var 0) sa_nil)) (s_var 2)))))
theorem ok_ratio (L : Lw0 K mg) : FnOk P w K mg base (L2.CX P w) 1 L.a_ratio L.d_ratio ["top", "bottom"] (spM K mg 2 m_ratio) := by
  refine def_ok L.f_ratio sc_ratio fun cdv A outer s H E hr => ?_
  have tk := tk_body (P := P) (w := w) (K := K) (mg := mg) (base := base) (N := ["top", "bottom", "divisor"]) (qual := "ratio") (scope := defScope s_ratio) (f := L.a_ratio) (cdv := cdv) (A := A) (outer := outer) (s := s) (H := H) (E := E)
  have po := po_body (P := P) (w := w) (K := K) (mg := mg) (base := base) (N := ["top", "bottom", "divisor"]) (qual := "ratio") (scope := defScope s_ratio) (f := L.a_ratio) (cdv := cdv) (A := A) (outer := outer) (s := s) (H := H) (E := E)
  exact sm_cons (sm_set 2 sc_ratio.nd (s_gcd L.g_gcd (sa_cons (s_var 0) (sa_cons (s_var 1) sa_nil)))) (sm_cons (sm_if (sb_cmp (op_ltS hr.units0) ok_lt (s_var 1) (s_int)) (sm_one (sm_set 2 sc_ratio.nd (s_neg (s_var 2)))) (sm_nil)) (sm_one (sm_ret (s_tup (sa_cons (s_div (s_var 0) (s_var 2)) (sa_cons (s_div (s_var 1) (s_var 2)) sa_nil))))))
theorem ok_gains_at (L : Lw0 K mg) : FnOk P w K mg base (L2.CX P w) 1 L.a_gains_at L.d_gains_at ["sheet", "choice", "answer"] (spM K mg 3 m_gains_at) := by
  refine def_ok L.f_gains_at sc_gains_at fun cdv A outer s H E hr => ?_
  have tk := tk_body (P := P) (w := w) (K := K) (mg := mg) (base := base) (N := ["sheet", "choice", "answer", "deed", "row", "pay"]) (qual := "gains_at") (scope := defScope s_gains_at) (f := L.a_gains_at) (cdv := cdv) (A := A) (outer := outer) (s := s) (H := H) (E := E)
  have po := po_body (P := P) (w := w) (K := K) (mg := mg) (base := base) (N := ["sheet", "choice", "answer", "deed", "row", "pay"]) (qual := "gains_at") (scope := defScope s_gains_at) (f := L.a_gains_at) (cdv := cdv) (A := A) (outer := outer) (s := s) (H := H) (E := E)
  exact sm_one (sm_ret (s_lc rfl sc_gains_at.nd (blk_by (own := [("deed", 3)]) (by kernel_rfl)) (si_sq (s_var 1)) (fun _ _ _ _ _ => sgc_name 3 sc_gains_at.nd) (fun _ _ _ _ _ => sts_nil) (fun _ _ _ _ _ => s_sum rfl L.n_sum (sa_cons (s_lc rfl sc_gains_at.nd (blk_by (own := [("row", 4), ("pay", 5)]) (by kernel_rfl)) (si_zip L.n_zip (sa_cons (s_var 0) (sa_cons (s_var 3) sa_nil))) (fun _ _ _ _ _ => sgc_tup rfl (sgcs_cons (sgc_name 4 sc_gains_at.nd) (sgcs_cons (sgc_name 5 sc_gains_at.nd) (sgcs_nil)))) (fun _ _ _ _ _ => sts_nil) (fun _ _ _ _ _ => s_mul (s_ix (s_var 4) (s_var 2)) (s_var 5))) sa_nil))))
theorem ok__law_bag (L : Lw0 K mg) : FnOk P w K mg base (L2.CX P w) 1 L.a__law_bag L.d__law_bag ["script"] (spM K mg 1 m__law_bag) := by
  refine def_ok L.f__law_bag sc__law_bag fun cdv A outer s H E hr => ?_
  have tk := tk_body (P := P) (w := w) (K := K) (mg := mg) (base := base) (N := ["script"]) (qual := "_law_bag") (scope := defScope s__law_bag) (f := L.a__law_bag) (cdv := cdv) (A := A) (outer := outer) (s := s) (H := H) (E := E)
  have po := po_body (P := P) (w := w) (K := K) (mg := mg) (base := base) (N := ["script"]) (qual := "_law_bag") (scope := defScope s__law_bag) (f := L.a__law_bag) (cdv := cdv) (A := A) (outer := outer) (s := s) (H := H) (E := E)
  exact sm_one (sm_ret (s_lstM (sa_cons (s_list L.n_list (sa_cons (s_var 0) sa_nil)) (sa_cons (s_int) (sa_cons (s_int) (sa_cons (s_int) sa_nil))))))
theorem ok__law_pick (L : Lw0 K mg) : FnOk P w K mg base (L2.CX P w) 1 L.a__law_pick L.d__law_pick ["bag", "many"] (spM K mg 2 m__law_pick) := by
  refine def_ok L.f__law_pick sc__law_pick fun cdv A outer s H E hr => ?_
  have tk := tk_body (P := P) (w := w) (K := K) (mg := mg) (base := base) (N := ["bag", "many", "at", "cell", "got"]) (qual := "_law_pick") (scope := defScope s__law_pick) (f := L.a__law_pick) (cdv := cdv) (A := A) (outer := outer) (s := s) (H := H) (E := E)
  have po := po_body (P := P) (w := w) (K := K) (mg := mg) (base := base) (N := ["bag", "many", "at", "cell", "got"]) (qual := "_law_pick") (scope := defScope s__law_pick) (f := L.a__law_pick) (cdv := cdv) (A := A) (outer := outer) (s := s) (H := H) (E := E)
  exact sm_cons (sm_if (sb_cmp (op_ltS hr.units0) ok_lt (s_ix (s_var 0) (s_int)) (s_var 1)) (sm_cons (sm_set 2 sc__law_pick.nd (s_ix (s_var 0) (s_int))) (sm_cons (sm_set 3 sc__law_pick.nd (s_if (sb_cmp (op_ltS hr.units0) ok_lt (s_var 2) (s_len L.n_len (sa_cons (s_ix (s_var 0) (s_int)) sa_nil))) (s_ix (s_ix (s_var 0) (s_int)) (s_var 2)) (s_add (s_div (s_ix (s_var 0) (s_int)) (s_int)) (s_mul (s_int) (s_var 2))))) (sm_cons (sm_set 3 sc__law_pick.nd (s_if (sb_cmp op_ge ok_int (s_var 3) (s_int)) (s_mul (s_int) (s_var 3)) (s_sub (s_mul (s_neg (s_int)) (s_var 3)) (s_int)))) (sm_cons (sm_if (sb_cmp (op_ltS hr.units0) ok_lt (s_var 3) (s_pow (s_int) (s_int))) (sm_cons (sm_set 3 sc__law_pick.nd (s_mul (s_add (s_add (s_mul (s_var 3) (s_int)) (s_mul (s_int) (s_var 2))) (s_int)) (s_add (s_add (s_var 3) (s_int)) (s_var 2)))) (sm_one (sm_set 3 sc__law_pick.nd (s_add (s_div (s_mul (s_var 3) (s_var 3)) (s_int)) (s_mul (s_var 3) (s_int)))))) (sm_nil)) (sm_cons (sm_asg (s_add (s_var 2) (s_int)) (sg_ix (s_var 0) (s_int))) (sm_cons (sm_asg (s_var 3) (sg_ix (s_var 0) (s_int))) (sm_one (sm_asg (s_mod (s_toInt L.n_int (sa_cons (s_add (s_mul (s_ix (s_var 0) (s_int)) (s_int)) (s_var 3)) sa_nil)) (s_int)) (sg_ix (s_var 0) (s_int)))))))))) (sm_nil)) (sm_cons (sm_set 4 sc__law_pick.nd (s_mod (s_toInt L.n_int (sa_cons (s_ix (s_var 0) (s_int)) sa_nil)) (s_var 1))) (sm_cons (sm_asg (s_div (s_ix (s_var 0) (s_int)) (s_var 1)) (sg_ix (s_var 0) (s_int))) (sm_one (sm_ret (s_var 4)))))
theorem ok__law_ratio (L : Lw0 K mg) : FnOk P w K mg base (L2.CX P w) 1 L.a__law_ratio L.d__law_ratio ["top", "bottom"] (spM K mg 2 m__law_ratio) := by
  refine def_ok L.f__law_ratio sc__law_ratio fun cdv A outer s H E hr => ?_
  have tk := tk_body (P := P) (w := w) (K := K) (mg := mg) (base := base) (N := ["top", "bottom", "one", "other"]) (qual := "_law_ratio") (scope := defScope s__law_ratio) (f := L.a__law_ratio) (cdv := cdv) (A := A) (outer := outer) (s := s) (H := H) (E := E)
  have po := po_body (P := P) (w := w) (K := K) (mg := mg) (base := base) (N := ["top", "bottom", "one", "other"]) (qual := "_law_ratio") (scope := defScope s__law_ratio) (f := L.a__law_ratio) (cdv := cdv) (A := A) (outer := outer) (s := s) (H := H) (E := E)
  exact sm_cons (sm_par2 rfl sc__law_ratio.nd (sa_cons (s_abs L.n_abs (sa_cons (s_var 0) sa_nil)) (sa_cons (s_var 1) sa_nil))) (sm_cons (sm_while po (sb_cmp (op_neD hr.units) ok_ne (s_var 3) (s_int)) (sm_one (sm_par2 rfl sc__law_ratio.nd (sa_cons (s_var 3) (sa_cons (s_mod (s_toInt L.n_int (sa_cons (s_var 2) sa_nil)) (s_var 3)) sa_nil))))) (sm_one (sm_ret (s_tup (sa_cons (s_div (s_var 0) (s_var 2)) (sa_cons (s_div (s_var 1) (s_var 2)) sa_nil))))))
theorem ok__law_gains (L : Lw0 K mg) : FnOk P w K mg base (L2.CX P w) 1 L.a__law_gains L.d__law_gains ["sheet", "choice", "answer"] (spM K mg 3 m__law_gains) := by
  refine def_ok L.f__law_gains sc__law_gains fun cdv A outer s H E hr => ?_
  have tk := tk_body (P := P) (w := w) (K := K) (mg := mg) (base := base) (N := ["sheet", "choice", "answer", "deed", "s"]) (qual := "_law_gains") (scope := defScope s__law_gains) (f := L.a__law_gains) (cdv := cdv) (A := A) (outer := outer) (s := s) (H := H) (E := E)
  have po := po_body (P := P) (w := w) (K := K) (mg := mg) (base := base) (N := ["sheet", "choice", "answer", "deed", "s"]) (qual := "_law_gains") (scope := defScope s__law_gains) (f := L.a__law_gains) (cdv := cdv) (A := A) (outer := outer) (s := s) (H := H) (E := E)
  exact sm_one (sm_ret (s_lc rfl sc__law_gains.nd (blk_by (own := [("deed", 3)]) (by kernel_rfl)) (si_sq (s_var 1)) (fun _ _ _ _ _ => sgc_name 3 sc__law_gains.nd) (fun _ _ _ _ _ => sts_nil) (fun _ _ _ _ _ => s_sum rfl L.n_sum (sa_cons (s_lc rfl sc__law_gains.nd (blk_by (own := [("s", 4)]) (by kernel_rfl)) (si_rng1 L.n_range (s_len L.n_len (sa_cons (s_var 0) sa_nil))) (fun _ _ _ _ _ => sgc_name 4 sc__law_gains.nd) (fun _ _ _ _ _ => sts_nil) (fun _ _ _ _ _ => s_mul (s_ix (s_ix (s_var 0) (s_var 4)) (s_var 2)) (s_ix (s_var 3) (s_var 4)))) sa_nil))))
theorem ok__law_plans (L : Lw0 K mg) : FnOk P w K mg base (L2.CX P w) 1 L.a__law_plans L.d__law_plans ["many", "deeds"] (spM K mg 2 m__law_plans) := by
  refine def_ok L.f__law_plans sc__law_plans fun cdv A outer s H E hr => ?_
  have tk := tk_body (P := P) (w := w) (K := K) (mg := mg) (base := base) (N := ["many", "deeds", "found", "k", "later", "row", "deed"]) (qual := "_law_plans") (scope := defScope s__law_plans) (f := L.a__law_plans) (cdv := cdv) (A := A) (outer := outer) (s := s) (H := H) (E := E)
  have po := po_body (P := P) (w := w) (K := K) (mg := mg) (base := base) (N := ["many", "deeds", "found", "k", "later", "row", "deed"]) (qual := "_law_plans") (scope := defScope s__law_plans) (f := L.a__law_plans) (cdv := cdv) (A := A) (outer := outer) (s := s) (H := H) (E := E)
  exact sm_cons (sm_set 2 sc__law_plans.nd (s_lst (sa_cons (s_tup sa_nil) sa_nil))) (sm_cons (sm_for po rfl (si_rng1 L.n_range (s_var 0)) (sg_name 3 sc__law_plans.nd) (sm_cons (sm_set 4 sc__law_plans.nd (s_lstM sa_nil)) (sm_cons (sm_for po rfl (si_sq (s_var 2)) (sg_name 5 sc__law_plans.nd) (sm_one (sm_expr (s_mtL PySem.F.slot_list_extend PySem.F.type_list_extend mt_extend ok_extend (s_var 4) (sa_cons (s_lc rfl sc__law_plans.nd (blk_by (own := [("deed", 6)]) (by kernel_rfl)) (si_rng1 L.n_range (s_var 1)) (fun _ _ _ _ _ => sgc_name 6 sc__law_plans.nd) (fun _ _ _ _ _ => sts_nil) (fun _ _ _ _ _ => s_add (s_var 5) (s_tup (sa_cons (s_var 6) sa_nil)))) sa_nil))))) (sm_one (sm_set 2 sc__law_plans.nd (s_var 4)))))) (sm_one (sm_ret (s_var 2))))
theorem ok_within (L : Lw0 K mg) : FnOk P w K mg base (L2.CX P w) 2 L.a_within L.d_within ["thing", "low", "high"] (spM K mg 3 m_within) := by
  refine def_ok L.f_within sc_within fun cdv A outer s H E hr => ?_
  have tk := tk_body (P := P) (w := w) (K := K) (mg := mg) (base := base) (N := ["thing", "low", "high"]) (qual := "within") (scope := defScope s_within) (f := L.a_within) (cdv := cdv) (A := A) (outer := outer) (s := s) (H := H) (E := E)
  have po := po_body (P := P) (w := w) (K := K) (mg := mg) (base := base) (N := ["thing", "low", "high"]) (qual := "within") (scope := defScope s_within) (f := L.a_within) (cdv := cdv) (A := A) (outer := outer) (s := s) (H := H) (E := E)
  exact sm_one (sm_ret (s_and (s_callP tk (ok_is_int L) (hr.mono (by decide)) L.g_is_int L.f_is_int.kp L.b_is_int (sa_cons (s_var 0) sa_nil) (hlen := (alen_cons alen_nil))) (s_one (s_chain op_le op_le ok_int ok_int (s_var 1) (s_var 0) (s_var 2)))))
theorem ok_are_deeds (L : Lw0 K mg) : FnOk P w K mg base (L2.CX P w) 2 L.a_are_deeds L.d_are_deeds ["states", "thing", "most", "payment"] (spM K mg 4 m_are_deeds) := by
  refine def_ok L.f_are_deeds sc_are_deeds fun cdv A outer s H E hr => ?_
  have tk := tk_body (P := P) (w := w) (K := K) (mg := mg) (base := base) (N := ["states", "thing", "most", "payment", "deed", "entry"]) (qual := "are_deeds") (scope := defScope s_are_deeds) (f := L.a_are_deeds) (cdv := cdv) (A := A) (outer := outer) (s := s) (H := H) (E := E)
  have po := po_body (P := P) (w := w) (K := K) (mg := mg) (base := base) (N := ["states", "thing", "most", "payment", "deed", "entry"]) (qual := "are_deeds") (scope := defScope s_are_deeds) (f := L.a_are_deeds) (cdv := cdv) (A := A) (outer := outer) (s := s) (H := H) (E := E)
  exact sm_cons (sm_if (sb_w (sw_or (sb_not (sb_val (s_isi kit_tuple L.n_isinstance L.n_tuple (by decide +kernel) (s_var 1)))) (sw_or (sb_cmp (op_eqD hr.units) ok_eq (s_var 1) (s_tup sa_nil)) (sw_or1 (sb_w (sw_and (sb_cmp op_notN ok_notN (s_var 2) (s_non)) (sw_and1 (sb_cmp op_gt ok_int (s_len L.n_len (sa_cons (s_var 1) sa_nil)) (s_var 2))))))))) (sm_one (sm_ret (s_bl))) (sm_nil)) (sm_cons (sm_if (sb_not (sb_val (s_all rfl L.n_all (sa_cons (s_lc rfl sc_are_deeds.nd (blk_by (own := [("deed", 4)]) (by kernel_rfl)) (si_sq (s_var 1)) (fun _ _ _ _ _ => sgc_name 4 sc_are_deeds.nd) (fun _ _ _ _ _ => sts_nil) (fun _ _ _ _ _ => s_and (s_callP tk0 (ok_is_row L) (hr.mono (by decide)) L.g_is_row L.f_is_row.kp L.b_is_row (sa_cons (s_var 4) (sa_cons (s_var 0) (sa_cons (s_var 0) sa_nil))) (hlen := (alen_cons (alen_cons (alen_cons alen_nil))))) (s_one (s_all rfl L.n_all (sa_cons (s_lc rfl sc_are_deeds.nd (blk_by (own := [("entry", 5)]) (by kernel_rfl)) (si_sq (s_var 4)) (fun _ _ _ _ _ => sgc_name 5 sc_are_deeds.nd) (fun _ _ _ _ _ => sts_nil) (fun _ _ _ _ _ => s_callP tk0 (ok_is_int L) (hr.mono (by decide)) L.g_is_int L.f_is_int.kp L.b_is_int (sa_cons (s_var 5) sa_nil) (hlen := (alen_cons alen_nil)))) sa_nil))))) sa_nil)))) (sm_one (sm_ret (s_bl))) (sm_nil)) (sm_one (sm_ret (s_or (s_cmp op_isN ok_isN (s_var 3) (s_non)) (s_one (s_all rfl L.n_all (sa_cons (s_lc2 rfl sc_are_deeds.nd (blk_by (own := [("deed", 4), ("entry", 5)]) (by kernel_rfl)) (by decide) (si_sq (s_var 1)) (fun _ _ _ _ _ => sgc_name 4 sc_are_deeds.nd) (fun _ _ _ _ _ => sts_nil) (fun _ _ _ _ _ => si_sq (s_var 4)) (fun _ _ _ _ _ => sgc_name 5 sc_are_deeds.nd) (fun _ _ _ _ _ => sts_nil) (fun _ _ _ _ _ => s_cmp op_le ok_int (s_abs L.n_abs (sa_cons (s_var 5) sa_nil)) (s_var 3))) sa_nil)))))))
theorem ok_worth_of (L : Lw0 K mg) : FnOk P w K mg base (L2.CX P w) 2 L.a_worth_of L.d_worth_of ["sheet", "choice"] (spM K mg 2 m_worth_of) := by
  refine def_ok L.f_worth_of sc_worth_of fun cdv A outer s H E hr => ?_
  have tk := tk_body (P := P) (w := w) (K := K) (mg := mg) (base := base) (N := ["sheet", "choice", "tops", "answer"]) (qual := "worth_of") (scope := defScope s_worth_of) (f := L.a_worth_of) (cdv := cdv) (A := A) (outer := outer) (s := s) (H := H) (E := E)
  have po := po_body (P := P) (w := w) (K := K) (mg := mg) (base := base) (N := ["sheet", "choice", "tops", "answer"]) (qual := "worth_of") (scope := defScope s_worth_of) (f := L.a_worth_of) (cdv := cdv) (A := A) (outer := outer) (s := s) (H := H) (E := E)
  exact sm_cons (sm_setLc 2 rfl sc_worth_of.nd (blk_by (own := [("answer", 3)]) (by kernel_rfl)) (si_rng1 L.n_range (s_len L.n_len (sa_cons (s_ix (s_var 0) (s_int)) sa_nil))) (fun _ _ _ _ _ => sgc_name 3 sc_worth_of.nd) (fun _ _ _ _ _ => sts_nil) (fun _ _ _ _ _ => s_max rfl L.n_max (sa_cons (s_callP tk0 (ok_gains_at L) (hr.mono (by decide)) L.g_gains_at L.f_gains_at.kp L.b_gains_at (sa_cons (s_var 0) (sa_cons (s_var 1) (sa_cons (s_var 3) sa_nil))) (hlen := (alen_cons (alen_cons (alen_cons alen_nil))))) sa_nil))) (sm_one (sm_ret (s_callP tk (ok_ratio L) (hr.mono (by decide)) L.g_ratio L.f_ratio.kp L.b_ratio (sa_cons (s_sum rfl L.n_sum (sa_cons (s_var 2) sa_nil)) (sa_cons (s_sum rfl L.n_sum (sa_cons (s_ix (s_var 0) (s_int)) sa_nil)) sa_nil)) (hlen := (alen_cons (alen_cons alen_nil))))))
theorem ok__law_sheet (L : Lw0 K mg) : FnOk P w K mg base (L2.CX P w) 2 L.a__law_sheet L.d__law_sheet ["bag", "states", "answers"] (spM K mg 3 m__law_sheet) := by
  refine def_ok L.f__law_sheet sc__law_sheet fun cdv A outer s H E hr => ?_
  have tk := tk_body (P := P) (w := w) (K := K) (mg := mg) (base := base) (N := ["bag", "states", "answers", "total", "found", "k", "row", "j", "at"]) (qual := "_law_sheet") (scope := defScope s__law_sheet) (f := L.a__law_sheet) (cdv := cdv) (A := A) (outer := outer) (s := s) (H := H) (E := E)
  have po := po_body (P := P) (w := w) (K := K) (mg := mg) (base := base) (N := ["bag", "states", "answers", "total", "found", "k", "row", "j", "at"]) (qual := "_law_sheet") (scope := defScope s__law_sheet) (f := L.a__law_sheet) (cdv := cdv) (A := A) (outer := outer) (s := s) (H := H) (E := E)
  exact sm_cons (sm_par2 rfl sc__law_sheet.nd (sa_cons (s_add (s_int) (s_callE tk (ok__law_pick L) (hr.mono (by decide)) L.g__law_pick L.f__law_pick.kp L.b__law_pick (sa_cons (s_var 0) (sa_cons (s_int) sa_nil)) (hlen := (alen_cons (alen_cons alen_nil))))) (sa_cons (s_lstM sa_nil) sa_nil))) (sm_cons (sm_for po rfl (si_rng1 L.n_range (s_var 1)) (sg_name 5 sc__law_sheet.nd) (sm_cons (sm_set 6 sc__law_sheet.nd (s_bin op_mulS ok_mulM (s_lst (sa_cons (s_int) sa_nil)) (s_var 2))) (sm_cons (sm_for po rfl (si_rng1 L.n_range (s_var 3)) (sg_name 7 sc__law_sheet.nd) (sm_cons (sm_set 8 sc__law_sheet.nd (s_callE tk (ok__law_pick L) (hr.mono (by decide)) L.g__law_pick L.f__law_pick.kp L.b__law_pick (sa_cons (s_var 0) (sa_cons (s_var 2) sa_nil)) (hlen := (alen_cons (alen_cons alen_nil))))) (sm_one (sm_asg (s_add (s_ix (s_var 6) (s_var 8)) (s_int)) (sg_ix (s_var 6) (s_var 8)))))) (sm_one (sm_expr (s_mtL PySem.F.slot_list_append PySem.F.type_list_append mt_append ok_append (s_var 4) (sa_cons (s_tuple L.n_tuple (sa_cons (s_var 6) sa_nil)) sa_nil))))))) (sm_one (sm_ret (s_tuple L.n_tuple (sa_cons (s_var 4) sa_nil)))))
theorem ok__law_worth (L : Lw0 K mg) : FnOk P w K mg base (L2.CX P w) 2 L.a__law_worth L.d__law_worth ["sheet", "choice", "plan"] (spM K mg 3 m__law_worth) := by
  refine def_ok L.f__law_worth sc__law_worth fun cdv A outer s H E hr => ?_
  have tk := tk_body (P := P) (w := w) (K := K) (mg := mg) (base := base) (N := ["sheet", "choice", "plan", "total", "s", "a"]) (qual := "_law_worth") (scope := defScope s__law_worth) (f := L.a__law_worth) (cdv := cdv) (A := A) (outer := outer) (s := s) (H := H) (E := E)
  have po := po_body (P := P) (w := w) (K := K) (mg := mg) (base := base) (N := ["sheet", "choice", "plan", "total", "s", "a"]) (qual := "_law_worth") (scope := defScope s__law_worth) (f := L.a__law_worth) (cdv := cdv) (A := A) (outer := outer) (s := s) (H := H) (E := E)
  exact sm_cons (sm_set 3 sc__law_worth.nd (s_int)) (sm_cons (sm_for po rfl (si_rng1 L.n_range (s_len L.n_len (sa_cons (s_var 0) sa_nil))) (sg_name 4 sc__law_worth.nd) (sm_one (sm_set 3 sc__law_worth.nd (s_add (s_var 3) (s_sum rfl L.n_sum (sa_cons (s_lc rfl sc__law_worth.nd (blk_by (own := [("a", 5)]) (by kernel_rfl)) (si_rng1 L.n_range (s_len L.n_len (sa_cons (s_var 2) sa_nil))) (fun _ _ _ _ _ => sgc_name 5 sc__law_worth.nd) (fun _ _ _ _ _ => sts_nil) (fun _ _ _ _ _ => s_mul (s_ix (s_ix (s_var 0) (s_var 4)) (s_var 5)) (s_ix (s_ix (s_var 1) (s_ix (s_var 2) (s_var 5))) (s_var 4)))) sa_nil)))))) (sm_one (sm_ret (s_callP tk (ok__law_ratio L) (hr.mono (by decide)) L.g__law_ratio L.f__law_ratio.kp L.b__law_ratio (sa_cons (s_var 3) (sa_cons (s_sum rfl L.n_sum (sa_cons (s_ix (s_var 0) (s_int)) sa_nil)) sa_nil)) (hlen := (alen_cons (alen_cons alen_nil)))))))
theorem ok_are_counts (L : Lw0 K mg) : FnOk P w K mg base (L2.CX P w) 3 L.a_are_counts L.d_are_counts ["thing", "height", "most_width", "most_sum"] (spM K mg 4 m_are_counts) := by
  refine def_ok L.f_are_counts sc_are_counts fun cdv A outer s H E hr => ?_
  have tk := tk_body (P := P) (w := w) (K := K) (mg := mg) (base := base) (N := ["thing", "height", "most_width", "most_sum", "total", "width", "row", "entry"]) (qual := "are_counts") (scope := defScope s_are_counts) (f := L.a_are_counts) (cdv := cdv) (A := A) (outer := outer) (s := s) (H := H) (E := E)
  have po := po_body (P := P) (w := w) (K := K) (mg := mg) (base := base) (N := ["thing", "height", "most_width", "most_sum", "total", "width", "row", "entry"]) (qual := "are_counts") (scope := defScope s_are_counts) (f := L.a_are_counts) (cdv := cdv) (A := A) (outer := outer) (s := s) (H := H) (E := E)
  exact sm_cons (sm_if (sb_w (sw_or (sb_not (sb_val (s_isi kit_tuple L.n_isinstance L.n_tuple (by decide +kernel) (s_var 0)))) (sw_or1 (sb_not (sb_val (s_callP tk (ok_within L) (hr.mono (by decide)) L.g_within L.f_within.kp L.b_within (sa_cons (s_len L.n_len (sa_cons (s_var 0) sa_nil)) (sa_cons (s_ix (s_var 1) (s_int)) (sa_cons (s_ix (s_var 1) (s_int)) sa_nil))) (hlen := (alen_cons (alen_cons (alen_cons alen_nil)))))))))) (sm_one (sm_ret (s_bl))) (sm_nil)) (sm_cons (sm_if (sb_not (sb_val (s_all rfl L.n_all (sa_cons (s_lc rfl sc_are_counts.nd (blk_by (own := [("row", 6)]) (by kernel_rfl)) (si_sq (s_var 0)) (fun _ _ _ _ _ => sgc_name 6 sc_are_counts.nd) (fun _ _ _ _ _ => sts_nil) (fun _ _ _ _ _ => s_and (s_isi kit_tuple L.n_isinstance L.n_tuple (by decide +kernel) (s_var 6)) (s_one (s_cmp op_ge ok_int (s_len L.n_len (sa_cons (s_var 6) sa_nil)) (s_int))))) sa_nil)))) (sm_one (sm_ret (s_bl))) (sm_nil)) (sm_cons (sm_if (sb_not (sb_val (s_all rfl L.n_all (sa_cons (s_lc2 rfl sc_are_counts.nd (blk_by (own := [("row", 6), ("entry", 7)]) (by kernel_rfl)) (by decide) (si_sq (s_var 0)) (fun _ _ _ _ _ => sgc_name 6 sc_are_counts.nd) (fun _ _ _ _ _ => sts_nil) (fun _ _ _ _ _ => si_sq (s_var 6)) (fun _ _ _ _ _ => sgc_name 7 sc_are_counts.nd) (fun _ _ _ _ _ => sts_nil) (fun _ _ _ _ _ => s_and (s_callP tk0 (ok_is_int L) (hr.mono (by decide)) L.g_is_int L.f_is_int.kp L.b_is_int (sa_cons (s_var 7) sa_nil) (hlen := (alen_cons alen_nil))) (s_one (s_cmp op_ge ok_int (s_var 7) (s_int))))) sa_nil)))) (sm_one (sm_ret (s_bl))) (sm_nil)) (sm_cons (sm_if (sb_w (sw_or (sb_cmp op_gt ok_int (s_lenSet rfl L.n_len L.n_set (s_lc rfl sc_are_counts.nd (blk_by (own := [("row", 6)]) (by kernel_rfl)) (si_sq (s_var 0)) (fun _ _ _ _ _ => sgc_name 6 sc_are_counts.nd) (fun _ _ _ _ _ => sts_nil) (fun _ _ _ _ _ => s_len L.n_len (sa_cons (s_var 6) sa_nil)))) (s_int)) (sw_or1 (sb_cmp op_gt ok_int (s_lenSet rfl L.n_len L.n_set (s_lc rfl sc_are_counts.nd (blk_by (own := [("row", 6)]) (by kernel_rfl)) (si_sq (s_var 0)) (fun _ _ _ _ _ => sgc_name 6 sc_are_counts.nd) (fun _ _ _ _ _ => sts_nil) (fun _ _ _ _ _ => s_sum rfl L.n_sum (sa_cons (s_var 6) sa_nil)))) (s_int))))) (sm_one (sm_ret (s_bl))) (sm_nil)) (sm_cons (sm_par2 rfl sc_are_counts.nd (sa_cons (s_sum rfl L.n_sum (sa_cons (s_ix (s_var 0) (s_int)) sa_nil)) (sa_cons (s_len L.n_len (sa_cons (s_ix (s_var 0) (s_int)) sa_nil)) sa_nil))) (sm_one (sm_ret (s_and (s_cmp op_ge ok_int (s_var 4) (s_int)) (s_and (s_or (s_cmp op_isN ok_isN (s_var 3) (s_non)) (s_one (s_cmp op_le ok_int (s_var 4) (s_var 3)))) (s_one (s_or (s_cmp op_isN ok_isN (s_var 2) (s_non)) (s_one (s_cmp op_le ok_int (s_var 5) (s_var 2)))))))))))))
theorem ok_is_sheet (L : Lw0 K mg) : FnOk P w K mg base (L2.CX P w) 4 L.a_is_sheet L.d_is_sheet ["thing"] (spM K mg 1 m_is_sheet) := by
  refine def_ok L.f_is_sheet sc_is_sheet fun cdv A outer s H E hr => ?_
  have tk := tk_body (P := P) (w := w) (K := K) (mg := mg) (base := base) (N := ["thing"]) (qual := "is_sheet") (scope := defScope s_is_sheet) (f := L.a_is_sheet) (cdv := cdv) (A := A) (outer := outer) (s := s) (H := H) (E := E)
  have po := po_body (P := P) (w := w) (K := K) (mg := mg) (base := base) (N := ["thing"]) (qual := "is_sheet") (scope := defScope s_is_sheet) (f := L.a_is_sheet) (cdv := cdv) (A := A) (outer := outer) (s := s) (H := H) (E := E)
  exact sm_one (sm_ret (s_callP tk (ok_are_counts L) (hr.mono (by decide)) L.g_are_counts L.f_are_counts.kp L.b_are_counts (sa_cons (s_var 0) (sa_cons (s_tup (sa_cons (s_int) (sa_cons (s_glob (v := .int 6) rfl L.c_MOST_STATES ⟨_, rfl⟩ (fun _ _ _ => .d (.int _))) sa_nil))) (sa_cons (s_glob (v := .int 6) rfl L.c_MOST_ANSWERS ⟨_, rfl⟩ (fun _ _ _ => .d (.int _))) (sa_cons (s_glob (v := .int 1000) rfl L.c_MOST_SUM ⟨_, rfl⟩ (fun _ _ _ => .d (.int _))) sa_nil)))) (hlen := (alen_cons (alen_cons (alen_cons (alen_cons alen_nil)))))))
theorem ok_need_sheet (L : Lw0 K mg) : FnOk P w K mg base (L2.CX P w) 5 L.a_need_sheet L.d_need_sheet ["sheet"] (spM K mg 1 m_need_sheet) := by
  refine def_ok L.f_need_sheet sc_need_sheet fun cdv A outer s H E hr => ?_
  have tk := tk_body (P := P) (w := w) (K := K) (mg := mg) (base := base) (N := ["sheet"]) (qual := "need_sheet") (scope := defScope s_need_sheet) (f := L.a_need_sheet) (cdv := cdv) (A := A) (outer := outer) (s := s) (H := H) (E := E)
  have po := po_body (P := P) (w := w) (K := K) (mg := mg) (base := base) (N := ["sheet"]) (qual := "need_sheet") (scope := defScope s_need_sheet) (f := L.a_need_sheet) (cdv := cdv) (A := A) (outer := outer) (s := s) (H := H) (E := E)
  exact sm_one (sm_if (sb_not (sb_val (s_callP tk (ok_is_sheet L) (hr.mono (by decide)) L.g_is_sheet L.f_is_sheet.kp L.b_is_sheet (sa_cons (s_var 0) sa_nil) (hlen := (alen_cons alen_nil))))) (sm_one (sm_raise rfl tk L.r_BadSheet.rsb rfl)) (sm_nil))
theorem ok_need_choice (L : Lw0 K mg) : FnOk P w K mg base (L2.CX P w) 6 L.a_need_choice L.d_need_choice ["sheet", "choice"] (spM K mg 2 m_need_choice) := by
  refine def_ok L.f_need_choice sc_need_choice fun cdv A outer s H E hr => ?_
  have tk := tk_body (P := P) (w := w) (K := K) (mg := mg) (base := base) (N := ["sheet", "choice"]) (qual := "need_choice") (scope := defScope s_need_choice) (f := L.a_need_choice) (cdv := cdv) (A := A) (outer := outer) (s := s) (H := H) (E := E)
  have po := po_body (P := P) (w := w) (K := K) (mg := mg) (base := base) (N := ["sheet", "choice"]) (qual := "need_choice") (scope := defScope s_need_choice) (f := L.a_need_choice) (cdv := cdv) (A := A) (outer := outer) (s := s) (H := H) (E := E)
  exact sm_cons (sm_expr (s_callP tk (ok_need_sheet L) (hr.mono (by decide)) L.g_need_sheet L.f_need_sheet.kp L.b_need_sheet (sa_cons (s_var 0) sa_nil) (hlen := (alen_cons alen_nil)))) (sm_one (sm_if (sb_not (sb_val (s_callP tk (ok_are_deeds L) (hr.mono (by decide)) L.g_are_deeds L.f_are_deeds.kp L.b_are_deeds (sa_cons (s_len L.n_len (sa_cons (s_var 0) sa_nil)) (sa_cons (s_var 1) (sa_cons (s_glob (v := .int 8) rfl L.c_MOST_DEEDS ⟨_, rfl⟩ (fun _ _ _ => .d (.int _))) (sa_cons (s_glob (v := .int 1000000) rfl L.c_MOST_PAYMENT ⟨_, rfl⟩ (fun _ _ _ => .d (.int _))) sa_nil)))) (hlen := (alen_cons (alen_cons (alen_cons (alen_cons alen_nil)))))))) (sm_one (sm_raise rfl tk L.r_BadChoice.rsb rfl)) (sm_nil)))
theorem ok_plan_worth (L : Lw0 K mg) : FnOk P w K mg base (L2.CX P w) 7 L.a_plan_worth L.d_plan_worth ["sheet", "choice", "plan"] (spM K mg 3 m_plan_worth) := by
  refine def_ok L.f_plan_worth sc_plan_worth fun cdv A outer s H E hr => ?_
  have tk := tk_body (P := P) (w := w) (K := K) (mg := mg) (base := base) (N := ["sheet", "choice", "plan", "many", "total", "answer", "deed"]) (qual := "plan_worth") (scope := defScope s_plan_worth) (f := L.a_plan_worth) (cdv := cdv) (A := A) (outer := outer) (s := s) (H := H) (E := E)
  have po := po_body (P := P) (w := w) (K := K) (mg := mg) (base := base) (N := ["sheet", "choice", "plan", "many", "total", "answer", "deed"]) (qual := "plan_worth") (scope := defScope s_plan_worth) (f := L.a_plan_worth) (cdv := cdv) (A := A) (outer := outer) (s := s) (H := H) (E := E)
  exact sm_cons (sm_expr (s_callP tk (ok_need_choice L) (hr.mono (by decide)) L.g_need_choice L.f_need_choice.kp L.b_need_choice (sa_cons (s_var 0) (sa_cons (s_var 1) sa_nil)) (hlen := (alen_cons (alen_cons alen_nil))))) (sm_cons (sm_set 3 sc_plan_worth.nd (s_len L.n_len (sa_cons (s_ix (s_var 0) (s_int)) sa_nil))) (sm_cons (sm_if (sb_w (sw_or (sb_not (sb_val (s_callP tk (ok_is_row L) (hr.mono (by decide)) L.g_is_row L.f_is_row.kp L.b_is_row (sa_cons (s_var 2) (sa_cons (s_var 3) (sa_cons (s_var 3) sa_nil))) (hlen := (alen_cons (alen_cons (alen_cons alen_nil))))))) (sw_or1 (sb_not (sb_val (s_all rfl L.n_all (sa_cons (s_lc rfl sc_plan_worth.nd (blk_by (own := [("deed", 6)]) (by kernel_rfl)) (si_sq (s_var 2)) (fun _ _ _ _ _ => sgc_name 6 sc_plan_worth.nd) (fun _ _ _ _ _ => sts_nil) (fun _ _ _ _ _ => s_callP tk0 (ok_within L) (hr.mono (by decide)) L.g_within L.f_within.kp L.b_within (sa_cons (s_var 6) (sa_cons (s_int) (sa_cons (s_sub (s_len L.n_len (sa_cons (s_var 1) sa_nil)) (s_int)) sa_nil))) (hlen := (alen_cons (alen_cons (alen_cons alen_nil)))))) sa_nil))))))) (sm_one (sm_raise rfl tk L.r_BadPlan.rsb rfl)) (sm_nil)) (sm_cons (sm_set 4 sc_plan_worth.nd (s_sum rfl L.n_sum (sa_cons (s_lc rfl sc_plan_worth.nd (blk_by (own := [("answer", 5), ("deed", 6)]) (by kernel_rfl)) (si_en L.n_enumerate (sa_cons (s_var 2) sa_nil)) (fun _ _ _ _ _ => sgc_tup rfl (sgcs_cons (sgc_name 5 sc_plan_worth.nd) (sgcs_cons (sgc_name 6 sc_plan_worth.nd) (sgcs_nil)))) (fun _ _ _ _ _ => sts_nil) (fun _ _ _ _ _ => s_ix (s_callP tk0 (ok_gains_at L) (hr.mono (by decide)) L.g_gains_at L.f_gains_at.kp L.b_gains_at (sa_cons (s_var 0) (sa_cons (s_var 1) (sa_cons (s_var 5) sa_nil))) (hlen := (alen_cons (alen_cons (alen_cons alen_nil))))) (s_var 6))) sa_nil))) (sm_one (sm_ret (s_callP tk (ok_ratio L) (hr.mono (by decide)) L.g_ratio L.f_ratio.kp L.b_ratio (sa_cons (s_var 4) (sa_cons (s_sum rfl L.n_sum (sa_cons (s_ix (s_var 0) (s_int)) sa_nil)) sa_nil)) (hlen := (alen_cons (alen_cons alen_nil)))))))))
theorem ok_best_plan (L : Lw0 K mg) : FnOk P w K mg base (L2.CX P w) 7 L.a_best_plan L.d_best_plan ["sheet", "choice"] (spM K mg 2 m_best_plan) := by
  refine def_ok L.f_best_plan sc_best_plan fun cdv A outer s H E hr => ?_
  have tk := tk_body (P := P) (w := w) (K := K) (mg := mg) (base := base) (N := ["sheet", "choice", "found", "answer", "gains"]) (qual := "best_plan") (scope := defScope s_best_plan) (f := L.a_best_plan) (cdv := cdv) (A := A) (outer := outer) (s := s) (H := H) (E := E)
  have po := po_body (P := P) (w := w) (K := K) (mg := mg) (base := base) (N := ["sheet", "choice", "found", "answer", "gains"]) (qual := "best_plan") (scope := defScope s_best_plan) (f := L.a_best_plan) (cdv := cdv) (A := A) (outer := outer) (s := s) (H := H) (E := E)
  exact sm_cons (sm_expr (s_callP tk (ok_need_choice L) (hr.mono (by decide)) L.g_need_choice L.f_need_choice.kp L.b_need_choice (sa_cons (s_var 0) (sa_cons (s_var 1) sa_nil)) (hlen := (alen_cons (alen_cons alen_nil))))) (sm_cons (sm_set 2 sc_best_plan.nd (s_lstM sa_nil)) (sm_cons (sm_for po rfl (si_rng1 L.n_range (s_len L.n_len (sa_cons (s_ix (s_var 0) (s_int)) sa_nil))) (sg_name 3 sc_best_plan.nd) (sm_cons (sm_set 4 sc_best_plan.nd (s_callP tk (ok_gains_at L) (hr.mono (by decide)) L.g_gains_at L.f_gains_at.kp L.b_gains_at (sa_cons (s_var 0) (sa_cons (s_var 1) (sa_cons (s_var 3) sa_nil))) (hlen := (alen_cons (alen_cons (alen_cons alen_nil)))))) (sm_one (sm_expr (s_mtL PySem.F.slot_list_append PySem.F.type_list_append mt_append ok_append (s_var 2) (sa_cons (s_mtL PySem.F.slot_list_index PySem.F.type_list_index (mt_indexD (hu65 hr)) ok_index (s_var 4) (sa_cons (s_max rfl L.n_max (sa_cons (s_var 4) sa_nil)) sa_nil)) sa_nil)))))) (sm_one (sm_ret (s_tuple L.n_tuple (sa_cons (s_var 2) sa_nil))))))
theorem ok_worth (L : Lw0 K mg) : FnOk P w K mg base (L2.CX P w) 7 L.a_worth L.d_worth ["sheet", "choice"] (spM K mg 2 m_worth) := by
  refine def_ok L.f_worth sc_worth fun cdv A outer s H E hr => ?_
  have tk := tk_body (P := P) (w := w) (K := K) (mg := mg) (base := base) (N := ["sheet", "choice"]) (qual := "worth") (scope := defScope s_worth) (f := L.a_worth) (cdv := cdv) (A := A) (outer := outer) (s := s) (H := H) (E := E)
  have po := po_body (P := P) (w := w) (K := K) (mg := mg) (base := base) (N := ["sheet", "choice"]) (qual := "worth") (scope := defScope s_worth) (f := L.a_worth) (cdv := cdv) (A := A) (outer := outer) (s := s) (H := H) (E := E)
  exact sm_cons (sm_expr (s_callP tk (ok_need_choice L) (hr.mono (by decide)) L.g_need_choice L.f_need_choice.kp L.b_need_choice (sa_cons (s_var 0) (sa_cons (s_var 1) sa_nil)) (hlen := (alen_cons (alen_cons alen_nil))))) (sm_one (sm_ret (s_callP tk (ok_worth_of L) (hr.mono (by decide)) L.g_worth_of L.f_worth_of.kp L.b_worth_of (sa_cons (s_var 0) (sa_cons (s_var 1) sa_nil)) (hlen := (alen_cons (alen_cons alen_nil))))))
theorem ok__law_word (L : Lw0 K mg) : FnOk P w K mg base (L2.CX P w) 8 L.a__law_word L.d__law_word ["which", "sheet", "choice", "plan"] (spM K mg 4 m__law_word) := by
  refine def_ok L.f__law_word sc__law_word fun cdv A outer s H E hr => ?_
  have tk := tk_body (P := P) (w := w) (K := K) (mg := mg) (base := base) (N := ["which", "sheet", "choice", "plan", "found"]) (qual := "_law_word") (scope := defScope s__law_word) (f := L.a__law_word) (cdv := cdv) (A := A) (outer := outer) (s := s) (H := H) (E := E)
  have po := po_body (P := P) (w := w) (K := K) (mg := mg) (base := base) (N := ["which", "sheet", "choice", "plan", "found"]) (qual := "_law_word") (scope := defScope s__law_word) (f := L.a__law_word) (cdv := cdv) (A := A) (outer := outer) (s := s) (H := H) (E := E)
  exact sm_cons (sm_set 4 sc__law_word.nd (s_str)) (sm_cons (sm_try rfl rfl tk (fun W pn xe tk po => sm_one (sm_if (sb_cmp (op_eqD hr.units) ok_eq (s_var 0) (s_int)) (sm_one (sm_expr (s_callP tk (ok_plan_worth L) (hr.mono (by decide)) L.g_plan_worth L.f_plan_worth.kp L.b_plan_worth (sa_cons (s_var 1) (sa_cons (s_var 2) (sa_cons (s_var 3) sa_nil))) (hlen := (alen_cons (alen_cons (alen_cons alen_nil))))))) (sm_one (sm_if (sb_cmp (op_eqD hr.units) ok_eq (s_var 0) (s_int)) (sm_one (sm_expr (s_callP tk (ok_best_plan L) (hr.mono (by decide)) L.g_best_plan L.f_best_plan.kp L.b_best_plan (sa_cons (s_var 1) (sa_cons (s_var 2) sa_nil)) (hlen := (alen_cons (alen_cons alen_nil)))))) (sm_one (sm_expr (s_callP tk (ok_worth L) (hr.mono (by decide)) L.g_worth L.f_worth.kp L.b_worth (sa_cons (s_var 1) (sa_cons (s_var 2) sa_nil)) (hlen := (alen_cons (alen_cons alen_nil)))))))))) (.cons (names_own rfl L.r_BadSheet.g) L.hx_BadSheet (fun _ _ => sm_one (sm_set 4 sc__law_word.nd (s_str))) (.cons (names_own rfl L.r_BadChoice.g) L.hx_BadChoice (fun _ _ => sm_one (sm_set 4 sc__law_word.nd (s_str))) (.cons (names_own rfl L.r_BadPlan.g) L.hx_BadPlan (fun _ _ => sm_one (sm_set 4 sc__law_word.nd (s_str))) (.nil))))) (sm_one (sm_ret (s_var 4))))
theorem okr__law_same (L : Lw0 K mg) : ∀ n : Nat, FnOk P w K mg base (L2.CX P w) (1 + n) L.a__law_same L.d__law_same ["found", "due"] (spM K mg 2 (mr__law_same n))
  | 0 => fn_bad
  | n + 1 => by
    have ih := okr__law_same L n
    refine def_ok (k := 1 + n) L.f__law_same sc__law_same fun cdv A outer s H E hr => ?_
    have tk := tk_body (P := P) (w := w) (K := K) (mg := mg) (base := base) (N := ["found", "due", "k"]) (qual := "_law_same") (scope := defScope s__law_same) (f := L.a__law_same) (cdv := cdv) (A := A) (outer := outer) (s := s) (H := H) (E := E)
    have po := po_body (P := P) (w := w) (K := K) (mg := mg) (base := base) (N := ["found", "due", "k"]) (qual := "_law_same") (scope := defScope s__law_same) (f := L.a__law_same) (cdv := cdv) (A := A) (outer := outer) (s := s) (H := H) (E := E)
    exact sm_cons (sm_if (sb_val (s_isi kit_tuple L.n_isinstance L.n_tuple (by decide +kernel) (s_var 1))) (sm_cons (sm_if (sb_w (sw_or (sb_not (sb_val (s_isi kit_tuple L.n_isinstance L.n_tuple (by decide +kernel) (s_var 0)))) (sw_or1 (sb_cmp (op_neD hr.units) ok_ne (s_len L.n_len (sa_cons (s_var 0) sa_nil)) (s_len L.n_len (sa_cons (s_var 1) sa_nil)))))) (sm_one (sm_ret (s_bl))) (sm_nil)) (sm_one (sm_ret (s_cmp (op_eqD hr.units) ok_eq (s_lc rfl sc__law_same.nd (blk_by (own := [("k", 2)]) (by kernel_rfl)) (si_rng1 L.n_range (s_len L.n_len (sa_cons (s_var 1) sa_nil))) (fun _ _ _ _ _ => sgc_name 2 sc__law_same.nd) (fun _ _ _ _ _ => sts_one (sb_not (sb_val (s_callP tk0 ih (hr.mono (by omega)) L.g__law_same L.f__law_same.kp L.b__law_same (sa_cons (s_ix (s_var 0) (s_var 2)) (sa_cons (s_ix (s_var 1) (s_var 2)) sa_nil)) (hlen := (alen_cons (alen_cons alen_nil))))))) (fun _ _ _ _ _ => s_var 2)) (s_lst sa_nil))))) (sm_nil)) (sm_cons (sm_if (sb_w (sw_or (sb_val (s_isi kit_tuple L.n_isinstance L.n_tuple (by decide +kernel) (s_var 0))) (sw_or1 (sb_cmp (op_neD hr.units) ok_ne (s_isi kit_bool L.n_isinstance L.n_bool (by decide +kernel) (s_var 0)) (s_isi kit_bool L.n_isinstance L.n_bool (by decide +kernel) (s_var 1)))))) (sm_one (sm_ret (s_bl))) (sm_nil)) (sm_one (sm_ret (s_and (s_cmp (op_eqD hr.units) ok_eq (s_isi kit_str L.n_isinstance L.n_str (by decide +kernel) (s_var 0)) (s_isi kit_str L.n_isinstance L.n_str (by decide +kernel) (s_var 1))) (s_and (s_cmp (op_eqD hr.units) ok_eq (s_cmp op_isN ok_isN (s_var 0) (s_non)) (s_cmp op_isN ok_isN (s_var 1) (s_non))) (s_one (s_cmp (op_eqD hr.units) ok_eq (s_var 0) (s_var 1))))))))
theorem ok__law_same (L : Lw0 K mg) : FnOk P w K mg base (L2.CX P w) 9 L.a__law_same L.d__law_same ["found", "due"] (spM K mg 2 m__law_same) := okr__law_same L 8
theorem ok_law (L : Lw0 K mg) : FnOk P w K mg base (L2.CX P w) 10 L.a_law L.d_law ["script"] (spM K mg 1 m_law) := by
  refine def_ok L.f_law sc_law fun cdv A outer s H E hr => ?_
  have tk := tk_body (P := P) (w := w) (K := K) (mg := mg) (base := base) (N := ["script", "bag", "turn", "states", "answers", "deeds", "sheet", "choice", "plan", "best", "gains", "plans", "tops", "odd", "wrong", "bad", "a", "one", "k", "which", "s", "row"]) (qual := "law") (scope := defScope s_law) (f := L.a_law) (cdv := cdv) (A := A) (outer := outer) (s := s) (H := H) (E := E)
  have po := po_body (P := P) (w := w) (K := K) (mg := mg) (base := base) (N := ["script", "bag", "turn", "states", "answers", "deeds", "sheet", "choice", "plan", "best", "gains", "plans", "tops", "odd", "wrong", "bad", "a", "one", "k", "which", "s", "row"]) (qual := "law") (scope := defScope s_law) (f := L.a_law) (cdv := cdv) (A := A) (outer := outer) (s := s) (H := H) (E := E)
  exact sm_cons (sm_set 1 sc_law.nd (s_callE tk (ok__law_bag L) (hr.mono (by decide)) L.g__law_bag L.f__law_bag.kp L.b__law_bag (sa_cons (s_var 0) sa_nil) (hlen := (alen_cons alen_nil)))) (sm_cons (sm_for po rfl (si_rng1 L.n_range (s_int)) (sg_name 2 sc_law.nd) (sm_cons (sm_asg (s_tup (sa_cons (s_add (s_int) (s_callE tk (ok__law_pick L) (hr.mono (by decide)) L.g__law_pick L.f__law_pick.kp L.b__law_pick (sa_cons (s_var 1) (sa_cons (s_int) sa_nil)) (hlen := (alen_cons (alen_cons alen_nil))))) (sa_cons (s_add (s_int) (s_callE tk (ok__law_pick L) (hr.mono (by decide)) L.g__law_pick L.f__law_pick.kp L.b__law_pick (sa_cons (s_var 1) (sa_cons (s_int) sa_nil)) (hlen := (alen_cons (alen_cons alen_nil))))) (sa_cons (s_add (s_int) (s_callE tk (ok__law_pick L) (hr.mono (by decide)) L.g__law_pick L.f__law_pick.kp L.b__law_pick (sa_cons (s_var 1) (sa_cons (s_int) sa_nil)) (hlen := (alen_cons (alen_cons alen_nil))))) sa_nil)))) (sg_tup rfl (sgs_cons (sg_name 3 sc_law.nd) (sgs_cons (sg_name 4 sc_law.nd) (sgs_cons (sg_name 5 sc_law.nd) (sgs_nil)))))) (sm_cons (sm_set 6 sc_law.nd (s_callE tk (ok__law_sheet L) (hr.mono (by decide)) L.g__law_sheet L.f__law_sheet.kp L.b__law_sheet (sa_cons (s_var 1) (sa_cons (s_var 3) (sa_cons (s_var 4) sa_nil))) (hlen := (alen_cons (alen_cons (alen_cons alen_nil)))))) (sm_cons (sm_set 7 sc_law.nd (s_tuple L.n_tuple (sa_cons (s_lc rfl sc_law.nd (blk_by (own := [("k", 18)]) (by kernel_rfl)) (si_rng1 L.n_range (s_var 5)) (fun _ _ _ _ _ => sgc_name 18 sc_law.nd) (fun _ _ _ _ _ => sts_nil) (fun _ _ _ _ _ => s_tuple L.n_tuple (sa_cons (s_lc rfl sc_law.nd (blk_by (own := [("s", 20)]) (by kernel_rfl)) (si_rng1 L.n_range (s_var 3)) (fun _ _ _ _ _ => sgc_name 20 sc_law.nd) (fun _ _ _ _ _ => sts_nil) (fun _ _ _ _ _ => s_sub (s_callE tk0 (ok__law_pick L) (hr.mono (by decide)) L.g__law_pick L.f__law_pick.kp L.b__law_pick (sa_cons (s_var 1) (sa_cons (s_int) sa_nil)) (hlen := (alen_cons (alen_cons alen_nil)))) (s_int))) sa_nil))) sa_nil))) (sm_cons (sm_set 8 sc_law.nd (s_tuple L.n_tuple (sa_cons (s_lc rfl sc_law.nd (blk_by (own := [("a", 16)]) (by kernel_rfl)) (si_rng1 L.n_range (s_var 4)) (fun _ _ _ _ _ => sgc_name 16 sc_law.nd) (fun _ _ _ _ _ => sts_nil) (fun _ _ _ _ _ => s_callE tk0 (ok__law_pick L) (hr.mono (by decide)) L.g__law_pick L.f__law_pick.kp L.b__law_pick (sa_cons (s_var 1) (sa_cons (s_var 5) sa_nil)) (hlen := (alen_cons (alen_cons alen_nil))))) sa_nil))) (sm_cons (sm_if (sb_w (sw_or (sb_cmp op_notBl ok_notB (s_callP tk (ok_is_sheet L) (hr.mono (by decide)) L.g_is_sheet L.f_is_sheet.kp L.b_is_sheet (sa_cons (s_var 6) sa_nil) (hlen := (alen_cons alen_nil))) (s_bl)) (sw_or1 (sb_not (sb_val (s_callP tk (ok__law_same L) (hr.mono (by decide)) L.g__law_same L.f__law_same.kp L.b__law_same (sa_cons (s_callK true rfl tk (ok_plan_worth L) (hr.mono (by decide)) L.g_plan_worth L.f_plan_worth.kp L.k_plan_worth_plan_choice_sheet (sk_cons (s_var 8) (sk_cons (s_var 7) (sk_cons (s_var 6) sk_nil))) (alen_kw (alen_cons (alen_cons (alen_cons alen_nil)))) (alen_cons (alen_cons (alen_cons alen_nil)))) (sa_cons (s_callP tk (ok__law_worth L) (hr.mono (by decide)) L.g__law_worth L.f__law_worth.kp L.b__law_worth (sa_cons (s_var 6) (sa_cons (s_var 7) (sa_cons (s_var 8) sa_nil))) (hlen := (alen_cons (alen_cons (alen_cons alen_nil))))) sa_nil)) (hlen := (alen_cons (alen_cons alen_nil))))))))) (sm_one (sm_ret (s_bl))) (sm_nil)) (sm_cons (sm_set 9 sc_law.nd (s_callK true rfl tk (ok_best_plan L) (hr.mono (by decide)) L.g_best_plan L.f_best_plan.kp L.k_best_plan_choice_sheet (sk_cons (s_var 7) (sk_cons (s_var 6) sk_nil)) (alen_kw (alen_cons (alen_cons alen_nil))) (alen_cons (alen_cons alen_nil)))) (sm_cons (sm_set 10 sc_law.nd (s_lc rfl sc_law.nd (blk_by (own := [("a", 16)]) (by kernel_rfl)) (si_rng1 L.n_range (s_var 4)) (fun _ _ _ _ _ => sgc_name 16 sc_law.nd) (fun _ _ _ _ _ => sts_nil) (fun _ _ _ _ _ => s_callP tk0 (ok__law_gains L) (hr.mono (by decide)) L.g__law_gains L.f__law_gains.kp L.b__law_gains (sa_cons (s_var 6) (sa_cons (s_var 7) (sa_cons (s_var 16) sa_nil))) (hlen := (alen_cons (alen_cons (alen_cons alen_nil))))))) (sm_cons (sm_if (sb_not (sb_val (s_callP tk (ok__law_same L) (hr.mono (by decide)) L.g__law_same L.f__law_same.kp L.b__law_same (sa_cons (s_var 9) (sa_cons (s_tuple L.n_tuple (sa_cons (s_lc rfl sc_law.nd (blk_by (own := [("row", 21)]) (by kernel_rfl)) (si_sq (s_var 10)) (fun _ _ _ _ _ => sgc_name 21 sc_law.nd) (fun _ _ _ _ _ => sts_nil) (fun _ _ _ _ _ => s_mtL PySem.F.slot_list_index PySem.F.type_list_index (mt_indexD (hu65 hr)) ok_index (s_var 21) (sa_cons (s_max rfl L.n_max (sa_cons (s_var 21) sa_nil)) sa_nil))) sa_nil)) sa_nil)) (hlen := (alen_cons (alen_cons alen_nil)))))) (sm_one (sm_ret (s_bl))) (sm_nil)) (sm_cons (sm_set 11 sc_law.nd (s_if (sb_w (sw_or (sb_cmp (op_ltS hr.units0) ok_lt (s_var 4) (s_int)) (sw_or1 (sb_cmp (op_ltS hr.units0) ok_lt (s_var 5) (s_int))))) (s_callP tk (ok__law_plans L) (hr.mono (by decide)) L.g__law_plans L.f__law_plans.kp L.b__law_plans (sa_cons (s_var 4) (sa_cons (s_var 5) sa_nil)) (hlen := (alen_cons (alen_cons alen_nil)))) (s_lst (sa_cons (s_var 9) sa_nil)))) (sm_cons (sm_setLc 12 rfl sc_law.nd (blk_by (own := [("one", 17)]) (by kernel_rfl)) (si_sq (s_var 11)) (fun _ _ _ _ _ => sgc_name 17 sc_law.nd) (fun _ _ _ _ _ => sts_nil) (fun _ _ _ _ _ => s_sum rfl L.n_sum (sa_cons (s_lc rfl sc_law.nd (blk_by (own := [("a", 16)]) (by kernel_rfl)) (si_rng1 L.n_range (s_var 4)) (fun _ _ _ _ _ => sgc_name 16 sc_law.nd) (fun _ _ _ _ _ => sts_nil) (fun _ _ _ _ _ => s_ix (s_ix (s_var 10) (s_var 16)) (s_ix (s_var 17) (s_var 16)))) sa_nil))) (sm_cons (sm_if (sb_cmp (op_neD hr.units) ok_ne (s_ix (s_var 11) (s_mtL PySem.F.slot_list_index PySem.F.type_list_index (mt_indexD (hu65 hr)) ok_index (s_var 12) (sa_cons (s_max rfl L.n_max (sa_cons (s_var 12) sa_nil)) sa_nil))) (s_var 9)) (sm_one (sm_ret (s_bl))) (sm_nil)) (sm_cons (sm_if (sb_not (sb_val (s_callP tk (ok__law_same L) (hr.mono (by decide)) L.g__law_same L.f__law_same.kp L.b__law_same (sa_cons (s_callK true rfl tk (ok_worth L) (hr.mono (by decide)) L.g_worth L.f_worth.kp L.k_worth_choice_sheet (sk_cons (s_var 7) (sk_cons (s_var 6) sk_nil)) (alen_kw (alen_cons (alen_cons alen_nil))) (alen_cons (alen_cons alen_nil))) (sa_cons (s_callP tk (ok__law_worth L) (hr.mono (by decide)) L.g__law_worth L.f__law_worth.kp L.b__law_worth (sa_cons (s_var 6) (sa_cons (s_var 7) (sa_cons (s_var 9) sa_nil))) (hlen := (alen_cons (alen_cons (alen_cons alen_nil))))) sa_nil)) (hlen := (alen_cons (alen_cons alen_nil)))))) (sm_one (sm_ret (s_bl))) (sm_nil)) (sm_cons (sm_set 13 sc_law.nd (s_ix (s_lst (sa_cons (s_non) (sa_cons (s_tup sa_nil) (sa_cons (s_tup (sa_cons (s_tup sa_nil) sa_nil)) (sa_cons (s_add (s_var 6) (s_tup (sa_cons (s_add (s_ix (s_var 6) (s_int)) (s_tup (sa_cons (s_int) sa_nil))) sa_nil))) (sa_cons (s_add (s_var 6) (s_tup (sa_cons (s_mul (s_tup (sa_cons (s_int) sa_nil)) (s_var 4)) sa_nil))) (sa_cons (s_list L.n_list (sa_cons (s_var 6) sa_nil)) (sa_cons (s_tup (sa_cons (s_tup (sa_cons (s_neg (s_int)) (sa_cons (s_int) sa_nil))) sa_nil)) (sa_cons (s_tup (sa_cons (s_tup (sa_cons (s_bl) sa_nil)) sa_nil)) (sa_cons (s_tup (sa_cons (s_tup (sa_cons (s_int) sa_nil)) sa_nil)) (sa_cons (s_tup (sa_cons (s_tup (sa_cons (s_int) sa_nil)) sa_nil)) (sa_cons (s_tup (sa_cons (s_mul (s_tup (sa_cons (s_int) sa_nil)) (s_int)) sa_nil)) (sa_cons (s_mul (s_tup (sa_cons (s_tup (sa_cons (s_int) sa_nil)) sa_nil)) (s_int)) sa_nil))))))))))))) (s_callE tk (ok__law_pick L) (hr.mono (by decide)) L.g__law_pick L.f__law_pick.kp L.b__law_pick (sa_cons (s_var 1) (sa_cons (s_int) sa_nil)) (hlen := (alen_cons (alen_cons alen_nil)))))) (sm_cons (sm_set 14 sc_law.nd (s_ix (s_lst (sa_cons (s_non) (sa_cons (s_tup sa_nil) (sa_cons (s_add (s_var 7) (s_tup (sa_cons (s_mul (s_tup (sa_cons (s_int) sa_nil)) (s_add (s_var 3) (s_int))) sa_nil))) (sa_cons (s_list L.n_list (sa_cons (s_var 7) sa_nil)) (sa_cons (s_mul (s_tup (sa_cons (s_ix (s_var 7) (s_int)) sa_nil)) (s_int)) (sa_cons (s_tup (sa_cons (s_mul (s_tup (sa_cons (s_int) sa_nil)) (s_var 3)) sa_nil)) (sa_cons (s_tup (sa_cons (s_mul (s_tup (sa_cons (s_non) sa_nil)) (s_var 3)) sa_nil)) (sa_cons (s_tup (sa_cons (s_mul (s_tup (sa_cons (s_bl) sa_nil)) (s_var 3)) sa_nil)) sa_nil))))))))) (s_callE tk (ok__law_pick L) (hr.mono (by decide)) L.g__law_pick L.f__law_pick.kp L.b__law_pick (sa_cons (s_var 1) (sa_cons (s_int) sa_nil)) (hlen := (alen_cons (alen_cons alen_nil)))))) (sm_cons (sm_set 15 sc_law.nd (s_ix (s_lst (sa_cons (s_non) (sa_cons (s_add (s_var 8) (s_tup (sa_cons (s_int) sa_nil))) (sa_cons (s_sl (s_var 8) (so_some (s_int)) so_none) (sa_cons (s_mul (s_tup (sa_cons (s_var 5) sa_nil)) (s_var 4)) (sa_cons (s_mul (s_tup (sa_cons (s_neg (s_int)) sa_nil)) (s_var 4)) (sa_cons (s_mul (s_tup (sa_cons (s_bl) sa_nil)) (s_var 4)) (sa_cons (s_list L.n_list (sa_cons (s_var 8) sa_nil)) sa_nil)))))))) (s_callE tk (ok__law_pick L) (hr.mono (by decide)) L.g__law_pick L.f__law_pick.kp L.b__law_pick (sa_cons (s_var 1) (sa_cons (s_int) sa_nil)) (hlen := (alen_cons (alen_cons alen_nil)))))) (sm_cons (sm_if (sb_w (sw_or (sb_cmp op_notBl ok_notB (s_callP tk (ok_is_sheet L) (hr.mono (by decide)) L.g_is_sheet L.f_is_sheet.kp L.b_is_sheet (sa_cons (s_var 13) sa_nil) (hlen := (alen_cons alen_nil))) (s_bl)) (sw_or1 (sb_cmp (op_neD hr.units) ok_ne (s_lc rfl sc_law.nd (blk_by (own := [("which", 19)]) (by kernel_rfl)) (si_rng1 L.n_range (s_int)) (fun _ _ _ _ _ => sgc_name 19 sc_law.nd) (fun _ _ _ _ _ => sts_nil) (fun _ _ _ _ _ => s_callP tk0 (ok__law_word L) (hr.mono (by decide)) L.g__law_word L.f__law_word.kp L.b__law_word (sa_cons (s_var 19) (sa_cons (s_var 13) (sa_cons (s_non) (sa_cons (s_non) sa_nil)))) (hlen := (alen_cons (alen_cons (alen_cons (alen_cons alen_nil))))))) (s_mul (s_lst (sa_cons (s_str) sa_nil)) (s_int)))))) (sm_one (sm_ret (s_bl))) (sm_nil)) (sm_one (sm_if (sb_w (sw_or (sb_cmp (op_neD hr.units) ok_ne (s_lc rfl sc_law.nd (blk_by (own := [("which", 19)]) (by kernel_rfl)) (si_rng1 L.n_range (s_int)) (fun _ _ _ _ _ => sgc_name 19 sc_law.nd) (fun _ _ _ _ _ => sts_nil) (fun _ _ _ _ _ => s_callP tk0 (ok__law_word L) (hr.mono (by decide)) L.g__law_word L.f__law_word.kp L.b__law_word (sa_cons (s_var 19) (sa_cons (s_var 6) (sa_cons (s_var 14) (sa_cons (s_non) sa_nil)))) (hlen := (alen_cons (alen_cons (alen_cons (alen_cons alen_nil))))))) (s_mul (s_lst (sa_cons (s_str) sa_nil)) (s_int))) (sw_or1 (sb_cmp (op_neD hr.units) ok_ne (s_callP tk (ok__law_word L) (hr.mono (by decide)) L.g__law_word L.f__law_word.kp L.b__law_word (sa_cons (s_int) (sa_cons (s_var 6) (sa_cons (s_var 7) (sa_cons (s_var 15) sa_nil)))) (hlen := (alen_cons (alen_cons (alen_cons (alen_cons alen_nil)))))) (s_str))))) (sm_one (sm_ret (s_bl))) (sm_nil)))))))))))))))))))) (sm_one (sm_ret (s_bl))))
end
def spLaw (K : PySem.W.Frag) : Sp := fun vs H Q _ => ∃ (a : Addr) (ns : List Int), vs = [.ref a] ∧ ns.length ≤ 63 ∧ (∀ H' : Hp, (∀ b o, H b = some o → H' b = some o) → SqL K H' a (ns.map V.int)) ∧ ∀ H', Q (.bl true) H'
theorem all_mk (plain : ∀ ns : List Int, ns.length ≤ 63 → ∃ S', m_law [.fl (ns.map .int)] [] = .ok (.d (.bool true)) S') {l : PySem.W.OpenLaw} {w : World} {K : PySem.W.Frag} {h : Heap} {mg : Str → Option Value} {fa : Addr} (X : K.In h) (G : h.Ns mainGlobals mg) (hfa : mg "law" = some (.ref fa)) {f0 : Addr} {od0 an0 : Option Addr} {sl0 : Array (Option Value)} {oc0 kV0 dc0 pm0 cd0 ct0 : Value} {f1 : Addr} {od1 an1 : Option Addr} {sl1 : Array (Option Value)} {oc1 kV1 dc1 pm1 cd1 ct1 : Value} {f2 : Addr} {od2 an2 : Option Addr} {sl2 : Array (Option Value)} {oc2 kV2 dc2 pm2 cd2 ct2 : Value} {f3 : Addr} {od3 an3 : Option Addr} {sl3 : Array (Option Value)} {oc3 kV3 dc3 pm3 cd3 ct3 : Value} {f4 : Addr} {od4 an4 : Option Addr} {sl4 : Array (Option Value)} {oc4 kV4 dc4 pm4 cd4 ct4 : Value} {f5 : Addr} {od5 an5 : Option Addr} {sl5 : Array (Option Value)} {oc5 kV5 dc5 pm5 cd5 ct5 : Value} {f6 : Addr} {od6 an6 : Option Addr} {sl6 : Array (Option Value)} {oc6 kV6 dc6 pm6 cd6 ct6 : Value} {f7 : Addr} {od7 an7 : Option Addr} {sl7 : Array (Option Value)} {oc7 kV7 dc7 pm7 cd7 ct7 : Value} {f8 : Addr} {od8 an8 : Option Addr} {sl8 : Array (Option Value)} {oc8 kV8 dc8 pm8 cd8 ct8 : Value} {f9 : Addr} {od9 an9 : Option Addr} {sl9 : Array (Option Value)} {oc9 kV9 dc9 pm9 cd9 ct9 : Value} {f10 : Addr} {od10 an10 : Option Addr} {sl10 : Array (Option Value)} {oc10 kV10 dc10 pm10 cd10 ct10 : Value} {f11 : Addr} {od11 an11 : Option Addr} {sl11 : Array (Option Value)} {oc11 kV11 dc11 pm11 cd11 ct11 : Value} {f12 : Addr} {od12 an12 : Option Addr} {sl12 : Array (Option Value)} {oc12 kV12 dc12 pm12 cd12 ct12 : Value} {f13 : Addr} {od13 an13 : Option Addr} {sl13 : Array (Option Value)} {oc13 kV13 dc13 pm13 cd13 ct13 : Value} {f14 : Addr} {od14 an14 : Option Addr} {sl14 : Array (Option Value)} {oc14 kV14 dc14 pm14 cd14 ct14 : Value} {f15 : Addr} {od15 an15 : Option Addr} {sl15 : Array (Option Value)} {oc15 kV15 dc15 pm15 cd15 ct15 : Value} {f16 : Addr} {od16 an16 : Option Addr} {sl16 : Array (Option Value)} {oc16 kV16 dc16 pm16 cd16 ct16 : Value} {f17 : Addr} {od17 an17 : Option Addr} {sl17 : Array (Option Value)} {oc17 kV17 dc17 pm17 cd17 ct17 : Value} {f18 : Addr} {od18 an18 : Option Addr} {sl18 : Array (Option Value)} {oc18 kV18 dc18 pm18 cd18 ct18 : Value} {f19 : Addr} {od19 an19 : Option Addr} {sl19 : Array (Option Value)} {oc19 kV19 dc19 pm19 cd19 ct19 : Value} {f20 : Addr} {od20 an20 : Option Addr} {sl20 : Array (Option Value)} {oc20 kV20 dc20 pm20 cd20 ct20 : Value} {f21 : Addr} {od21 an21 : Option Addr} {sl21 : Array (Option Value)} {oc21 kV21 dc21 pm21 cd21 ct21 : Value} {f22 : Addr} {od22 an22 : Option Addr} {sl22 : Array (Option Value)} {oc22 kV22 dc22 pm22 cd22 ct22 : Value} {f23 : Addr} {od23 an23 : Option Addr} {sl23 : Array (Option Value)} {oc23 kV23 dc23 pm23 cd23 ct23 : Value} {t_MOST_STATES : Tok} {t_MOST_ANSWERS : Tok} {t_MOST_SUM : Tok} {t_MOST_DEEDS : Tok} {t_MOST_PAYMENT : Tok} {x_BadChoice : Addr} {x_BadPlan : Addr} {x_BadSheet : Addr} (a0 : PySem.W.nsIn K mainGlobals "is_int" = some (some (.ref f0))) (l0 : K.lookup f0 = some ⟨oc0, od0, .func (PySem.W.fnOf "is_int" "is_int" (defArgs s_is_int) (defBody s_is_int) (defScope s_is_int) .none kV0 dc0 pm0 an0 cd0 ct0), sl0⟩) (c0 : PySem.W.codeIn K cd0 "is_int" = true) (k0 : PySem.W.keepIn K (.ref f0) = true)
    (a1 : PySem.W.nsIn K mainGlobals "is_row" = some (some (.ref f1))) (l1 : K.lookup f1 = some ⟨oc1, od1, .func (PySem.W.fnOf "is_row" "is_row" (defArgs s_is_row) (defBody s_is_row) (defScope s_is_row) .none kV1 dc1 pm1 an1 cd1 ct1), sl1⟩) (c1 : PySem.W.codeIn K cd1 "is_row" = true) (k1 : PySem.W.keepIn K (.ref f1) = true)
    (a2 : PySem.W.nsIn K mainGlobals "ratio" = some (some (.ref f2))) (l2 : K.lookup f2 = some ⟨oc2, od2, .func (PySem.W.fnOf "ratio" "ratio" (defArgs s_ratio) (defBody s_ratio) (defScope s_ratio) .none kV2 dc2 pm2 an2 cd2 ct2), sl2⟩) (c2 : PySem.W.codeIn K cd2 "ratio" = true) (k2 : PySem.W.keepIn K (.ref f2) = true)
    (a3 : PySem.W.nsIn K mainGlobals "gains_at" = some (some (.ref f3))) (l3 : K.lookup f3 = some ⟨oc3, od3, .func (PySem.W.fnOf "gains_at" "gains_at" (defArgs s_gains_at) (defBody s_gains_at) (defScope s_gains_at) .none kV3 dc3 pm3 an3 cd3 ct3), sl3⟩) (c3 : PySem.W.codeIn K cd3 "gains_at" = true) (k3 : PySem.W.keepIn K (.ref f3) = true)
    (a4 : PySem.W.nsIn K mainGlobals "_law_bag" = some (some (.ref f4))) (l4 : K.lookup f4 = some ⟨oc4, od4, .func (PySem.W.fnOf "_law_bag" "_law_bag" (defArgs s__law_bag) (defBody s__law_bag) (defScope s__law_bag) .none kV4 dc4 pm4 an4 cd4 ct4), sl4⟩) (c4 : PySem.W.codeIn K cd4 "_law_bag" = true) (k4 : PySem.W.keepIn K (.ref f4) = true)
    (a5 : PySem.W.nsIn K mainGlobals "_law_pick" = some (some (.ref f5))) (l5 : K.lookup f5 = some ⟨oc5, od5, .func (PySem.W.fnOf "_law_pick" "_law_pick" (defArgs s__law_pick) (defBody s__law_pick) (defScope s__law_pick) .none kV5 dc5 pm5 an5 cd5 ct5), sl5⟩) (c5 : PySem.W.codeIn K cd5 "_law_pick" = true) (k5 : PySem.W.keepIn K (.ref f5) = true)
    (a6 : PySem.W.nsIn K mainGlobals "_law_ratio" = some (some (.ref f6))) (l6 : K.lookup f6 = some ⟨oc6, od6, .func (PySem.W.fnOf "_law_ratio" "_law_ratio" (defArgs s__law_ratio) (defBody s__law_ratio) (defScope s__law_ratio) .none kV6 dc6 pm6 an6 cd6 ct6), sl6⟩) (c6 : PySem.W.codeIn K cd6 "_law_ratio" = true) (k6 : PySem.W.keepIn K (.ref f6) = true)
    (a7 : PySem.W.nsIn K mainGlobals "_law_gains" = some (some (.ref f7))) (l7 : K.lookup f7 = some ⟨oc7, od7, .func (PySem.W.fnOf "_law_gains" "_law_gains" (defArgs s__law_gains) (defBody s__law_gains) (defScope s__law_gains) .none kV7 dc7 pm7 an7 cd7 ct7), sl7⟩) (c7 : PySem.W.codeIn K cd7 "_law_gains" = true) (k7 : PySem.W.keepIn K (.ref f7) = true)
    (a8 : PySem.W.nsIn K mainGlobals "_law_plans" = some (some (.ref f8))) (l8 : K.lookup f8 = some ⟨oc8, od8, .func (PySem.W.fnOf "_law_plans" "_law_plans" (defArgs s__law_plans) (defBody s__law_plans) (defScope s__law_plans) .none kV8 dc8 pm8 an8 cd8 ct8), sl8⟩) (c8 : PySem.W.codeIn K cd8 "_law_plans" = true) (k8 : PySem.W.keepIn K (.ref f8) = true)
    (a9 : PySem.W.nsIn K mainGlobals "within" = some (some (.ref f9))) (l9 : K.lookup f9 = some ⟨oc9, od9, .func (PySem.W.fnOf "within" "within" (defArgs s_within) (defBody s_within) (defScope s_within) .none kV9 dc9 pm9 an9 cd9 ct9), sl9⟩) (c9 : PySem.W.codeIn K cd9 "within" = true) (k9 : PySem.W.keepIn K (.ref f9) = true)
    (a10 : PySem.W.nsIn K mainGlobals "are_deeds" = some (some (.ref f10))) (l10 : K.lookup f10 = some ⟨oc10, od10, .func (PySem.W.fnOf "are_deeds" "are_deeds" (defArgs s_are_deeds) (defBody s_are_deeds) (defScope s_are_deeds) .none kV10 dc10 pm10 an10 cd10 ct10), sl10⟩) (c10 : PySem.W.codeIn K cd10 "are_deeds" = true) (k10 : PySem.W.keepIn K (.ref f10) = true)
    (a11 : PySem.W.nsIn K mainGlobals "worth_of" = some (some (.ref f11))) (l11 : K.lookup f11 = some ⟨oc11, od11, .func (PySem.W.fnOf "worth_of" "worth_of" (defArgs s_worth_of) (defBody s_worth_of) (defScope s_worth_of) .none kV11 dc11 pm11 an11 cd11 ct11), sl11⟩) (c11 : PySem.W.codeIn K cd11 "worth_of" = true) (k11 : PySem.W.keepIn K (.ref f11) = true)
    (a12 : PySem.W.nsIn K mainGlobals "_law_sheet" = some (some (.ref f12))) (l12 : K.lookup f12 = some ⟨oc12, od12, .func (PySem.W.fnOf "_law_sheet" "_law_sheet" (defArgs s__law_sheet) (defBody s__law_sheet) (defScope s__law_sheet) .none kV12 dc12 pm12 an12 cd12 ct12), sl12⟩) (c12 : PySem.W.codeIn K cd12 "_law_sheet" = true) (k12 : PySem.W.keepIn K (.ref f12) = true)
    (a13 : PySem.W.nsIn K mainGlobals "_law_worth" = some (some (.ref f13))) (l13 : K.lookup f13 = some ⟨oc13, od13, .func (PySem.W.fnOf "_law_worth" "_law_worth" (defArgs s__law_worth) (defBody s__law_worth) (defScope s__law_worth) .none kV13 dc13 pm13 an13 cd13 ct13), sl13⟩) (c13 : PySem.W.codeIn K cd13 "_law_worth" = true) (k13 : PySem.W.keepIn K (.ref f13) = true)
    (a14 : PySem.W.nsIn K mainGlobals "are_counts" = some (some (.ref f14))) (l14 : K.lookup f14 = some ⟨oc14, od14, .func (PySem.W.fnOf "are_counts" "are_counts" (defArgs s_are_counts) (defBody s_are_counts) (defScope s_are_counts) .none kV14 dc14 pm14 an14 cd14 ct14), sl14⟩) (c14 : PySem.W.codeIn K cd14 "are_counts" = true) (k14 : PySem.W.keepIn K (.ref f14) = true)
    (a15 : PySem.W.nsIn K mainGlobals "is_sheet" = some (some (.ref f15))) (l15 : K.lookup f15 = some ⟨oc15, od15, .func (PySem.W.fnOf "is_sheet" "is_sheet" (defArgs s_is_sheet) (defBody s_is_sheet) (defScope s_is_sheet) .none kV15 dc15 pm15 an15 cd15 ct15), sl15⟩) (c15 : PySem.W.codeIn K cd15 "is_sheet" = true) (k15 : PySem.W.keepIn K (.ref f15) = true)
    (a16 : PySem.W.nsIn K mainGlobals "need_sheet" = some (some (.ref f16))) (l16 : K.lookup f16 = some ⟨oc16, od16, .func (PySem.W.fnOf "need_sheet" "need_sheet" (defArgs s_need_sheet) (defBody s_need_sheet) (defScope s_need_sheet) .none kV16 dc16 pm16 an16 cd16 ct16), sl16⟩) (c16 : PySem.W.codeIn K cd16 "need_sheet" = true) (k16 : PySem.W.keepIn K (.ref f16) = true)
    (a17 : PySem.W.nsIn K mainGlobals "need_choice" = some (some (.ref f17))) (l17 : K.lookup f17 = some ⟨oc17, od17, .func (PySem.W.fnOf "need_choice" "need_choice" (defArgs s_need_choice) (defBody s_need_choice) (defScope s_need_choice) .none kV17 dc17 pm17 an17 cd17 ct17), sl17⟩) (c17 : PySem.W.codeIn K cd17 "need_choice" = true) (k17 : PySem.W.keepIn K (.ref f17) = true)
    (a18 : PySem.W.nsIn K mainGlobals "plan_worth" = some (some (.ref f18))) (l18 : K.lookup f18 = some ⟨oc18, od18, .func (PySem.W.fnOf "plan_worth" "plan_worth" (defArgs s_plan_worth) (defBody s_plan_worth) (defScope s_plan_worth) .none kV18 dc18 pm18 an18 cd18 ct18), sl18⟩) (c18 : PySem.W.codeIn K cd18 "plan_worth" = true) (k18 : PySem.W.keepIn K (.ref f18) = true)
    (a19 : PySem.W.nsIn K mainGlobals "best_plan" = some (some (.ref f19))) (l19 : K.lookup f19 = some ⟨oc19, od19, .func (PySem.W.fnOf "best_plan" "best_plan" (defArgs s_best_plan) (defBody s_best_plan) (defScope s_best_plan) .none kV19 dc19 pm19 an19 cd19 ct19), sl19⟩) (c19 : PySem.W.codeIn K cd19 "best_plan" = true) (k19 : PySem.W.keepIn K (.ref f19) = true)
    (a20 : PySem.W.nsIn K mainGlobals "worth" = some (some (.ref f20))) (l20 : K.lookup f20 = some ⟨oc20, od20, .func (PySem.W.fnOf "worth" "worth" (defArgs s_worth) (defBody s_worth) (defScope s_worth) .none kV20 dc20 pm20 an20 cd20 ct20), sl20⟩) (c20 : PySem.W.codeIn K cd20 "worth" = true) (k20 : PySem.W.keepIn K (.ref f20) = true)
    (a21 : PySem.W.nsIn K mainGlobals "_law_word" = some (some (.ref f21))) (l21 : K.lookup f21 = some ⟨oc21, od21, .func (PySem.W.fnOf "_law_word" "_law_word" (defArgs s__law_word) (defBody s__law_word) (defScope s__law_word) .none kV21 dc21 pm21 an21 cd21 ct21), sl21⟩) (c21 : PySem.W.codeIn K cd21 "_law_word" = true) (k21 : PySem.W.keepIn K (.ref f21) = true)
    (a22 : PySem.W.nsIn K mainGlobals "_law_same" = some (some (.ref f22))) (l22 : K.lookup f22 = some ⟨oc22, od22, .func (PySem.W.fnOf "_law_same" "_law_same" (defArgs s__law_same) (defBody s__law_same) (defScope s__law_same) .none kV22 dc22 pm22 an22 cd22 ct22), sl22⟩) (c22 : PySem.W.codeIn K cd22 "_law_same" = true) (k22 : PySem.W.keepIn K (.ref f22) = true)
    (a23 : PySem.W.nsIn K mainGlobals "law" = some (some (.ref f23))) (l23 : K.lookup f23 = some ⟨oc23, od23, .func (PySem.W.fnOf "law" "law" (defArgs s_law) (defBody s_law) (defScope s_law) .none kV23 dc23 pm23 an23 cd23 ct23), sl23⟩) (c23 : PySem.W.codeIn K cd23 "law" = true) (k23 : PySem.W.keepIn K (.ref f23) = true)
    (v_MOST_STATES : PySem.W.nsIn K mainGlobals "MOST_STATES" = some (some (.int 6 t_MOST_STATES)))
    (v_MOST_ANSWERS : PySem.W.nsIn K mainGlobals "MOST_ANSWERS" = some (some (.int 6 t_MOST_ANSWERS)))
    (v_MOST_SUM : PySem.W.nsIn K mainGlobals "MOST_SUM" = some (some (.int 1000 t_MOST_SUM)))
    (v_MOST_DEEDS : PySem.W.nsIn K mainGlobals "MOST_DEEDS" = some (some (.int 8 t_MOST_DEEDS)))
    (v_MOST_PAYMENT : PySem.W.nsIn K mainGlobals "MOST_PAYMENT" = some (some (.int 1000000 t_MOST_PAYMENT)))
    (z_abs : PySem.W.nsIn K mainGlobals "abs" = some none)
    (z_all : PySem.W.nsIn K mainGlobals "all" = some none)
    (z_bool : PySem.W.nsIn K mainGlobals "bool" = some none)
    (z_enumerate : PySem.W.nsIn K mainGlobals "enumerate" = some none)
    (z_int : PySem.W.nsIn K mainGlobals "int" = some none)
    (z_isinstance : PySem.W.nsIn K mainGlobals "isinstance" = some none)
    (z_len : PySem.W.nsIn K mainGlobals "len" = some none)
    (z_list : PySem.W.nsIn K mainGlobals "list" = some none)
    (z_max : PySem.W.nsIn K mainGlobals "max" = some none)
    (z_range : PySem.W.nsIn K mainGlobals "range" = some none)
    (z_set : PySem.W.nsIn K mainGlobals "set" = some none)
    (z_str : PySem.W.nsIn K mainGlobals "str" = some none)
    (z_sum : PySem.W.nsIn K mainGlobals "sum" = some none)
    (z_tuple : PySem.W.nsIn K mainGlobals "tuple" = some none)
    (z_zip : PySem.W.nsIn K mainGlobals "zip" = some none)
    (i_gcd : PySem.W.nsIn K mainGlobals "gcd" = some (some (.builtin "math.gcd")))
    (aC_BadChoice : PySem.W.nsIn K mainGlobals "BadChoice" = some (some (.ref x_BadChoice))) (xC_BadChoice : PySem.W.excIn K x_BadChoice [.type "ValueError", .type "Exception", .type "BaseException", .type "object"] "ValueError.__new__" = true) (kC_BadChoice : PySem.W.keepIn K (.ref x_BadChoice) = true) (bC_BadChoice : PySem.W.subIn K (.ref x_BadChoice) (.type "BaseException") = some true) (tC_BadChoice : PySem.W.typeIn K (.ref x_BadChoice) = some (.type "type")) (iC_BadChoice : PySem.W.isClsIn K x_BadChoice = true)
    (aC_BadPlan : PySem.W.nsIn K mainGlobals "BadPlan" = some (some (.ref x_BadPlan))) (xC_BadPlan : PySem.W.excIn K x_BadPlan [.type "ValueError", .type "Exception", .type "BaseException", .type "object"] "ValueError.__new__" = true) (kC_BadPlan : PySem.W.keepIn K (.ref x_BadPlan) = true) (bC_BadPlan : PySem.W.subIn K (.ref x_BadPlan) (.type "BaseException") = some true) (tC_BadPlan : PySem.W.typeIn K (.ref x_BadPlan) = some (.type "type")) (iC_BadPlan : PySem.W.isClsIn K x_BadPlan = true)
    (aC_BadSheet : PySem.W.nsIn K mainGlobals "BadSheet" = some (some (.ref x_BadSheet))) (xC_BadSheet : PySem.W.excIn K x_BadSheet [.type "ValueError", .type "Exception", .type "BaseException", .type "object"] "ValueError.__new__" = true) (kC_BadSheet : PySem.W.keepIn K (.ref x_BadSheet) = true) (bC_BadSheet : PySem.W.subIn K (.ref x_BadSheet) (.type "BaseException") = some true) (tC_BadSheet : PySem.W.typeIn K (.ref x_BadSheet) = some (.type "type")) (iC_BadSheet : PySem.W.isClsIn K x_BadSheet = true)
    (s_BadChoice_BadChoice : PySem.W.subIn K (.ref x_BadChoice) (.ref x_BadChoice) = some true)
    (s_BadChoice_BadPlan : PySem.W.subIn K (.ref x_BadChoice) (.ref x_BadPlan) = some false)
    (s_BadChoice_BadSheet : PySem.W.subIn K (.ref x_BadChoice) (.ref x_BadSheet) = some false)
    (s_BadPlan_BadChoice : PySem.W.subIn K (.ref x_BadPlan) (.ref x_BadChoice) = some false)
    (s_BadPlan_BadPlan : PySem.W.subIn K (.ref x_BadPlan) (.ref x_BadPlan) = some true)
    (s_BadPlan_BadSheet : PySem.W.subIn K (.ref x_BadPlan) (.ref x_BadSheet) = some false)
    (s_BadSheet_BadChoice : PySem.W.subIn K (.ref x_BadSheet) (.ref x_BadChoice) = some false)
    (s_BadSheet_BadPlan : PySem.W.subIn K (.ref x_BadSheet) (.ref x_BadPlan) = some false)
    (s_BadSheet_BadSheet : PySem.W.subIn K (.ref x_BadSheet) (.ref x_BadSheet) = some true) : ∃ fd : FuncData, (∀ (s : Shared) (v : Value), BindsTo s fd ⟨[v], []⟩ [("script", v)]) ∧ ∀ base : Heap, K.In base → base.Ns mainGlobals mg → FnOk l.prog w K mg base (L2.CX l.prog w) 10 fa fd ["script"] (spLaw K) := by
  have e := hfa.symm.trans (PySem.W.mg_of X G a23)
  cases e
  have F0 := fun_mk (st := s_is_int) l0 c0 k0
  have F1 := fun_mk (st := s_is_row) l1 c1 k1
  have F2 := fun_mk (st := s_ratio) l2 c2 k2
  have F3 := fun_mk (st := s_gains_at) l3 c3 k3
  have F4 := fun_mk (st := s__law_bag) l4 c4 k4
  have F5 := fun_mk (st := s__law_pick) l5 c5 k5
  have F6 := fun_mk (st := s__law_ratio) l6 c6 k6
  have F7 := fun_mk (st := s__law_gains) l7 c7 k7
  have F8 := fun_mk (st := s__law_plans) l8 c8 k8
  have F9 := fun_mk (st := s_within) l9 c9 k9
  have F10 := fun_mk (st := s_are_deeds) l10 c10 k10
  have F11 := fun_mk (st := s_worth_of) l11 c11 k11
  have F12 := fun_mk (st := s__law_sheet) l12 c12 k12
  have F13 := fun_mk (st := s__law_worth) l13 c13 k13
  have F14 := fun_mk (st := s_are_counts) l14 c14 k14
  have F15 := fun_mk (st := s_is_sheet) l15 c15 k15
  have F16 := fun_mk (st := s_need_sheet) l16 c16 k16
  have F17 := fun_mk (st := s_need_choice) l17 c17 k17
  have F18 := fun_mk (st := s_plan_worth) l18 c18 k18
  have F19 := fun_mk (st := s_best_plan) l19 c19 k19
  have F20 := fun_mk (st := s_worth) l20 c20 k20
  have F21 := fun_mk (st := s__law_word) l21 c21 k21
  have F22 := fun_mk (st := s__law_same) l22 c22 k22
  have F23 := fun_mk (st := s_law) l23 c23 k23
  have R_BadChoice : Rsk K mg "BadChoice" x_BadChoice := ⟨PySem.W.mg_of X G aC_BadChoice, xC_BadChoice, kC_BadChoice, bC_BadChoice, tC_BadChoice, iC_BadChoice⟩
  have R_BadPlan : Rsk K mg "BadPlan" x_BadPlan := ⟨PySem.W.mg_of X G aC_BadPlan, xC_BadPlan, kC_BadPlan, bC_BadPlan, tC_BadPlan, iC_BadPlan⟩
  have R_BadSheet : Rsk K mg "BadSheet" x_BadSheet := ⟨PySem.W.mg_of X G aC_BadSheet, xC_BadSheet, kC_BadSheet, bC_BadSheet, tC_BadSheet, iC_BadSheet⟩
  let L : Lw0 K mg := {
    a_is_int := f0,
    d_is_int := _,
    f_is_int := F0,
    g_is_int := PySem.W.mg_of X G a0,
    b_is_int := F0.binds fun _ _ _ _ _ _ us hl => match us, hl with | [_], _ => rfl,
    a_is_row := f1,
    d_is_row := _,
    f_is_row := F1,
    g_is_row := PySem.W.mg_of X G a1,
    b_is_row := F1.binds fun _ _ _ _ _ _ us hl => match us, hl with | [_, _, _], _ => rfl,
    a_ratio := f2,
    d_ratio := _,
    f_ratio := F2,
    g_ratio := PySem.W.mg_of X G a2,
    b_ratio := F2.binds fun _ _ _ _ _ _ us hl => match us, hl with | [_, _], _ => rfl,
    a_gains_at := f3,
    d_gains_at := _,
    f_gains_at := F3,
    g_gains_at := PySem.W.mg_of X G a3,
    b_gains_at := F3.binds fun _ _ _ _ _ _ us hl => match us, hl with | [_, _, _], _ => rfl,
    a__law_bag := f4,
    d__law_bag := _,
    f__law_bag := F4,
    g__law_bag := PySem.W.mg_of X G a4,
    b__law_bag := F4.binds fun _ _ _ _ _ _ us hl => match us, hl with | [_], _ => rfl,
    a__law_pick := f5,
    d__law_pick := _,
    f__law_pick := F5,
    g__law_pick := PySem.W.mg_of X G a5,
    b__law_pick := F5.binds fun _ _ _ _ _ _ us hl => match us, hl with | [_, _], _ => rfl,
    a__law_ratio := f6,
    d__law_ratio := _,
    f__law_ratio := F6,
    g__law_ratio := PySem.W.mg_of X G a6,
    b__law_ratio := F6.binds fun _ _ _ _ _ _ us hl => match us, hl with | [_, _], _ => rfl,
    a__law_gains := f7,
    d__law_gains := _,
    f__law_gains := F7,
    g__law_gains := PySem.W.mg_of X G a7,
    b__law_gains := F7.binds fun _ _ _ _ _ _ us hl => match us, hl with | [_, _, _], _ => rfl,
    a__law_plans := f8,
    d__law_plans := _,
    f__law_plans := F8,
    g__law_plans := PySem.W.mg_of X G a8,
    b__law_plans := F8.binds fun _ _ _ _ _ _ us hl => match us, hl with | [_, _], _ => rfl,
    a_within := f9,
    d_within := _,
    f_within := F9,
    g_within := PySem.W.mg_of X G a9,
    b_within := F9.binds fun _ _ _ _ _ _ us hl => match us, hl with | [_, _, _], _ => rfl,
    a_are_deeds := f10,
    d_are_deeds := _,
    f_are_deeds := F10,
    g_are_deeds := PySem.W.mg_of X G a10,
    b_are_deeds := F10.binds fun _ _ _ _ _ _ us hl => match us, hl with | [_, _, _, _], _ => rfl,
    a_worth_of := f11,
    d_worth_of := _,
    f_worth_of := F11,
    g_worth_of := PySem.W.mg_of X G a11,
    b_worth_of := F11.binds fun _ _ _ _ _ _ us hl => match us, hl with | [_, _], _ => rfl,
    a__law_sheet := f12,
    d__law_sheet := _,
    f__law_sheet := F12,
    g__law_sheet := PySem.W.mg_of X G a12,
    b__law_sheet := F12.binds fun _ _ _ _ _ _ us hl => match us, hl with | [_, _, _], _ => rfl,
    a__law_worth := f13,
    d__law_worth := _,
    f__law_worth := F13,
    g__law_worth := PySem.W.mg_of X G a13,
    b__law_worth := F13.binds fun _ _ _ _ _ _ us hl => match us, hl with | [_, _, _], _ => rfl,
    a_are_counts := f14,
    d_are_counts := _,
    f_are_counts := F14,
    g_are_counts := PySem.W.mg_of X G a14,
    b_are_counts := F14.binds fun _ _ _ _ _ _ us hl => match us, hl with | [_, _, _, _], _ => rfl,
    a_is_sheet := f15,
    d_is_sheet := _,
    f_is_sheet := F15,
    g_is_sheet := PySem.W.mg_of X G a15,
    b_is_sheet := F15.binds fun _ _ _ _ _ _ us hl => match us, hl with | [_], _ => rfl,
    a_need_sheet := f16,
    d_need_sheet := _,
    f_need_sheet := F16,
    g_need_sheet := PySem.W.mg_of X G a16,
    b_need_sheet := F16.binds fun _ _ _ _ _ _ us hl => match us, hl with | [_], _ => rfl,
    a_need_choice := f17,
    d_need_choice := _,
    f_need_choice := F17,
    g_need_choice := PySem.W.mg_of X G a17,
    b_need_choice := F17.binds fun _ _ _ _ _ _ us hl => match us, hl with | [_, _], _ => rfl,
    a_plan_worth := f18,
    d_plan_worth := _,
    f_plan_worth := F18,
    g_plan_worth := PySem.W.mg_of X G a18,
    b_plan_worth := F18.binds fun _ _ _ _ _ _ us hl => match us, hl with | [_, _, _], _ => rfl,
    a_best_plan := f19,
    d_best_plan := _,
    f_best_plan := F19,
    g_best_plan := PySem.W.mg_of X G a19,
    b_best_plan := F19.binds fun _ _ _ _ _ _ us hl => match us, hl with | [_, _], _ => rfl,
    a_worth := f20,
    d_worth := _,
    f_worth := F20,
    g_worth := PySem.W.mg_of X G a20,
    b_worth := F20.binds fun _ _ _ _ _ _ us hl => match us, hl with | [_, _], _ => rfl,
    a__law_word := f21,
    d__law_word := _,
    f__law_word := F21,
    g__law_word := PySem.W.mg_of X G a21,
    b__law_word := F21.binds fun _ _ _ _ _ _ us hl => match us, hl with | [_, _, _, _], _ => rfl,
    a__law_same := f22,
    d__law_same := _,
    f__law_same := F22,
    g__law_same := PySem.W.mg_of X G a22,
    b__law_same := F22.binds fun _ _ _ _ _ _ us hl => match us, hl with | [_, _], _ => rfl,
    a_law := fa,
    d_law := _,
    f_law := F23,
    g_law := PySem.W.mg_of X G a23,
    b_law := F23.binds fun _ _ _ _ _ _ us hl => match us, hl with | [_], _ => rfl,
    k_best_plan_choice_sheet := ⟨fun s us hl => match us, hl with | [_, _], _ => .of_eq rfl⟩,
    k_plan_worth_plan_choice_sheet := ⟨fun s us hl => match us, hl with | [_, _, _], _ => .of_eq rfl⟩,
    k_worth_choice_sheet := ⟨fun s us hl => match us, hl with | [_, _], _ => .of_eq rfl⟩,
    t_MOST_STATES := t_MOST_STATES,
    c_MOST_STATES := PySem.W.mg_of X G v_MOST_STATES,
    t_MOST_ANSWERS := t_MOST_ANSWERS,
    c_MOST_ANSWERS := PySem.W.mg_of X G v_MOST_ANSWERS,
    t_MOST_SUM := t_MOST_SUM,
    c_MOST_SUM := PySem.W.mg_of X G v_MOST_SUM,
    t_MOST_DEEDS := t_MOST_DEEDS,
    c_MOST_DEEDS := PySem.W.mg_of X G v_MOST_DEEDS,
    t_MOST_PAYMENT := t_MOST_PAYMENT,
    c_MOST_PAYMENT := PySem.W.mg_of X G v_MOST_PAYMENT,
    g_gcd := PySem.W.mg_of X G i_gcd,
    x_BadChoice := x_BadChoice,
    r_BadChoice := R_BadChoice,
    x_BadPlan := x_BadPlan,
    r_BadPlan := R_BadPlan,
    x_BadSheet := x_BadSheet,
    r_BadSheet := R_BadSheet,
    hx_BadChoice := Hxs.hx (c := .ref x_BadChoice) (x := "BadChoice") (l := subT) (.hit R_BadChoice.g (R_BadChoice.exm R_BadChoice s_BadChoice_BadChoice) (.skip (by decide) (.skip (by decide) (.hit R_BadPlan.g (R_BadPlan.exm R_BadChoice s_BadPlan_BadChoice) (.skip (by decide) (.skip (by decide) (.hit R_BadSheet.g (R_BadSheet.exm R_BadChoice s_BadSheet_BadChoice) (.skip (by decide) (.skip (by decide) (.nil)))))))))),
    hx_BadPlan := Hxs.hx (c := .ref x_BadPlan) (x := "BadPlan") (l := subT) (.skip (by decide) (.hit R_BadChoice.g (R_BadChoice.exm R_BadPlan s_BadChoice_BadPlan) (.skip (by decide) (.skip (by decide) (.hit R_BadPlan.g (R_BadPlan.exm R_BadPlan s_BadPlan_BadPlan) (.skip (by decide) (.skip (by decide) (.hit R_BadSheet.g (R_BadSheet.exm R_BadPlan s_BadSheet_BadPlan) (.skip (by decide) (.nil)))))))))),
    hx_BadSheet := Hxs.hx (c := .ref x_BadSheet) (x := "BadSheet") (l := subT) (.skip (by decide) (.skip (by decide) (.hit R_BadChoice.g (R_BadChoice.exm R_BadSheet s_BadChoice_BadSheet) (.skip (by decide) (.skip (by decide) (.hit R_BadPlan.g (R_BadPlan.exm R_BadSheet s_BadPlan_BadSheet) (.skip (by decide) (.skip (by decide) (.hit R_BadSheet.g (R_BadSheet.exm R_BadSheet s_BadSheet_BadSheet) (.nil)))))))))),
    n_abs := PySem.W.mg_none_of X G z_abs,
    n_all := PySem.W.mg_none_of X G z_all,
    n_bool := PySem.W.mg_none_of X G z_bool,
    n_enumerate := PySem.W.mg_none_of X G z_enumerate,
    n_int := PySem.W.mg_none_of X G z_int,
    n_isinstance := PySem.W.mg_none_of X G z_isinstance,
    n_len := PySem.W.mg_none_of X G z_len,
    n_list := PySem.W.mg_none_of X G z_list,
    n_max := PySem.W.mg_none_of X G z_max,
    n_range := PySem.W.mg_none_of X G z_range,
    n_set := PySem.W.mg_none_of X G z_set,
    n_str := PySem.W.mg_none_of X G z_str,
    n_sum := PySem.W.mg_none_of X G z_sum,
    n_tuple := PySem.W.mg_none_of X G z_tuple,
    n_zip := PySem.W.mg_none_of X G z_zip }
  refine ⟨_, fun s v => .of_eq rfl, fun base _ _ => (ok_law L).imp fun vs H Q E h => ?_⟩
  obtain ⟨a, ns, rfl, hz, hst, hq⟩ := h
  obtain ⟨S', e⟩ := plain ns hz
  exact law_sp hz hst e hq
end Law
end

section
open PySem PySem.W PyProof.Rows
set_option maxHeartbeats 0 in
theorem PySem.Challenge.cw_whoknows_k24_plans_and_worths_holds : PySem.Challenge.rw_whoknows_k24_plans_and_worths.Holds := by
  w_on; o_law; k_head; (case hw => w_witness2)
  k_fill
  refine L2.walk_of (l := PySem.Challenge.rw_whoknows_k24_plans_and_worths) (n := 63) (k := 10) (x := "script") (CX := fun w => L2.CX PySem.Challenge.rw_whoknows_k24_plans_and_worths.prog w) (sp := fun w => Law.spLaw _) rfl (by decide) rfl ⟨rfl, by decide, by decide⟩ (fun w h Y => PySem.W.kIn_of Y) ?F (fun _ H a ns hl _ hS => ⟨a, ns, rfl, hl, fun H' k => Sh.SqL.same hS k, fun _ => rfl⟩) (fun _ _ _ _ _ h => Sh.cx_end h)
  case F =>
    intro w mg fa h KX G hmg
    refine' Law.all_mk Law.plain KX G hmg ?a0 ?l0 ?c0 ?k0 ?a1 ?l1 ?c1 ?k1 ?a2 ?l2 ?c2 ?k2 ?a3 ?l3 ?c3 ?k3 ?a4 ?l4 ?c4 ?k4 ?a5 ?l5 ?c5 ?k5 ?a6 ?l6 ?c6 ?k6 ?a7 ?l7 ?c7 ?k7 ?a8 ?l8 ?c8 ?k8 ?a9 ?l9 ?c9 ?k9 ?a10 ?l10 ?c10 ?k10 ?a11 ?l11 ?c11 ?k11 ?a12 ?l12 ?c12 ?k12 ?a13 ?l13 ?c13 ?k13 ?a14 ?l14 ?c14 ?k14 ?a15 ?l15 ?c15 ?k15 ?a16 ?l16 ?c16 ?k16 ?a17 ?l17 ?c17 ?k17 ?a18 ?l18 ?c18 ?k18 ?a19 ?l19 ?c19 ?k19 ?a20 ?l20 ?c20 ?k20 ?a21 ?l21 ?c21 ?k21 ?a22 ?l22 ?c22 ?k22 ?a23 ?l23 ?c23 ?k23 ?v_MOST_STATES ?v_MOST_ANSWERS ?v_MOST_SUM ?v_MOST_DEEDS ?v_MOST_PAYMENT ?z_abs ?z_all ?z_bool ?z_enumerate ?z_int ?z_isinstance ?z_len ?z_list ?z_max ?z_range ?z_set ?z_str ?z_sum ?z_tuple ?z_zip ?i_gcd ?aC_BadChoice ?xC_BadChoice ?kC_BadChoice ?bC_BadChoice ?tC_BadChoice ?iC_BadChoice ?aC_BadPlan ?xC_BadPlan ?kC_BadPlan ?bC_BadPlan ?tC_BadPlan ?iC_BadPlan ?aC_BadSheet ?xC_BadSheet ?kC_BadSheet ?bC_BadSheet ?tC_BadSheet ?iC_BadSheet ?s_BadChoice_BadChoice ?s_BadChoice_BadPlan ?s_BadChoice_BadSheet ?s_BadPlan_BadChoice ?s_BadPlan_BadPlan ?s_BadPlan_BadSheet ?s_BadSheet_BadChoice ?s_BadSheet_BadPlan ?s_BadSheet_BadSheet
    (case a0 => k_is); (case l0 => k_is); (case c0 => k_is); (case k0 => k_is); (case a1 => k_is); (case l1 => k_is); (case c1 => k_is); (case k1 => k_is); (case a2 => k_is); (case l2 => k_is); (case c2 => k_is); (case k2 => k_is); (case a3 => k_is); (case l3 => k_is); (case c3 => k_is); (case k3 => k_is); (case a4 => k_is); (case l4 => k_is); (case c4 => k_is); (case k4 => k_is); (case a5 => k_is); (case l5 => k_is); (case c5 => k_is); (case k5 => k_is); (case a6 => k_is); (case l6 => k_is); (case c6 => k_is); (case k6 => k_is); (case a7 => k_is); (case l7 => k_is); (case c7 => k_is); (case k7 => k_is); (case a8 => k_is); (case l8 => k_is); (case c8 => k_is); (case k8 => k_is); (case a9 => k_is); (case l9 => k_is); (case c9 => k_is); (case k9 => k_is); (case a10 => k_is); (case l10 => k_is); (case c10 => k_is); (case k10 => k_is); (case a11 => k_is); (case l11 => k_is); (case c11 => k_is); (case k11 => k_is); (case a12 => k_is); (case l12 => k_is); (case c12 => k_is); (case k12 => k_is); (case a13 => k_is); (case l13 => k_is); (case c13 => k_is); (case k13 => k_is); (case a14 => k_is); (case l14 => k_is); (case c14 => k_is); (case k14 => k_is); (case a15 => k_is); (case l15 => k_is); (case c15 => k_is); (case k15 => k_is); (case a16 => k_is); (case l16 => k_is); (case c16 => k_is); (case k16 => k_is); (case a17 => k_is); (case l17 => k_is); (case c17 => k_is); (case k17 => k_is); (case a18 => k_is); (case l18 => k_is); (case c18 => k_is); (case k18 => k_is); (case a19 => k_is); (case l19 => k_is); (case c19 => k_is); (case k19 => k_is); (case a20 => k_is); (case l20 => k_is); (case c20 => k_is); (case k20 => k_is); (case a21 => k_is); (case l21 => k_is); (case c21 => k_is); (case k21 => k_is); (case a22 => k_is); (case l22 => k_is); (case c22 => k_is); (case k22 => k_is); (case a23 => k_is); (case l23 => k_is); (case c23 => k_is); (case k23 => k_is); (case v_MOST_STATES => k_is); (case v_MOST_ANSWERS => k_is); (case v_MOST_SUM => k_is); (case v_MOST_DEEDS => k_is); (case v_MOST_PAYMENT => k_is); (case z_abs => k_is); (case z_all => k_is); (case z_bool => k_is); (case z_enumerate => k_is); (case z_int => k_is); (case z_isinstance => k_is); (case z_len => k_is); (case z_list => k_is); (case z_max => k_is); (case z_range => k_is); (case z_set => k_is); (case z_str => k_is); (case z_sum => k_is); (case z_tuple => k_is); (case z_zip => k_is); (case i_gcd => k_is); (case aC_BadChoice => k_is); (case xC_BadChoice => k_exc); (case kC_BadChoice => k_is); (case bC_BadChoice => k_is); (case tC_BadChoice => k_is); (case iC_BadChoice => k_is); (case aC_BadPlan => k_is); (case xC_BadPlan => k_exc); (case kC_BadPlan => k_is); (case bC_BadPlan => k_is); (case tC_BadPlan => k_is); (case iC_BadPlan => k_is); (case aC_BadSheet => k_is); (case xC_BadSheet => k_exc); (case kC_BadSheet => k_is); (case bC_BadSheet => k_is); (case tC_BadSheet => k_is); (case iC_BadSheet => k_is); (case s_BadChoice_BadChoice => first | rfl | k_is); (case s_BadChoice_BadPlan => first | rfl | k_is); (case s_BadChoice_BadSheet => first | rfl | k_is); (case s_BadPlan_BadChoice => first | rfl | k_is); (case s_BadPlan_BadPlan => first | rfl | k_is); (case s_BadPlan_BadSheet => first | rfl | k_is); (case s_BadSheet_BadChoice => first | rfl | k_is); (case s_BadSheet_BadPlan => first | rfl | k_is); (case s_BadSheet_BadSheet => first | rfl | k_is)
end
