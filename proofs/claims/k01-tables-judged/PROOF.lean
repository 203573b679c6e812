import PyProof.Rows.All
import HandS.ForMost
import HandS.ForExc
import HandS.Wide
import HandS.TupAny
import HandS.TupMul
import HandS.Style
import HandS.IsInst
import HandS.Deep
import KE.GoesEnum
import KE.GoesMore
import HandS.Zip
import KE.KRevSl
import PySem.Challenge.RW_whoknows_k01_tables_judged
set_option Elab.async false
set_option linter.all false
set_option maxRecDepth 100000
section
/-! Sh: plain functions that a def's body is tied to, construct by construct. -/
namespace Sh
open PySem PySem.Spec PyProof.Rows L2

/-! ### values of the plain side -/
inductive W where
  | d (x : PyData)
  | ref (n : Nat)
  | cst (v : V)
  | tup (ws : List W)
  | fl (xs : List PyData)
abbrev Row := List (Str × W)
inductive Ob where
  | lst (ws : List W)
  | dct (kvs : List (PyData × W))
  | ins (C : Addr) (fs : Row)
abbrev Sto := List Ob
structure Exn where
  cls : Str
  fld : Option (Str × W) := none
inductive Out (α : Type) where
  | ok (a : α) (S : Sto)
  | exc (e : Exn) (S : Sto)
  | bad
@[reducible] def Out.bind {α β : Type} (o : Out α) (f : α → Sto → Out β) : Out β := match o with
  | .ok a S => f a S
  | .exc e S => .exc e S
  | .bad => .bad
@[reducible] def Out.ofO {α : Type} (S : Sto) : Option α → Out α
  | some a => .ok a S
  | none => .bad
/-- a bound that the kernel never counts -/
def In62 (j : Int) : Prop := -(2 ^ 62) ≤ j ∧ j < 2 ^ 62
noncomputable instance {j : Int} : Decidable (In62 j) := Classical.propDecidable _
def In63 (j : Int) : Prop := -(2 ^ 63) ≤ j ∧ j < 2 ^ 63
noncomputable instance {j : Int} : Decidable (In63 j) := Classical.propDecidable _
abbrev Rho := List (Option W)
abbrev EM := Rho → Sto → Out W
abbrev AM := Rho → Sto → Out (List W)
abbrev BM := Rho → Sto → Out Bool
inductive Fl where
  | nx (ρ : Rho) | rt (w : W) | bk (ρ : Rho) | ct (ρ : Rho) | ex (e : Exn) (ρ : Rho)
abbrev SM := Rho → Sto → Out Fl

/-! ### how they stand in the heap -/
abbrev FS := Addr → Prop
def AgF (F : FS) (H H' : Hp) : Prop := ∀ b o, F b → H b = some o → H' b = some o
def StL (_ : PySem.W.Frag) (F : FS) (H : Hp) (a : Addr) (vs : List V) : Prop := vs.length ≤ sizeLine ∧ ∀ H', AgF F H H' → H' a = some (.lst vs)
/-- a list that is not tracked as such (the script) -/
def StF (K : PySem.W.Frag) (F : FS) (H : Hp) (a : Addr) (vs : List V) : Prop := vs.length ≤ sizeLine ∧ ∀ H', AgF F H H' → SqL K H' a vs
def StT (K : PySem.W.Frag) (F : FS) (H : Hp) (a : Addr) (vs : List V) : Prop := vs.length ≤ sizeLine ∧ ∀ H', AgF F H H' → SqT K H' a vs
theorem AgF.refl {F : FS} {H : Hp} : AgF F H H := fun _ _ _ h => h
theorem StL.tr {K F H a vs} (h : StL K F H a vs) : H a = some (.lst vs) := h.2 H .refl
theorem StL.now {K F H a vs} (h : StL K F H a vs) : SqL K H a vs := .of h.tr
theorem StF.now {K F H a vs} (h : StF K F H a vs) : SqL K H a vs := h.2 H .refl
theorem StT.now {K F H a vs} (h : StT K F H a vs) : SqT K H a vs := h.2 H .refl
theorem StL.mk' {K F H a vs} (hz : vs.length ≤ sizeLine) (hF : F a) (h : H a = some (.lst vs)) : StL K F H a vs := ⟨hz, fun _ g => g a _ hF h⟩
theorem StT.mk' {K F H a vs} (hz : vs.length ≤ sizeLine) (hF : F a) (h : H a = some (.tup vs)) : StT K F H a vs := ⟨hz, fun _ g => SqT.of (g a _ hF h)⟩

mutual
inductive RD (K : PySem.W.Frag) (F : FS) (H : Hp) : PyData → V → Prop
  | non : RD K F H .none .non
  | bl (b : Bool) : RD K F H (.bool b) (.bl b)
  | int (i : Int) : RD K F H (.int i) (.int i)
  | str (x : Str) : RD K F H (.str x) (.str x)
  | lst {a : Addr} {vs : List V} {ds : List PyData} : StL K F H a vs → RDs K F H ds vs → RD K F H (.list ds) (.ref a)
  | tup {a : Addr} {vs : List V} {ds : List PyData} : StT K F H a vs → RDs K F H ds vs → RD K F H (.tuple ds) (.ref a)
inductive RDs (K : PySem.W.Frag) (F : FS) (H : Hp) : List PyData → List V → Prop
  | nil : RDs K F H [] []
  | cons {d : PyData} {v : V} {ds : List PyData} {vs : List V} : RD K F H d v → RDs K F H ds vs → RDs K F H (d :: ds) (v :: vs)
end
mutual
inductive RW (K : PySem.W.Frag) (F : FS) (ι : List Addr) (H : Hp) : W → V → Prop
  | d {x : PyData} {v : V} : RD K F H x v → RW K F ι H (.d x) v
  | ref {n : Nat} {a : Addr} : ι[n]? = some a → RW K F ι H (.ref n) (.ref a)
  | cst (v : V) : RW K F ι H (.cst v) v
  | tup {a : Addr} {vs : List V} {ws : List W} : StT K F H a vs → RWs K F ι H ws vs → RW K F ι H (.tup ws) (.ref a)
  | fl {a : Addr} {vs : List V} {xs : List PyData} : StF K F H a vs → RDs K F H xs vs → RW K F ι H (.fl xs) (.ref a)
inductive RWs (K : PySem.W.Frag) (F : FS) (ι : List Addr) (H : Hp) : List W → List V → Prop
  | nil : RWs K F ι H [] []
  | cons {w : W} {v : V} {ws : List W} {vs : List V} : RW K F ι H w v → RWs K F ι H ws vs → RWs K F ι H (w :: ws) (v :: vs)
end

/-- what values lean on is kept -/
structure Wk (F : FS) (ι : List Addr) (H : Hp) (F' : FS) (ι' : List Addr) (H' : Hp) : Prop where
  fs : ∀ a, F a → F' a
  ag : AgF F H H'
  pre : ∃ r, ι' = ι ++ r
/-- from (F, ι, H) on to (F', ι', H') -/
structure Ext (F : FS) (ι : List Addr) (H : Hp) (F' : FS) (ι' : List Addr) (H' : Hp) : Prop extends Wk F ι H F' ι' H' where
  keep : ∀ a o, H a = some o → a ∉ ι → H' a = some o
  nf : ∀ a, F' a → F a ∨ H a = none
  ni : ∀ a, a ∈ ι' → a ∈ ι ∨ H a = none
  st : ∀ a, H' a = none → H a = none
theorem Ext.refl {F ι H} : Ext F ι H F ι H := ⟨⟨fun _ h => h, .refl, ⟨[], by simp⟩⟩, fun _ _ h _ => h, fun _ h => .inl h, fun _ h => .inl h, fun _ h => h⟩
theorem Ext.trans {F ι H F1 ι1 H1 F2 ι2 H2} (x : Ext F ι H F1 ι1 H1) (y : Ext F1 ι1 H1 F2 ι2 H2) : Ext F ι H F2 ι2 H2 := by
  refine ⟨⟨fun a h => y.fs a (x.fs a h), fun b o f h => y.ag b o (x.fs b f) (x.ag b o f h), ?_⟩, fun a o h n => ?_, fun a h => ?_, fun a h => ?_, fun a h => x.st a (y.st a h)⟩
  · obtain ⟨r, e⟩ := x.pre
    obtain ⟨r', e'⟩ := y.pre
    exact ⟨r ++ r', by rw [e', e, List.append_assoc]⟩
  · refine y.keep a o (x.keep a o h n) fun hm => ?_
    rcases x.ni a hm with z | z
    · exact n z
    · rw [z] at h; cases h
  · rcases y.nf a h with z | z
    · exact x.nf a z
    · exact .inr (x.st a z)
  · rcases y.ni a h with z | z
    · exact x.ni a z
    · exact .inr (x.st a z)
theorem AgF.wk {F ι H F' ι' H' H2} (x : Wk F ι H F' ι' H') (g : AgF F' H' H2) : AgF F H H2 := fun b o f h => g b o (x.fs b f) (x.ag b o f h)
theorem StL.wk {K F ι H F' ι' H' a vs} (h : StL K F H a vs) (x : Wk F ι H F' ι' H') : StL K F' H' a vs := ⟨h.1, fun H2 g => h.2 H2 (g.wk x)⟩
theorem StF.wk {K F ι H F' ι' H' a vs} (h : StF K F H a vs) (x : Wk F ι H F' ι' H') : StF K F' H' a vs := ⟨h.1, fun H2 g => h.2 H2 (g.wk x)⟩
theorem StT.wk {K F ι H F' ι' H' a vs} (h : StT K F H a vs) (x : Wk F ι H F' ι' H') : StT K F' H' a vs := ⟨h.1, fun H2 g => h.2 H2 (g.wk x)⟩
mutual
theorem RD.wk {K F ι H F' ι' H'} (x : Wk F ι H F' ι' H') : ∀ {d : PyData} {v : V}, RD K F H d v → RD K F' H' d v
  | _, _, .non => .non
  | _, _, .bl b => .bl b
  | _, _, .int i => .int i
  | _, _, .str z => .str z
  | _, _, .lst s r => .lst (s.wk x) (RDs.wk x r)
  | _, _, .tup s r => .tup (s.wk x) (RDs.wk x r)
theorem RDs.wk {K F ι H F' ι' H'} (x : Wk F ι H F' ι' H') : ∀ {d : List PyData} {v : List V}, RDs K F H d v → RDs K F' H' d v
  | _, _, .nil => .nil
  | _, _, .cons a b => .cons (RD.wk x a) (RDs.wk x b)
end
mutual
theorem RW.wk {K F ι H F' ι' H'} (x : Wk F ι H F' ι' H') : ∀ {d : W} {v : V}, RW K F ι H d v → RW K F' ι' H' d v
  | _, _, .d r => .d (r.wk x)
  | _, _, .cst v => .cst v
  | _, _, .ref h => .ref (by
      obtain ⟨r, e⟩ := x.pre
      rw [e, List.getElem?_append_left (List.getElem?_eq_some_iff.mp h).1]; exact h)
  | _, _, .tup s r => .tup (s.wk x) (RWs.wk x r)
  | _, _, .fl s r => .fl (s.wk x) (RDs.wk x r)
theorem RWs.wk {K F ι H F' ι' H'} (x : Wk F ι H F' ι' H') : ∀ {d : List W} {v : List V}, RWs K F ι H d v → RWs K F' ι' H' d v
  | _, _, .nil => .nil
  | _, _, .cons a b => .cons (RW.wk x a) (RWs.wk x b)
end

theorem RD.ext {K F ι H F' ι' H'} (x : Ext F ι H F' ι' H') {d : PyData} {v : V} (r : RD K F H d v) : RD K F' H' d v := r.wk x.toWk
theorem RDs.ext {K F ι H F' ι' H'} (x : Ext F ι H F' ι' H') {d : List PyData} {v : List V} (r : RDs K F H d v) : RDs K F' H' d v := r.wk x.toWk
theorem RW.ext {K F ι H F' ι' H'} {d : W} {v : V} (r : RW K F ι H d v) (x : Ext F ι H F' ι' H') : RW K F' ι' H' d v := r.wk x.toWk
theorem RWs.ext {K F ι H F' ι' H'} {d : List W} {v : List V} (r : RWs K F ι H d v) (x : Ext F ι H F' ι' H') : RWs K F' ι' H' d v := r.wk x.toWk
theorem StL.ext {K F ι H F' ι' H' a vs} (h : StL K F H a vs) (x : Ext F ι H F' ι' H') : StL K F' H' a vs := h.wk x.toWk
theorem StT.ext {K F ι H F' ι' H' a vs} (h : StT K F H a vs) (x : Ext F ι H F' ι' H') : StT K F' H' a vs := h.wk x.toWk
/-- pure data does not look at the cells -/
theorem RW.pure {K F ι H x v} (h : RW K F ι H (.d x) v) : RD K F H x v := by cases h; assumption
theorem RDs.length {K F H} : ∀ {ds : List PyData} {vs : List V}, RDs K F H ds vs → ds.length = vs.length
  | _, _, .nil => rfl
  | _, _, .cons _ t => by rw [List.length_cons, List.length_cons, RDs.length t]
theorem RWs.length {K F ι H} : ∀ {ds : List W} {vs : List V}, RWs K F ι H ds vs → ds.length = vs.length
  | _, _, .nil => rfl
  | _, _, .cons _ t => by rw [List.length_cons, List.length_cons, RWs.length t]
theorem RDs.get {K F H} : ∀ {ds : List PyData} {vs : List V} {i : Nat} {v : V}, RDs K F H ds vs → vs[i]? = some v → ∃ d, ds[i]? = some d ∧ RD K F H d v
  | _, _, _, _, .nil, e => by simp at e
  | _, _, 0, _, .cons r _, e => by simp at e; subst e; exact ⟨_, rfl, r⟩
  | _, _, i + 1, v, .cons _ t, e => by
    obtain ⟨d, h1, h2⟩ := RDs.get (i := i) (v := v) t (by simpa using e)
    exact ⟨d, by simpa using h1, h2⟩
theorem RDs.get' {K F H} : ∀ {ds : List PyData} {vs : List V} {i : Nat} {d : PyData}, RDs K F H ds vs → ds[i]? = some d → ∃ v, vs[i]? = some v ∧ RD K F H d v
  | _, _, _, _, .nil, e => by simp at e
  | _, _, 0, _, .cons r _, e => by simp at e; subst e; exact ⟨_, rfl, r⟩
  | _, _, i + 1, v, .cons _ t, e => by
    obtain ⟨d, h1, h2⟩ := RDs.get' (i := i) (d := v) t (by simpa using e)
    exact ⟨d, by simpa using h1, h2⟩
theorem RWs.get' {K F ι H} : ∀ {ds : List W} {vs : List V} {i : Nat} {d : W}, RWs K F ι H ds vs → ds[i]? = some d → ∃ v, vs[i]? = some v ∧ RW K F ι H d v
  | _, _, _, _, .nil, e => by simp at e
  | _, _, 0, _, .cons r _, e => by simp at e; subst e; exact ⟨_, rfl, r⟩
  | _, _, i + 1, v, .cons _ t, e => by
    obtain ⟨d, h1, h2⟩ := RWs.get' (i := i) (d := v) t (by simpa using e)
    exact ⟨d, by simpa using h1, h2⟩
theorem RDs.append {K F H} : ∀ {xs ys : List PyData} {us ws : List V}, RDs K F H xs us → RDs K F H ys ws → RDs K F H (xs ++ ys) (us ++ ws)
  | _, _, _, _, .nil, s => s
  | _, _, _, _, .cons r t, s => .cons r (RDs.append t s)
theorem RWs.append {K F ι H} : ∀ {xs ys : List W} {us ws : List V}, RWs K F ι H xs us → RWs K F ι H ys ws → RWs K F ι H (xs ++ ys) (us ++ ws)
  | _, _, _, _, .nil, s => s
  | _, _, _, _, .cons r t, s => .cons r (RWs.append t s)
theorem RDs.take {K F H} : ∀ {xs : List PyData} {us : List V} (n : Nat), RDs K F H xs us → RDs K F H (xs.take n) (us.take n)
  | _, _, 0, _ => .nil
  | _, _, _ + 1, .nil => .nil
  | _, _, n + 1, .cons r t => .cons r (RDs.take n t)
theorem RDs.drop {K F H} : ∀ {xs : List PyData} {us : List V} (n : Nat), RDs K F H xs us → RDs K F H (xs.drop n) (us.drop n)
  | _, _, 0, r => r
  | _, _, _ + 1, .nil => .nil
  | _, _, n + 1, .cons _ t => RDs.drop n t
theorem RWs.set {K F ι H} {x : W} {u : V} (r : RW K F ι H x u) : ∀ {xs : List W} {us : List V} (i : Nat), RWs K F ι H xs us → RWs K F ι H (xs.set i x) (us.set i u)
  | _, _, _, .nil => .nil
  | _, _, 0, .cons _ t => .cons r t
  | _, _, i + 1, .cons q t => .cons q (RWs.set r i t)
theorem RWs.dropLast {K F ι H} : ∀ {xs : List W} {us : List V}, RWs K F ι H xs us → RWs K F ι H xs.dropLast us.dropLast
  | _, _, .nil => .nil
  | _, _, .cons _ .nil => .nil
  | _, _, .cons r (.cons q t) => .cons r (RWs.dropLast (.cons q t))
theorem RWs.ofD {K F ι H} : ∀ {xs : List PyData} {us : List V}, RDs K F H xs us → RWs K F ι H (xs.map .d) us
  | _, _, .nil => .nil
  | _, _, .cons r t => .cons (.d r) (RWs.ofD t)
theorem RWs.toD {K F ι H} : ∀ {xs : List PyData} {us : List V}, RWs K F ι H (xs.map .d) us → RDs K F H xs us
  | [], _, h => by cases h; exact .nil
  | x :: xs, _, h => by cases h with | cons r t => exact .cons r.pure (RWs.toD t)
mutual
theorem RD.toDp {K F H} : ∀ {d : PyData} {v : V}, RD K F H d v → Dp K H v d
  | _, _, .non => .non
  | _, _, .bl b => .bl b
  | _, _, .int i => .int i
  | _, _, .str z => .str z
  | _, _, .lst s r => .lst s.now (RDs.toDp r)
  | _, _, .tup s r => .tup s.now (RDs.toDp r)
theorem RDs.toDp {K F H} : ∀ {d : List PyData} {v : List V}, RDs K F H d v → DpAll K H v d
  | _, _, .nil => .nil
  | _, _, .cons a b => .cons (RD.toDp a) (RDs.toDp b)
end

/-! ### the cells -/
inductive RR (K : PySem.W.Frag) (F : FS) (ι : List Addr) (H : Hp) : Row → List (Str × V) → Prop
  | nil : RR K F ι H [] []
  | cons {f : Str} {w : W} {v : V} {ws : Row} {vs : List (Str × V)} : RW K F ι H w v → RR K F ι H ws vs → RR K F ι H ((f, w) :: ws) ((f, v) :: vs)
theorem RR.wk {K F ι H F' ι' H'} (x : Wk F ι H F' ι' H') : ∀ {d : Row} {v : List (Str × V)}, RR K F ι H d v → RR K F' ι' H' d v
  | _, _, .nil => .nil
  | _, _, .cons a b => .cons (RW.wk x a) (RR.wk x b)
def RO (K : PySem.W.Frag) (F : FS) (ι : List Addr) (H : Hp) (a : Addr) : Ob → Prop
  | .lst ws => ∃ vs, H a = some (.lst vs) ∧ RWs K F ι H ws vs ∧ ws.length ≤ sizeLine
  | .dct _ => False
  | .ins C fs => ∃ dx vs, H a = some (.ins C dx vs) ∧ RR K F ι H fs vs
structure Rel (K : PySem.W.Frag) (F : FS) (ι : List Addr) (S : Sto) (H : Hp) : Prop where
  len : ι.length = S.length
  nd : ι.Nodup
  dj : ∀ a, a ∈ ι → ¬ F a
  ft : ∀ a, F a → H a ≠ none
  cell : ∀ (n : Nat) (a : Addr) (o : Ob), ι[n]? = some a → S[n]? = some o → RO K F ι H a o
theorem RO.some {K F ι H a o} (h : RO K F ι H a o) : H a ≠ none := by
  cases o with
  | lst ws => obtain ⟨vs, e, _⟩ := h; rw [e]; simp
  | dct _ => exact h.elim
  | ins C fs => obtain ⟨dx, vs, e, _⟩ := h; rw [e]; simp
theorem Rel.there {K F ι S H} (R : Rel K F ι S H) {a : Addr} (h : a ∈ ι) : H a ≠ none := by
  obtain ⟨n, hn, e⟩ := List.getElem_of_mem h
  have h1 : ι[n]? = some a := by rw [List.getElem?_eq_getElem hn, e]
  have h2 : n < S.length := by rw [← R.len]; exact hn
  exact (R.cell n a S[n] h1 (List.getElem?_eq_getElem h2)).some
theorem Rel.nil {K F H} (hf : ∀ a, F a → H a ≠ none) : Rel K F [] [] H := ⟨rfl, .nil, fun _ h => by simp at h, hf, fun n a o h => by simp at h⟩
theorem upd_some {H : Hp} {p a : Addr} {o : HO} (h : H a ≠ none) : upd H p o a ≠ none := by
  by_cases e : a = p
  · subst e; rw [upd_same]; simp
  · rw [upd_ne e]; exact h
/-- a cell's content kept over an extension that leaves its address -/
theorem RO.wk {K F ι H F' ι' H' a o} (h : RO K F ι H a o) (x : Wk F ι H F' ι' H') (e : H' a = H a) : RO K F' ι' H' a o := by
  cases o with
  | lst ws => obtain ⟨vs, e1, r, z⟩ := h; exact ⟨vs, by rw [e, e1], r.wk x, z⟩
  | dct _ => exact h.elim
  | ins C fs => obtain ⟨dx, vs, e1, r⟩ := h; exact ⟨dx, vs, by rw [e, e1], r.wk x⟩

/-! ### steps of the heap -/
section
variable {K : PySem.W.Frag} {F : FS} {ι : List Addr} {S : Sto} {H : Hp} {p : Addr} {o : HO}
abbrev addF (F : FS) (p : Addr) : FS := fun a => a = p ∨ F a
/-- a new object that is never changed -/
theorem Ext.frz (n : H p = none) : Ext F ι H (addF F p) ι (upd H p o) := by
  have k : ∀ a u, H a = some u → upd H p o a = some u := fun a u e => by rw [upd_ne (ne_of_none e n)]; exact e
  refine ⟨⟨fun a h => .inr h, fun b u _ e => k b u e, ⟨[], by simp⟩⟩, fun a u e _ => k a u e, fun a h => ?_, fun a h => .inl h, fun a e => ?_⟩
  · rcases h with rfl | h
    · exact .inr n
    · exact .inl h
  · cases q : H a with
    | none => rfl
    | some u => rw [k a u q] at e; cases e
theorem Rel.frz (R : Rel K F ι S H) (n : H p = none) : Rel K (addF F p) ι S (upd H p o) := by
  refine ⟨R.len, R.nd, fun a h f => ?_, fun a f => ?_, fun m a ob h1 h2 => ?_⟩
  · rcases f with rfl | f
    · exact R.there h n
    · exact R.dj a h f
  · rcases f with rfl | f
    · rw [upd_same]; simp
    · exact upd_some (R.ft a f)
  · refine (R.cell m a ob h1 h2).wk (Ext.frz n).toWk ?_
    have : H a ≠ none := (R.cell m a ob h1 h2).some
    exact upd_ne fun e => this (e ▸ n)
/-- a new object that is not ours yet; written; then taken as one never changed, or as a cell -/
theorem Ext.lay (n : H p = none) : Ext F ι H F ι (upd H p o) := by
  have k : ∀ a u, H a = some u → upd H p o a = some u := fun a u e => by rw [upd_ne (ne_of_none e n)]; exact e
  refine ⟨⟨fun a h => h, fun b u _ e => k b u e, ⟨[], by simp⟩⟩, fun a u e _ => k a u e, fun a h => .inl h, fun a h => .inl h, fun a e => ?_⟩
  cases q : H a with
  | none => rfl
  | some u => rw [k a u q] at e; cases e
theorem Ext.wr0 {F' ι' H'} (x : Ext F ι H F' ι' H') (n : H p = none) : Ext F ι H F' ι' (upd H' p o) := by
  refine ⟨⟨x.fs, fun b u f e => ?_, x.pre⟩, fun a u e h => ?_, x.nf, x.ni, fun a e => ?_⟩
  · rw [upd_ne (ne_of_none e n)]; exact x.ag b u f e
  · rw [upd_ne (ne_of_none e n)]; exact x.keep a u e h
  · by_cases q : a = p
    · subst q; exact n
    · rw [upd_ne q] at e; exact x.st a e
theorem Wk.wr0 (n : ¬ F p) : Wk F ι H F ι (upd H p o) :=
  ⟨fun _ h => h, fun b u f e => by rw [upd_ne (show b ≠ p from fun q => n (q ▸ f))]; exact e, ⟨[], by simp⟩⟩
theorem Rel.wr0 (R : Rel K F ι S H) (nF : ¬ F p) (nI : p ∉ ι) : Rel K F ι S (upd H p o) := by
  refine ⟨R.len, R.nd, R.dj, fun a f => upd_some (R.ft a f), fun m a ob h1 h2 => ?_⟩
  refine (R.cell m a ob h1 h2).wk (Wk.wr0 nF) ?_
  exact upd_ne fun e => nI (e ▸ List.mem_of_getElem? h1)
theorem Ext.adoptF {F' ι' H'} (x : Ext F ι H F' ι' H') (n : H p = none) : Ext F ι H (addF F' p) ι' H' :=
  ⟨⟨fun a h => .inr (x.fs a h), x.ag, x.pre⟩, x.keep, fun a h => by
    rcases h with rfl | h
    · exact .inr n
    · exact x.nf a h, x.ni, x.st⟩
theorem Wk.adoptF : Wk F ι H (addF F p) ι H := ⟨fun _ h => .inr h, .refl, ⟨[], by simp⟩⟩
theorem Rel.adoptF (R : Rel K F ι S H) (nI : p ∉ ι) (h : H p ≠ none) : Rel K (addF F p) ι S H := by
  refine ⟨R.len, R.nd, fun a hm f => ?_, fun a f => ?_, fun m a ob h1 h2 => (R.cell m a ob h1 h2).wk .adoptF rfl⟩
  · rcases f with rfl | f
    · exact nI hm
    · exact R.dj a hm f
  · rcases f with rfl | f
    · exact h
    · exact R.ft a f
theorem Ext.adoptC {F' ι' H'} (x : Ext F ι H F' ι' H') (n : H p = none) : Ext F ι H F' (ι' ++ [p]) H' := by
  refine ⟨⟨x.fs, x.ag, ?_⟩, x.keep, x.nf, fun a h => ?_, x.st⟩
  · obtain ⟨r, e⟩ := x.pre
    exact ⟨r ++ [p], by rw [e, List.append_assoc]⟩
  · rcases List.mem_append.mp h with h | h
    · exact x.ni a h
    · rw [List.mem_singleton] at h; subst h; exact .inr n
theorem Wk.adoptC : Wk F ι H F (ι ++ [p]) H := ⟨fun _ h => h, .refl, ⟨[p], rfl⟩⟩
/-- a new cell -/
theorem Ext.cell (n : H p = none) : Ext F ι H F (ι ++ [p]) (upd H p o) := by
  have k : ∀ a u, H a = some u → upd H p o a = some u := fun a u e => by rw [upd_ne (ne_of_none e n)]; exact e
  refine ⟨⟨fun a h => h, fun b u _ e => k b u e, ⟨[p], rfl⟩⟩, fun a u e _ => k a u e, fun a h => .inl h, fun a h => ?_, fun a e => ?_⟩
  · rcases List.mem_append.mp h with h | h
    · exact .inl h
    · rw [List.mem_singleton] at h; subst h; exact .inr n
  · cases q : H a with
    | none => rfl
    | some u => rw [k a u q] at e; cases e
theorem Rel.cellNew (R : Rel K F ι S H) (n : H p = none) {ob : Ob} (new : RO K F (ι ++ [p]) (upd H p o) p ob) : Rel K F (ι ++ [p]) (S ++ [ob]) (upd H p o) := by
  have hp : p ∉ ι := fun h => R.there h n
  have hF : ¬ F p := fun f => R.ft p f n
  refine ⟨by simp [R.len], ?_, fun a h f => ?_, fun a f => upd_some (R.ft a f), fun m a u h1 h2 => ?_⟩
  · rw [List.nodup_append]
    refine ⟨R.nd, by simp, fun a ha b hb => ?_⟩
    rw [List.mem_singleton] at hb; subst hb
    rintro rfl; exact hp ha
  · rcases List.mem_append.mp h with h | h
    · exact R.dj a h f
    · rw [List.mem_singleton] at h; subst h; exact hF f
  · by_cases hm : m < ι.length
    · rw [List.getElem?_append_left hm] at h1
      rw [List.getElem?_append_left (by rw [← R.len]; exact hm)] at h2
      refine (R.cell m a u h1 h2).wk (Ext.cell n).toWk ?_
      exact upd_ne fun e => (R.cell m a u h1 h2).some (e ▸ n)
    · have hl : m = ι.length := by
        have := (List.getElem?_eq_some_iff.mp h1).1
        simp at this; omega
      subst hl
      rw [R.len] at h2
      simp at h1 h2
      subst h1; subst h2
      exact new
theorem Rel.adoptC (R : Rel K F ι S H) (nF : ¬ F p) (nI : p ∉ ι) {ob : Ob} (new : RO K F (ι ++ [p]) H p ob) : Rel K F (ι ++ [p]) (S ++ [ob]) H := by
  refine ⟨by simp [R.len], ?_, fun a h f => ?_, R.ft, fun m a u h1 h2 => ?_⟩
  · rw [List.nodup_append]
    refine ⟨R.nd, by simp, fun a ha b hb => ?_⟩
    rw [List.mem_singleton] at hb; subst hb
    rintro rfl; exact nI ha
  · rcases List.mem_append.mp h with h | h
    · exact R.dj a h f
    · rw [List.mem_singleton] at h; subst h; exact nF f
  · by_cases hm : m < ι.length
    · rw [List.getElem?_append_left hm] at h1
      rw [List.getElem?_append_left (by rw [← R.len]; exact hm)] at h2
      exact (R.cell m a u h1 h2).wk .adoptC rfl
    · have hl : m = ι.length := by
        have := (List.getElem?_eq_some_iff.mp h1).1
        simp at this; omega
      subst hl
      rw [R.len] at h2
      simp at h1 h2
      subst h1; subst h2
      exact new
/-- a cell is written -/
theorem Ext.wr (R : Rel K F ι S H) (hp : p ∈ ι) : Ext F ι H F ι (upd H p o) := by
  refine ⟨⟨fun a h => h, fun b u f e => ?_, ⟨[], by simp⟩⟩, fun a u e n => ?_, fun a h => .inl h, fun a h => .inl h, fun a e => ?_⟩
  · rw [upd_ne (show b ≠ p from fun q => R.dj p hp (by rw [← q]; exact f))]; exact e
  · rw [upd_ne (show a ≠ p from fun q => n (by rw [q]; exact hp))]; exact e
  · by_cases q : a = p
    · subst q; rw [upd_same] at e; cases e
    · rw [upd_ne q] at e; exact e
theorem Rel.wr (R : Rel K F ι S H) {n : Nat} (hp : ι[n]? = some p) {ob : Ob} (new : RO K F ι (upd H p o) p ob) : Rel K F ι (S.set n ob) (upd H p o) := by
  have hm : p ∈ ι := List.mem_of_getElem? hp
  refine ⟨by simp [R.len], R.nd, R.dj, fun a f => upd_some (R.ft a f), fun m a u h1 h2 => ?_⟩
  by_cases q : m = n
  · subst q
    rw [hp] at h1; cases h1
    rw [List.getElem?_set] at h2
    simp only [if_true] at h2
    split at h2
    · cases h2; exact new
    · cases h2
  · rw [List.getElem?_set_ne (Ne.symm q)] at h2
    refine (R.cell m a u h1 h2).wk (Ext.wr R hm).toWk ?_
    refine upd_ne fun e => ?_
    subst e
    obtain ⟨i1, e1⟩ := List.getElem?_eq_some_iff.mp h1
    obtain ⟨i2, e2⟩ := List.getElem?_eq_some_iff.mp hp
    exact q ((List.getElem_inj R.nd).mp (e1.trans e2.symm))
end
end Sh
end

section
namespace Sh
open PySem PySem.Spec PyProof.Rows L2

/-! ### what is wanted behind a plain run -/
def ER (K : PySem.W.Frag) (F : FS) (ι : List Addr) (H : Hp) (e : Exn) (dx : Option Addr) : Prop := match e.fld with
  | none => dx = none
  | some (f, w) => ∃ x v, dx = some x ∧ H x = some (.xd [(f, v)]) ∧ RW K F ι H w v
/-- what is wanted of an exception, by its class's name -/
abbrev XN := Str → Option Addr → Hp → Prop
section
variable {K : PySem.W.Frag} {E : XN} {F F1 : FS} {ι ι1 : List Addr} {H H1 : Hp} {α β : Type}
def Post (K : PySem.W.Frag) (E : XN) (F : FS) (ι : List Addr) (H : Hp) (o : Out α) (P : FS → List Addr → Hp → α → Sto → Prop) : Prop := match o with
  | .ok a S' => ∀ F' ι' H', Ext F ι H F' ι' H' → Rel K F' ι' S' H' → P F' ι' H' a S'
  | .exc e S' => ∀ F' ι' H' dx, Ext F ι H F' ι' H' → Rel K F' ι' S' H' → ER K F' ι' H' e dx → E e.cls dx H'
  | .bad => False
theorem Post.ext {o : Out α} {P} (h : Post K E F ι H o P) (x : Ext F ι H F1 ι1 H1) : Post K E F1 ι1 H1 o P := by
  cases o with
  | ok a S => exact fun F' ι' H' y => h F' ι' H' (x.trans y)
  | exc e S => exact fun F' ι' H' dx y => h F' ι' H' dx (x.trans y)
  | bad => exact h
theorem Post.imp {o : Out α} {P P' : FS → List Addr → Hp → α → Sto → Prop} (h : Post K E F ι H o P) (k : ∀ F' ι' H' a S', Ext F ι H F' ι' H' → Rel K F' ι' S' H' → P F' ι' H' a S' → P' F' ι' H' a S') : Post K E F ι H o P' := by
  cases o with
  | ok a S => exact fun F' ι' H' x R => k _ _ _ _ _ x R (h F' ι' H' x R)
  | exc e S => exact h
  | bad => exact h
theorem Post.wish {E' : XN} {o : Out α} {P} (h : Post K E F ι H o P) (k : ∀ n d H, E n d H → E' n d H) : Post K E' F ι H o P := by
  cases o with
  | ok a S => exact h
  | exc e S => exact fun F' ι' H' dx x R er => k _ _ _ (h F' ι' H' dx x R er)
  | bad => exact h
theorem Post.bind {o : Out α} {f : α → Sto → Out β} {P} (h : Post K E F ι H (o.bind f) P) : Post K E F ι H o (fun F' ι' H' a S' => Post K E F' ι' H' (f a S') P) := by
  cases o with
  | ok a S => exact fun F' ι' H' x R => Post.ext (o := f a S) h x
  | exc e S => exact h
  | bad => exact h
theorem Post.ok {a : α} {S : Sto} {P} (h : Post K E F ι H (.ok a S) P) (R : Rel K F ι S H) : P F ι H a S := h F ι H .refl R
theorem Post.ofO {o : Option α} {S : Sto} {P} (h : Post K E F ι H (Out.ofO S o) P) : ∃ a, o = some a ∧ Post K E F ι H (.ok a S) P := by
  cases o with
  | none => exact h.elim
  | some a => exact ⟨a, rfl, h⟩
end

def RS (K : PySem.W.Frag) (F : FS) (ι : List Addr) (H : Hp) (ρ : Rho) (σ : L2.St) : Prop := ρ.length = σ.length ∧ ∀ (i : Nat) (w : W), ρ[i]? = some (some w) → ∃ v, σ[i]? = some (some v) ∧ RW K F ι H w v
section
variable {K : PySem.W.Frag} {F F' : FS} {ι ι' : List Addr} {H H' : Hp} {ρ : Rho} {σ : L2.St}
theorem RS.wk (h : RS K F ι H ρ σ) (x : Wk F ι H F' ι' H') : RS K F' ι' H' ρ σ := ⟨h.1, fun i w e => let ⟨v, a, b⟩ := h.2 i w e; ⟨v, a, b.wk x⟩⟩
theorem RS.ext (h : RS K F ι H ρ σ) (x : Ext F ι H F' ι' H') : RS K F' ι' H' ρ σ := h.wk x.toWk
theorem RS.set (h : RS K F ι H ρ σ) {w : W} {v : V} (r : RW K F ι H w v) (i : Nat) : RS K F ι H (ρ.set i (some w)) (σ.set i (some v)) := by
  refine ⟨by simp [h.1], fun j u e => ?_⟩
  by_cases q : i = j
  · subst q
    rw [List.getElem?_set] at e
    simp only [if_true] at e
    split at e
    · rename_i hl
      cases e
      exact ⟨v, by rw [List.getElem?_set_self (by rw [← h.1]; exact hl)], r⟩
    · cases e
  · rw [List.getElem?_set_ne q] at e
    rw [List.getElem?_set_ne q]
    exact h.2 j u e
theorem RS.unset (h : RS K F ι H ρ σ) (i : Nat) : RS K F ι H (ρ.set i none) (σ.set i none) := by
  refine ⟨by simp [h.1], fun j u e => ?_⟩
  by_cases q : i = j
  · subst q
    rw [List.getElem?_set] at e
    simp only [if_true] at e
    split at e <;> cases e
  · rw [List.getElem?_set_ne q] at e
    rw [List.getElem?_set_ne q]
    exact h.2 j u e
end

/-! ### readings that come of plain functions -/
abbrev EX := L2.St → XN
section
variable (K : PySem.W.Frag) (E : EX)
abbrev PV (F' : FS) (ι' : List Addr) (H' : Hp) (w : W) (Q : VK) : Prop := ∀ v, RW K F' ι' H' w v → Q v H'
def tE (m : EM) : TE := fun σ H Q => ∃ F ι S ρ, Rel K F ι S H ∧ RS K F ι H ρ σ ∧ Post K (E σ) F ι H (m ρ S) fun F' ι' H' w _ => ∀ v, RW K F' ι' H' w v → Q v H'
def tB (m : BM) : TT := fun σ H Q => ∃ F ι S ρ, Rel K F ι S H ∧ RS K F ι H ρ σ ∧ Post K (E σ) F ι H (m ρ S) fun F' ι' H' b _ => Q b H'
def tA (m : AM) : TA := fun σ H Q => ∃ F ι S ρ, Rel K F ι S H ∧ RS K F ι H ρ σ ∧ Post K (E σ) F ι H (m ρ S) fun F' ι' H' ws _ => ∀ vs, RWs K F' ι' H' ws vs → Q vs H'
def PFl (Dn : Ends) (F' : FS) (ι' : List Addr) (H' : Hp) : Fl → Prop
  | .nx ρ' => ∀ σ', RS K F' ι' H' ρ' σ' → Dn.nx σ' H'
  | .bk ρ' => ∀ σ', RS K F' ι' H' ρ' σ' → Dn.bk σ' H'
  | .ct ρ' => ∀ σ', RS K F' ι' H' ρ' σ' → Dn.ct σ' H'
  | .rt w => ∀ v, RW K F' ι' H' w v → Dn.rt v H'
  | .ex e ρ' => ∀ σ' dx, RS K F' ι' H' ρ' σ' → ER K F' ι' H' e dx → E σ' e.cls dx H'
def tS (m : SM) : TS := fun Dn σ H => ∃ F ι S ρ, Rel K F ι S H ∧ RS K F ι H ρ σ ∧ Post K (fun _ _ _ => False) F ι H (m ρ S) fun F' ι' H' fl _ => PFl K E Dn F' ι' H' fl
end
def SE (X : Cx) (E : EX) (e : Expr) (m : EM) : Prop := PE X e (tE X.K E m)
def SB (X : Cx) (E : EX) (e : Expr) (m : BM) : Prop := PT X e (tB X.K E m)
def SW (X : Cx) (E : EX) (e : Expr) (m : BM) : Prop := PW X e (tB X.K E m)
def SA (X : Cx) (E : EX) (es : List Expr) (m : AM) : Prop := PA X es (tA X.K E m)
def SS (X : Cx) (E : EX) (st : Stmt) (m : SM) : Prop := PS X st (tS X.K E m)
def SSs (X : Cx) (E : EX) (st : List Stmt) (m : SM) : Prop := PSs X st (tS X.K E m)
section
variable {X : Cx}
theorem PE.le {e : Expr} {t t' : TE} (h : PE X e t) (k : ∀ σ H Q, t' σ H Q → t σ H Q) : PE X e t' := ⟨fun pins s σ H Q I q => h.run pins s σ H Q I (k σ H Q q)⟩
theorem PT.le {e : Expr} {t t' : TT} (h : PT X e t) (k : ∀ σ H Q, t' σ H Q → t σ H Q) : PT X e t' := ⟨fun pins s σ H Q I q => h.run pins s σ H Q I (k σ H Q q)⟩
theorem PW.le {e : Expr} {t t' : TT} (h : PW X e t) (k : ∀ σ H Q, t' σ H Q → t σ H Q) : PW X e t' := ⟨fun wh pins s σ H Q I q => h.run wh pins s σ H Q I (k σ H Q q)⟩
theorem PA.le {e : List Expr} {t t' : TA} (h : PA X e t) (k : ∀ σ H Q, t' σ H Q → t σ H Q) : PA X e t' := ⟨fun pos pins s σ H Q I q => h.run pos pins s σ H Q I (k σ H Q q)⟩
theorem PS.le {e : Stmt} {t t' : TS} (h : PS X e t) (k : ∀ D σ H, t' D σ H → t D σ H) : PS X e t' := ⟨fun pins s σ H D I q => h.run pins s σ H D I (k D σ H q)⟩
theorem PSs.le {e : List Stmt} {t t' : TS} (h : PSs X e t) (k : ∀ D σ H, t' D σ H → t D σ H) : PSs X e t' := ⟨fun pins s σ H D I q => h.run pins s σ H D I (k D σ H q)⟩
end

/-! ### names, constants -/
def eVar (i : Nat) : EM := fun ρ S => match ρ[i]? with
  | some (some w) => .ok w S
  | _ => .bad
def eK (w : W) : EM := fun _ S => .ok w S
abbrev eInt (i : Int) : EM := eK (.d (.int i))
abbrev eStr (x : Str) : EM := eK (.d (.str x))
abbrev eBl (b : Bool) : EM := eK (.d (.bool b))
abbrev eNon : EM := eK (.d .none)
section
variable {X : Cx} {E : EX} {pos : Pos}
theorem s_var (i : Nat) {x : Str} (hN : X.N[i]? = some x := by rfl) (hv : Vis X.env.scope x := by first | exact Or.inl rfl | exact Or.inr (Or.inl rfl) | exact Or.inr (Or.inr rfl)) (hd : (x == ("__debug__" : Str)) = false := by decide)
    (hcd : (x == ("__classdict__" : Str)) = false := by decide) : SE X E (.Name x pos) (eVar i) := by
  refine PE.le (pe_var hN hv hd hcd) fun σ H Q h => ?_
  obtain ⟨F, ι, S, ρ, R, rs, h⟩ := h
  unfold eVar at h
  split at h
  · rename_i w e
    obtain ⟨v, e1, r⟩ := rs.2 i w e
    exact ⟨v, e1, h.ok R v r⟩
  · exact h.elim
theorem s_k {e : Expr} {v : V} {w : W} (h : PE X e (tC v)) (r : ∀ F ι H u, RW X.K F ι H w u → True) (rv : ∀ F ι H, RW X.K F ι H w v) : SE X E e (eK w) := by
  refine PE.le h fun σ H Q h => ?_
  obtain ⟨F, ι, S, ρ, R, rs, h⟩ := h
  exact h.ok R v (rv F ι H)
theorem s_int {i : Int} {j} : SE X E (.Constant (.int i) j pos) (eInt i) := s_k pe_int (fun _ _ _ _ _ => trivial) fun _ _ _ => .d (.int i)
theorem s_bl {i : Bool} {j} : SE X E (.Constant (.bool i) j pos) (eBl i) := s_k pe_bl (fun _ _ _ _ _ => trivial) fun _ _ _ => .d (.bl i)
theorem s_non {j} : SE X E (.Constant .none j pos) eNon := s_k pe_non (fun _ _ _ _ _ => trivial) fun _ _ _ => .d .non
theorem s_str {x : Str} {j} : SE X E (.Constant (.str x) j pos) (eStr x) := s_k pe_str (fun _ _ _ _ _ => trivial) fun _ _ _ => .d (.str x)
/-- a constant of the module -/
theorem s_glob {x : Str} {v : V} {u : Value} {w : W} (hg : Gl X x) (hm : X.mg x = some u) (r : RelV v u) (rv : ∀ F ι H, RW X.K F ι H w v) (hd : (x == ("__debug__" : Str)) = false := by decide) : SE X E (.Name x pos) (eK w) :=
  s_k (pe_glob hg hm r hd) (fun _ _ _ _ _ => trivial) rv
end

/-! ### arguments -/
def aNil : AM := fun _ S => .ok [] S
def aCons (m : EM) (ms : AM) : AM := fun ρ S => (m ρ S).bind fun w S1 => (ms ρ S1).bind fun ws S2 => .ok (w :: ws) S2
section
variable {X : Cx} {E : EX} {pos : Pos} {e : Expr} {es : List Expr} {m : EM} {ms : AM}
theorem sa_nil : SA X E [] aNil := PA.le pa_nil fun σ H Q h => by
  obtain ⟨F, ι, S, ρ, R, rs, h⟩ := h
  exact h.ok R [] .nil
theorem sa_cons (h1 : SE X E e m) (h2 : SA X E es ms) (hs : starEach (e :: es) X.env = (false, eval e X.env) :: starEach es X.env := by rfl) : SA X E (e :: es) (aCons m ms) := by
  refine PA.le (pa_cons h1 h2 hs) fun σ H Q h => ?_
  obtain ⟨F, ι, S, ρ, R, rs, h⟩ := h
  refine ⟨F, ι, S, ρ, R, rs, h.bind.imp fun F1 ι1 H1 w S1 x1 R1 h v r => ?_⟩
  refine ⟨F1, ι1, S1, ρ, R1, rs.ext x1, h.bind.imp fun F2 ι2 H2 ws S2 x2 R2 h vs rvs => ?_⟩
  exact h.ok R2 (v :: vs) (.cons (r.ext x2) rvs)
end

/-! ### operators by values -/
abbrev Op1 := W → Sto → Out W
abbrev Op2 := W → W → Sto → Out W
/-- a reading's rule serves a plain operation -/
def Ok2 (X : Cx) (r : R2) (f : Op2) : Prop := ∀ E F ι S H x y v u Q, Rel X.K F ι S H → RW X.K F ι H x v → RW X.K F ι H y u → Post X.K E F ι H (f x y S) (fun F' ι' H' w _ => ∀ z, RW X.K F' ι' H' w z → Q z H') → r v u H Q
def eOp2 (f : Op2) (ma mb : EM) : EM := fun ρ S => (ma ρ S).bind fun x S1 => (mb ρ S1).bind fun y S2 => f x y S2
def eOp1 (f : Op1) (ma : EM) : EM := fun ρ S => (ma ρ S).bind fun x S1 => f x S1
section
variable {X : Cx} {E : EX} {pos : Pos} {a b e : Expr} {ma mb m : EM} {f : Op2} {r : R2}
theorem op2_le (hr : Ok2 X r f) {σ : L2.St} {H : Hp} {Q : VK} (h : tE X.K E (eOp2 f ma mb) σ H Q) : tOp r (tE X.K E ma) (tE X.K E mb) σ H Q := by
  obtain ⟨F, ι, S, ρ, R, rs, h⟩ := h
  refine ⟨F, ι, S, ρ, R, rs, h.bind.imp fun F1 ι1 H1 x S1 x1 R1 h v rv => ?_⟩
  refine ⟨F1, ι1, S1, ρ, R1, rs.ext x1, h.bind.imp fun F2 ι2 H2 y S2 x2 R2 h u ru => ?_⟩
  exact hr (E σ) F2 ι2 S2 H2 x y v u Q R2 (rv.ext x2) ru h
theorem s_bin {op : Operator} (ho : OpR X (binaryOp op) r) (hr : Ok2 X r f) (ha : SE X E a ma) (hb : SE X E b mb) : SE X E (.BinOp a op b pos) (eOp2 f ma mb) :=
  PE.le (pe_op ho ha hb) fun σ H Q h => op2_le hr h
theorem s_cmp {op : CmpOp} (ho : OpR X (compareOp op) r) (hr : Ok2 X r f) (ha : SE X E a ma) (hb : SE X E b mb) (hm : behindInMarks op b = false := by first | exact nomark _ | rfl) : SE X E (.Compare a [op] [b] pos) (eOp2 f ma mb) :=
  PE.le (pe_cmpR ho ha hb hm) fun σ H Q h => op2_le hr h
/-- a < b <= c -/
def eChain (f g : Op2) (ma mb mc : EM) : EM := fun ρ S => (ma ρ S).bind fun x S1 => (mb ρ S1).bind fun y S2 => (f x y S2).bind fun z S3 => match z with
  | .d (.bool true) => (mc ρ S3).bind fun u S4 => g y u S4
  | .d (.bool false) => .ok (.d (.bool false)) S3
  | _ => .bad
end

/-! ### tests -/
def bOf (m : EM) : BM := fun ρ S => (m ρ S).bind fun w S1 => match w with
  | .d (.bool b) => .ok b S1
  | _ => .bad
def bNot (m : BM) : BM := fun ρ S => (m ρ S).bind fun b S1 => .ok (!b) S1
def bAnd (m n : BM) : BM := fun ρ S => (m ρ S).bind fun b S1 => if b = true then n ρ S1 else .ok false S1
def bOr (m n : BM) : BM := fun ρ S => (m ρ S).bind fun b S1 => if b = true then .ok true S1 else n ρ S1
def eAnd (m n : EM) : EM := fun ρ S => (m ρ S).bind fun w S1 => match w with
  | .d (.bool true) => n ρ S1
  | .d (.bool false) => .ok (.d (.bool false)) S1
  | _ => .bad
def eOr (m n : EM) : EM := fun ρ S => (m ρ S).bind fun w S1 => match w with
  | .d (.bool false) => n ρ S1
  | .d (.bool true) => .ok (.d (.bool true)) S1
  | _ => .bad
def eNot (m : EM) : EM := fun ρ S => (m ρ S).bind fun w S1 => match w with
  | .d (.bool b) => .ok (.d (.bool (!b))) S1
  | _ => .bad
def eIf (c : BM) (m n : EM) : EM := fun ρ S => (c ρ S).bind fun b S1 => if b = true then m ρ S1 else n ρ S1
section
variable {X : Cx} {E : EX} {pos : Pos} {a b c e : Expr} {rest : List Expr} {m n : EM} {p q : BM}
theorem RW.bl_of {K F ι H b v} (h : RW K F ι H (.d (.bool b)) v) : v = .bl b := by cases h with | d h => cases h; rfl
theorem sb_val (h : SE X E e m) (he : ∀ whole, isTrue e X.env whole = (do let v ← whole; standAt e.pos; holding [v] (truthy v)) := by intro _; rfl) : SB X E e (bOf m) := by
  refine PT.le (pt_val h he) fun σ H Q h => ?_
  obtain ⟨F, ι, S, ρ, R, rs, h⟩ := h
  refine ⟨F, ι, S, ρ, R, rs, h.bind.imp fun F1 ι1 H1 w S1 x1 R1 h v r => ?_⟩
  split at h
  · exact ⟨_, r.bl_of, h.ok R1⟩
  · exact h.elim
theorem sb_not (h : SB X E e p) : SB X E (.UnaryOp .Not e pos) (bNot p) := by
  refine PT.le (pt_not h) fun σ H Q h => ?_
  obtain ⟨F, ι, S, ρ, R, rs, h⟩ := h
  exact ⟨F, ι, S, ρ, R, rs, h.bind.imp fun F1 ι1 H1 w S1 x1 R1 h => h.ok R1⟩
theorem sw_and1 (h : SB X E e p) : SW X E (.BoolOp .And [e] pos) p := pw_and1 h
theorem sw_or1 (h : SB X E e p) : SW X E (.BoolOp .Or [e] pos) p := pw_or1 h
theorem sw_and (h : SB X E a p) (h2 : SW X E (.BoolOp .And (b :: rest) pos) q) : SW X E (.BoolOp .And (a :: b :: rest) pos) (bAnd p q) := by
  refine PW.le (pw_and h h2) fun σ H Q h => ?_
  obtain ⟨F, ι, S, ρ, R, rs, h⟩ := h
  refine ⟨F, ι, S, ρ, R, rs, h.bind.imp fun F1 ι1 H1 w S1 x1 R1 h => ?_⟩
  cases w with
  | true => exact ⟨F1, ι1, S1, ρ, R1, rs.ext x1, h⟩
  | false => exact h.ok R1
theorem sw_or (h : SB X E a p) (h2 : SW X E (.BoolOp .Or (b :: rest) pos) q) : SW X E (.BoolOp .Or (a :: b :: rest) pos) (bOr p q) := by
  refine PW.le (pw_or h h2) fun σ H Q h => ?_
  obtain ⟨F, ι, S, ρ, R, rs, h⟩ := h
  refine ⟨F, ι, S, ρ, R, rs, h.bind.imp fun F1 ι1 H1 w S1 x1 R1 h => ?_⟩
  cases w with
  | false => exact ⟨F1, ι1, S1, ρ, R1, rs.ext x1, h⟩
  | true => exact h.ok R1
theorem sb_w (h : SW X E e p) : SB X E e p := PW.pt h
theorem s_one {op} (h : SE X E e m) : SE X E (.BoolOp op [e] pos) m := pe_one h
theorem s_and (h : SE X E a m) (h2 : SE X E (.BoolOp .And (b :: rest) pos) n) : SE X E (.BoolOp .And (a :: b :: rest) pos) (eAnd m n) := by
  refine PE.le (pe_and h h2) fun σ H Q h => ?_
  obtain ⟨F, ι, S, ρ, R, rs, h⟩ := h
  refine ⟨F, ι, S, ρ, R, rs, h.bind.imp fun F1 ι1 H1 w S1 x1 R1 h v r => ?_⟩
  split at h
  · exact ⟨_, r.bl_of, ⟨F1, ι1, S1, ρ, R1, rs.ext x1, h⟩⟩
  · exact ⟨_, r.bl_of, h.ok R1 _ (.d (.bl false))⟩
  · exact h.elim
theorem s_or (h : SE X E a m) (h2 : SE X E (.BoolOp .Or (b :: rest) pos) n) : SE X E (.BoolOp .Or (a :: b :: rest) pos) (eOr m n) := by
  refine PE.le (pe_or h h2) fun σ H Q h => ?_
  obtain ⟨F, ι, S, ρ, R, rs, h⟩ := h
  refine ⟨F, ι, S, ρ, R, rs, h.bind.imp fun F1 ι1 H1 w S1 x1 R1 h v r => ?_⟩
  split at h
  · exact ⟨_, r.bl_of, ⟨F1, ι1, S1, ρ, R1, rs.ext x1, h⟩⟩
  · exact ⟨_, r.bl_of, h.ok R1 _ (.d (.bl true))⟩
  · exact h.elim
theorem s_not (h : SE X E e m) : SE X E (.UnaryOp .Not e pos) (eNot m) := by
  refine PE.le (pe_not h) fun σ H Q h => ?_
  obtain ⟨F, ι, S, ρ, R, rs, h⟩ := h
  refine ⟨F, ι, S, ρ, R, rs, h.bind.imp fun F1 ι1 H1 w S1 x1 R1 h v r => ?_⟩
  split at h
  · exact ⟨_, r.bl_of, h.ok R1 _ (.d (.bl _))⟩
  · exact h.elim
theorem s_if (h : SB X E c p) (h1 : SE X E a m) (h2 : SE X E b n) : SE X E (.IfExp c a b pos) (eIf p m n) := by
  refine PE.le (pe_ifExp h h1 h2) fun σ H Q h => ?_
  obtain ⟨F, ι, S, ρ, R, rs, h⟩ := h
  refine ⟨F, ι, S, ρ, R, rs, h.bind.imp fun F1 ι1 H1 w S1 x1 R1 h => ?_⟩
  cases w with
  | true => exact ⟨F1, ι1, S1, ρ, R1, rs.ext x1, h⟩
  | false => exact ⟨F1, ι1, S1, ρ, R1, rs.ext x1, h⟩
end

section
variable {X : Cx} {E : EX} {pos : Pos} {a b c : Expr} {ma mb mc : EM} {f g : Op2} {r r' : R2}
theorem s_chain {op op' : CmpOp} (ho : OpR X (compareOp op) r) (ho' : OpR X (compareOp op') r') (hr : Ok2 X r f) (hr' : Ok2 X r' g) (ha : SE X E a ma) (hb : SE X E b mb) (hc : SE X E c mc)
    (hm : lastMarks [op, op'] [b, c] = false := by with_unfolding_all rfl) : SE X E (.Compare a [op, op'] [b, c] pos) (eChain f g ma mb mc) := by
  refine PE.le (pe_chain ho ho' ha hb hc hm) fun σ H Q h => ?_
  obtain ⟨F, ι, S, ρ, R, rs, h⟩ := h
  refine ⟨F, ι, S, ρ, R, rs, h.bind.imp fun F1 ι1 H1 x S1 x1 R1 h v rv => ?_⟩
  refine ⟨F1, ι1, S1, ρ, R1, rs.ext x1, h.bind.imp fun F2 ι2 H2 y S2 x2 R2 h u ru => ?_⟩
  refine hr (E σ) F2 ι2 S2 H2 x y v u _ R2 (rv.ext x2) ru (h.bind.imp fun F3 ι3 H3 z S3 x3 R3 h k rk => ?_)
  split at h
  · exact ⟨true, rk.bl_of, iteT ⟨F3, ι3, S3, ρ, R3, (rs.ext x1 |>.ext x2).ext x3, h.bind.imp fun F4 ι4 H4 t S4 x4 R4 h q rq => hr' (E σ) F4 ι4 S4 H4 y t u q Q R4 ((ru.ext x3).ext x4) rq h⟩⟩
  · exact ⟨false, rk.bl_of, iteF (h.ok R3 _ (.d (.bl false)))⟩
  · exact h.elim
end

/-! ### displays -/
/-- all plain -/
def unD : List W → Option (List PyData)
  | [] => some []
  | .d x :: r => (unD r).map (x :: ·)
  | _ :: _ => none
theorem unD_eq : ∀ {ws : List W} {xs : List PyData}, unD ws = some xs → ws = xs.map .d
  | [], xs, h => by cases h; rfl
  | .d x :: r, xs, h => by
    unfold unD at h
    cases q : unD r with
    | none => rw [q] at h; cases h
    | some ys => rw [q] at h; cases h; rw [unD_eq q]; rfl
  | .ref _ :: _, _, h => by cases h
  | .cst _ :: _, _, h => by cases h
  | .tup _ :: _, _, h => by cases h
  | .fl _ :: _, _, h => by cases h
@[simp] theorem unD_map (xs : List PyData) : unD (xs.map .d) = some xs := by
  induction xs with
  | nil => rfl
  | cons x r ih => simp [unD, ih]
def mkTup (ws : List W) : W := match unD ws with
  | some xs => .d (.tuple xs)
  | none => .tup ws
def eTup (m : AM) : EM := fun ρ S => (m ρ S).bind fun ws S1 => if ws.length ≤ sizeLine then .ok (mkTup ws) S1 else .bad
/-- a list that is never changed -/
def eLst (m : AM) : EM := fun ρ S => (m ρ S).bind fun ws S1 => if ws.length ≤ sizeLine then .ofO S1 ((unD ws).map fun xs => .d (.list xs)) else .bad
/-- a new cell -/
def newCell (ws : List W) (S : Sto) : Out W := if ws.length ≤ sizeLine then .ok (.ref S.length) (S ++ [.lst ws]) else .bad
def eLstM (m : AM) : EM := fun ρ S => (m ρ S).bind fun ws S1 => newCell ws S1
section
variable {X : Cx} {E : EX} {pos : Pos} {es : List Expr} {ms : AM} {K : PySem.W.Frag} {F : FS} {ι : List Addr} {S : Sto} {H : Hp}
theorem RW.mkTup {a : Addr} {ws : List W} {vs : List V} (st : StT K F H a vs) (r : RWs K F ι H ws vs) : RW K F ι H (mkTup ws) (.ref a) := by
  unfold Sh.mkTup
  split
  · rename_i xs e
    rw [unD_eq e] at r
    exact .d (.tup st r.toD)
  · exact .tup st r
theorem s_tup {x1} (h : SA X E es ms) : SE X E (.Tuple es x1 pos) (eTup ms) := by
  refine PE.le (pe_tup h) fun σ H Q h => ?_
  obtain ⟨F, ι, S, ρ, R, rs, h⟩ := h
  refine ⟨F, ι, S, ρ, R, rs, h.bind.imp fun F1 ι1 H1 ws S1 x1 R1 h vs r => ?_⟩
  split at h
  · rename_i hz
    refine ⟨by rw [← r.length]; exact hz, fun p n => ?_⟩
    have x := Ext.frz (F := F1) (ι := ι1) (o := .tup vs) n
    exact h _ _ _ x (R1.frz n) _ (RW.mkTup (.mk' (by rw [← r.length]; exact hz) (.inl rfl) upd_same) (r.ext x))
  · exact h.elim
theorem s_lst (h : SA X E es ms) : SE X E (.List es pos) (eLst ms) := by
  refine PE.le (pe_lst h) fun σ H Q h => ?_
  obtain ⟨F, ι, S, ρ, R, rs, h⟩ := h
  refine ⟨F, ι, S, ρ, R, rs, h.bind.imp fun F1 ι1 H1 ws S1 x1 R1 h vs r => ?_⟩
  split at h
  · rename_i hz
    refine ⟨by rw [← r.length]; exact hz, fun p n => ?_⟩
    have x := Ext.frz (F := F1) (ι := ι1) (o := .lst vs) n
    obtain ⟨w, e, h⟩ := h.ofO
    cases q : unD ws with
    | none => rw [q] at e; cases e
    | some xs =>
      rw [q] at e; cases e
      have r' := r.ext x
      rw [unD_eq q] at r'
      exact h _ _ _ x (R1.frz n) _ (.d (.lst (.mk' (by rw [← r.length]; exact hz) (.inl rfl) upd_same) r'.toD))
  · exact h.elim
theorem cell_new (R : Rel K F ι S H) {p : Addr} {ws : List W} {vs : List V} (n : H p = none) (r : RWs K F ι H ws vs) (hz : ws.length ≤ sizeLine) :
    Ext F ι H F (ι ++ [p]) (upd H p (.lst vs)) ∧ Rel K F (ι ++ [p]) (S ++ [.lst ws]) (upd H p (.lst vs)) ∧ RW K F (ι ++ [p]) (upd H p (.lst vs)) (.ref S.length) (.ref p) := by
  have x := Ext.cell (F := F) (ι := ι) (o := .lst vs) n
  refine ⟨x, R.cellNew n ⟨vs, upd_same, r.ext x, hz⟩, .ref ?_⟩
  rw [← R.len]; simp
theorem s_lstM (h : SA X E es ms) : SE X E (.List es pos) (eLstM ms) := by
  refine PE.le (pe_lst h) fun σ H Q h => ?_
  obtain ⟨F, ι, S, ρ, R, rs, h⟩ := h
  refine ⟨F, ι, S, ρ, R, rs, h.bind.imp fun F1 ι1 H1 ws S1 x1 R1 h vs r => ?_⟩
  unfold newCell at h
  split at h
  · rename_i hz
    refine ⟨by rw [← r.length]; exact hz, fun p n => ?_⟩
    obtain ⟨x, R2, r2⟩ := cell_new R1 n r hz
    exact h _ _ _ x R2 _ r2
  · exact h.elim
end
end Sh
end

section
namespace Sh
open PySem PySem.Spec PyProof.Rows L2

abbrev E0x : EX := fun _ _ _ _ => False
/-- what the context takes -/
structure Tk (X : Cx) (E : EX) (W : WX) : Prop where
  tk : Takes X W
  lk : ∀ n C d σ H, X.mg n = some (.ref C) → E σ n d H → W (.ref C) d σ H
theorem tk0 {X : Cx} : Tk X E0x (fun _ _ _ _ => False) := ⟨takes0, fun _ _ _ _ _ _ h => h⟩

/-! ### statements -/
/-- an expression's end within a statement -/
@[reducible] def exq {α : Type} (ρ : Rho) (o : Out α) (k : α → Sto → Out Fl) : Out Fl := match o with
  | .ok a S => k a S
  | .exc e S => .ok (.ex e ρ) S
  | .bad => .bad
def cNop : SM := fun ρ S => .ok (.nx ρ) S
def cBreak : SM := fun ρ S => .ok (.bk ρ) S
def cCont : SM := fun ρ S => .ok (.ct ρ) S
def cSeq (a b : SM) : SM := fun ρ S => (a ρ S).bind fun fl S1 => match fl with
  | .nx ρ1 => b ρ1 S1
  | o => .ok o S1
def cExpr (m : EM) : SM := fun ρ S => exq ρ (m ρ S) fun _ S1 => .ok (.nx ρ) S1
def cSet (i : Nat) (m : EM) : SM := fun ρ S => exq ρ (m ρ S) fun w S1 => .ok (.nx (ρ.set i (some w))) S1
def cRet (m : EM) : SM := fun ρ S => exq ρ (m ρ S) fun w S1 => .ok (.rt w) S1
def cRetN : SM := fun ρ S => .ok (.rt (.d .none)) S
def cIf (c : BM) (a b : SM) : SM := fun ρ S => exq ρ (c ρ S) fun t S1 => if t = true then a ρ S1 else b ρ S1
section
variable {K : PySem.W.Frag} {E : EX} {F : FS} {ι : List Addr} {H : Hp} {α : Type} {ρ : Rho} {σ : L2.St} {Dn : Ends}
abbrev XF : XN := fun _ _ _ => False
theorem Post.exq {o : Out α} {k : α → Sto → Out Fl} (rs : RS K F ι H ρ σ) (h : Post K XF F ι H (Sh.exq ρ o k) (fun F' ι' H' fl _ => PFl K E Dn F' ι' H' fl)) :
    Post K (E σ) F ι H o (fun F' ι' H' a S' => Post K XF F' ι' H' (k a S') (fun F' ι' H' fl _ => PFl K E Dn F' ι' H' fl)) := by
  cases o with
  | ok a S => exact fun F' ι' H' x R => Post.ext (o := k a S) h x
  | exc e S => exact fun F' ι' H' dx x R er => h F' ι' H' x R σ dx (rs.ext x) er
  | bad => exact h
end
section
variable {X : Cx} {E : EX} {pos : Pos} {e : Expr} {m : EM} {st : Stmt} {rest : List Stmt} {a b : SM} {c : Expr} {p : BM}
theorem sm_nil : SSs X E [] cNop := PSs.le pss_nil fun D σ H h => by
  obtain ⟨F, ι, S, ρ, R, rs, h⟩ := h
  exact h.ok R σ rs
theorem sm_pass : SS X E (.Pass pos) cNop := PS.le ps_pass fun D σ H h => by
  obtain ⟨F, ι, S, ρ, R, rs, h⟩ := h
  exact h.ok R σ rs
theorem sm_break : SS X E (.Break pos) cBreak := PS.le ps_break fun D σ H h => by
  obtain ⟨F, ι, S, ρ, R, rs, h⟩ := h
  exact h.ok R σ rs
theorem sm_cont : SS X E (.Continue pos) cCont := PS.le ps_continue fun D σ H h => by
  obtain ⟨F, ι, S, ρ, R, rs, h⟩ := h
  exact h.ok R σ rs
theorem sm_cons (h1 : SS X E st a) (h2 : SSs X E rest b) : SSs X E (st :: rest) (cSeq a b) := by
  refine PSs.le (pss_cons h1 h2) fun D σ H h => ?_
  obtain ⟨F, ι, S, ρ, R, rs, h⟩ := h
  refine ⟨F, ι, S, ρ, R, rs, h.bind.imp fun F1 ι1 H1 fl S1 x1 R1 h => ?_⟩
  cases fl with
  | nx ρ1 => exact fun σ' rs' => ⟨F1, ι1, S1, ρ1, R1, rs', h⟩
  | rt w => exact h.ok R1
  | bk ρ1 => exact h.ok R1
  | ct ρ1 => exact h.ok R1
  | ex e ρ1 => exact h.ok R1
theorem sm_one (h1 : SS X E st a) : SSs X E [st] a := pss_one h1
theorem sm_expr (h : SE X E e m) (hs : swapsWith e none pos.line X.env = pure false := by rfl) : SS X E (.Expr e pos) (cExpr m) := by
  refine PS.le (ps_expr h hs) fun D σ H h => ?_
  obtain ⟨F, ι, S, ρ, R, rs, h⟩ := h
  exact ⟨F, ι, S, ρ, R, rs, (h.exq rs).imp fun F1 ι1 H1 w S1 x1 R1 h v _ => h.ok R1 σ (rs.ext x1)⟩
theorem sm_doc {x j pos pos'} : SS X E (.Expr (.Constant (.str x) j pos) pos') cNop := PS.le ps_doc fun D σ H h => by
  obtain ⟨F, ι, S, ρ, R, rs, h⟩ := h
  exact h.ok R σ rs
theorem sm_ret (h : SE X E e m) : SS X E (.Return (some e) pos) (cRet m) := by
  refine PS.le (ps_ret h) fun D σ H h => ?_
  obtain ⟨F, ι, S, ρ, R, rs, h⟩ := h
  exact ⟨F, ι, S, ρ, R, rs, (h.exq rs).imp fun F1 ι1 H1 w S1 x1 R1 h => h.ok R1⟩
theorem sm_retN : SS X E (.Return none pos) cRetN := PS.le ps_retN fun D σ H h => by
  obtain ⟨F, ι, S, ρ, R, rs, h⟩ := h
  exact h.ok R _ (.d .non)
theorem sm_set (i : Nat) {x : Str} {pos' : Pos} (hN : X.N.Nodup) (h : SE X E e m) (hi : X.N[i]? = some x := by rfl) (hx : Loc X.env.scope x := by first | exact Or.inl rfl | exact Or.inr rfl) (hs : swapsWith e (some (.Name x pos')) pos.line X.env = pure false := by rfl) (hf : X.fn x = true ∨ X.env.scope.names.lookup x = some .local := by first | exact .inl rfl | exact .inr rfl) :
    SS X E (.Assign [.Name x pos'] e pos) (cSet i m) := by
  refine PS.le (ps_set hN hi hx h hs hf) fun D σ H h => ?_
  obtain ⟨F, ι, S, ρ, R, rs, h⟩ := h
  exact ⟨F, ι, S, ρ, R, rs, (h.exq rs).imp fun F1 ι1 H1 w S1 x1 R1 h v r => h.ok R1 _ ((rs.ext x1).set r i)⟩
theorem sm_if {ta tb : List Stmt} (hc : SB X E c p) (h1 : SSs X E ta a) (h2 : SSs X E tb b) : SS X E (.If c ta tb pos) (cIf p a b) := by
  refine PS.le (ps_if hc h1 h2) fun D σ H h => ?_
  obtain ⟨F, ι, S, ρ, R, rs, h⟩ := h
  refine ⟨F, ι, S, ρ, R, rs, (h.exq rs).imp fun F1 ι1 H1 w S1 x1 R1 h => ?_⟩
  cases w with
  | true => exact ⟨F1, ι1, S1, ρ, R1, rs.ext x1, h⟩
  | false => exact ⟨F1, ι1, S1, ρ, R1, rs.ext x1, h⟩
end

/-! ### targets -/
abbrev GM := W → Rho → Sto → Out Rho
abbrev GMs := List W → Rho → Sto → Out Rho
def tG (K : PySem.W.Frag) (E : EX) (g : GM) : TG := fun v σ H Q => ∃ F ι S ρ w, Rel K F ι S H ∧ RS K F ι H ρ σ ∧ RW K F ι H w v ∧ Post K (E σ) F ι H (g w ρ S) fun F' ι' H' ρ' _ => ∀ σ', RS K F' ι' H' ρ' σ' → Q σ' H'
def tGs (K : PySem.W.Frag) (E : EX) (g : GMs) : TGs := fun vs σ H Q => ∃ F ι S ρ ws, Rel K F ι S H ∧ RS K F ι H ρ σ ∧ RWs K F ι H ws vs ∧ Post K XF F ι H (g ws ρ S) fun F' ι' H' ρ' _ => ∀ σ', RS K F' ι' H' ρ' σ' → Q σ' H'
def SG (X : Cx) (E : EX) (tg : Expr) (g : GM) : Prop := PG X tg (tG X.K E g)
def SGs (X : Cx) (E : EX) (tg : List Expr) (g : GMs) : Prop := PGs X tg (tGs X.K E g)
def gNm (i : Nat) : GM := fun w ρ S => .ok (ρ.set i (some w)) S
def gsNil : GMs := fun ws ρ S => match ws with
  | [] => .ok ρ S
  | _ => .bad
/-- only targets that raise nothing stand in a row -/
def gsCons (g : GM) (gs : GMs) : GMs := fun ws ρ S => match ws with
  | w :: r => match g w ρ S with
    | .ok ρ1 S1 => gs r ρ1 S1
    | _ => .bad
  | [] => .bad
/-- the items of a tuple -/
def tupOf : W → Option (List W)
  | .d (.tuple xs) => some (xs.map .d)
  | .tup ws => some ws
  | _ => none
def gTp (n : Nat) (gs : GMs) : GM := fun w ρ S => match tupOf w with
  | some ws => if ws.length = n then (match gs ws ρ S with | .ok ρ1 S1 => .ok ρ1 S1 | _ => .bad) else .bad
  | none => .bad
/-- the items of a list that is never changed -/
def gLs (n : Nat) (gs : GMs) : GM := fun w ρ S => match w with
  | .d (.list xs) => if xs.length = n then (match gs (xs.map .d) ρ S with | .ok ρ1 S1 => .ok ρ1 S1 | _ => .bad) else .bad
  | _ => .bad
section
variable {X : Cx} {E : EX} {pos : Pos} {tg e : Expr} {es : List Expr} {g : GM} {gs : GMs} {m : EM} {K : PySem.W.Frag} {F : FS} {ι : List Addr} {H : Hp}
theorem PG.le {t t' : TG} (h : PG X tg t) (k : ∀ v σ H Q, t' v σ H Q → t v σ H Q) : PG X tg t' := ⟨fun pins s σ H v u Q I r q => h.run pins s σ H v u Q I r (k v σ H Q q)⟩
theorem PGs.le {t t' : TGs} (h : PGs X es t) (k : ∀ v σ H Q, t' v σ H Q → t v σ H Q) : PGs X es t' := ⟨fun pins s σ H v u Q I r q => h.run pins s σ H v u Q I r (k v σ H Q q)⟩
theorem sg_name (i : Nat) {x : Str} (hN : X.N.Nodup) (hi : X.N[i]? = some x := by rfl) (hx : Loc X.env.scope x := by first | exact Or.inl rfl | exact Or.inr rfl) (hf : X.fn x = true ∨ X.env.scope.names.lookup x = some .local := by first | exact .inl rfl | exact .inr rfl) : SG X E (.Name x pos) (gNm i) := by
  refine PG.le (pg_name hN hi hx hf) fun v σ H Q h => ?_
  obtain ⟨F, ι, S, ρ, w, R, rs, r, h⟩ := h
  exact h.ok R _ (rs.set r i)
theorem sgs_nil : SGs X E [] gsNil := by
  refine PGs.le pgs_nil fun vs σ H Q h => ?_
  obtain ⟨F, ι, S, ρ, ws, R, rs, r, h⟩ := h
  cases ws with
  | nil => cases r; exact ⟨rfl, h.ok R _ rs⟩
  | cons => exact h.elim
theorem sgs_cons (h1 : SG X E e g) (h2 : SGs X E es gs) (hs : (assignEach (e :: es) X.env).map (·.2) = assign e X.env :: (assignEach es X.env).map (·.2) := by rfl) : SGs X E (e :: es) (gsCons g gs) := by
  refine PGs.le (pgs_cons h1 h2 hs) fun vs σ H Q h => ?_
  obtain ⟨F, ι, S, ρ, ws, R, rs, r, h⟩ := h
  cases r with
  | nil => exact h.elim
  | cons r1 r2 =>
    unfold gsCons at h
    simp only at h
    split at h
    · rename_i q
      refine ⟨_, _, rfl, F, ι, S, ρ, _, R, rs, r1, ?_⟩
      rw [q]
      intro F1 ι1 H1 x1 R1 σ' rs'
      exact ⟨F1, ι1, _, _, _, R1, rs', r2.ext x1, h.ext x1⟩
    · exact h.elim
theorem RW.tup_of {w : W} {v : V} {ws : List W} (r : RW K F ι H w v) (e : tupOf w = some ws) : ∃ a vs, v = .ref a ∧ StT K F H a vs ∧ RWs K F ι H ws vs := by
  cases r with
  | d r =>
    cases r with
    | tup st rr => cases e; exact ⟨_, _, rfl, st, .ofD rr⟩
    | _ => cases e
  | tup st rr => cases e; exact ⟨_, _, rfl, st, rr⟩
  | _ => cases e
theorem sg_tup {k : Nat} {n : Nat} (hc : X.calm = true) (h : SGs X E es gs) (hn : (assignEach es X.env).length = n := by rfl) (hst : (assignEach es X.env).findIdx? (·.1) = none := by rfl) : SG X E (.Tuple es k pos) (gTp n gs) := by
  refine PG.le (pg_tup hc h hn hst) fun v σ H Q h => ?_
  obtain ⟨F, ι, S, ρ, w, R, rs, r, h⟩ := h
  unfold gTp at h
  split at h
  · rename_i ws e
    split at h
    · rename_i hl
      obtain ⟨a, vs, rfl, st, rr⟩ := r.tup_of e
      refine ⟨a, vs, rfl, st.now, by rw [← rr.length]; exact hl, F, ι, S, ρ, ws, R, rs, rr, ?_⟩
      split at h
      · rename_i q; rw [q]; exact h
      · exact h.elim
    · exact h.elim
  · exact h.elim
theorem sg_lst {k : Nat} {n : Nat} (hc : X.calm = true) (h : SGs X E es gs) (hn : (assignEach es X.env).length = n := by rfl) (hst : (assignEach es X.env).findIdx? (·.1) = none := by rfl) : SG X E (.Tuple es k pos) (gLs n gs) := by
  refine PG.le (pg_lst hc h hn hst) fun v σ H Q h => ?_
  obtain ⟨F, ι, S, ρ, w, R, rs, r, h⟩ := h
  unfold gLs at h
  split at h
  · rename_i xs
    split at h
    · rename_i hl
      cases r with
      | d r =>
        cases r with
        | lst st rr =>
          refine ⟨_, _, rfl, st.now, by rw [← rr.length]; exact hl, F, ι, S, ρ, _, R, rs, .ofD rr, ?_⟩
          split at h
          · rename_i q; rw [q]; exact h
          · exact h.elim
    · exact h.elim
  · exact h.elim
/-- o[i] = v -/
abbrev Op3 := W → W → W → Sto → Out Unit
def OkSet (X : Cx) (t : TSet) (f : Op3) : Prop := ∀ E F ι S H o i w vo vi v Q, Rel X.K F ι S H → RW X.K F ι H o vo → RW X.K F ι H i vi → RW X.K F ι H w v → Post X.K E F ι H (f o i w S) (fun _ _ H' _ _ => Q H') → t vo vi v H Q
def gSb (f : Op3) (mo mi : EM) : GM := fun w ρ S => (mo ρ S).bind fun o S1 => (mi ρ S1).bind fun i S2 => (f o i w S2).bind fun _ S3 => .ok ρ S3
theorem sg_sub {o i : Expr} {mo mi : EM} {f : Op3} {t : TSet} (hp : PSet X t) (hf : OkSet X t f) (ho : SE X E o mo) (hi : SE X E i mi)
    (ha : ∀ v, assign (.Subscript o i pos) X.env v = (do
      let ov ← holding [v] (eval o X.env)
      let iv ← holding [v, ov] (eval i X.env)
      standAt pos
      holding [v, ov, iv] (setItem ov iv v)
      release [v, ov, iv] []) := by intro _; rfl) : SG X E (.Subscript o i pos) (gSb f mo mi) := by
  refine PG.le (pg_sub ho hi hp ha) fun v σ H Q h => ?_
  obtain ⟨F, ι, S, ρ, w, R, rs, r, h⟩ := h
  refine ⟨F, ι, S, ρ, R, rs, h.bind.imp fun F1 ι1 H1 ow S1 x1 R1 h vo ro => ?_⟩
  refine ⟨F1, ι1, S1, ρ, R1, rs.ext x1, h.bind.imp fun F2 ι2 H2 iw S2 x2 R2 h vi ri => ?_⟩
  refine hf (E σ) F2 ι2 S2 H2 ow iw w vo vi v _ R2 (ro.ext x2) ri ((r.ext x1).ext x2) (h.bind.imp fun F3 ι3 H3 u S3 x3 R3 h => ?_)
  exact h.ok R3 σ (((rs.ext x1).ext x2).ext x3)
def cAsg (m : EM) (g : GM) : SM := fun ρ S => exq ρ (m ρ S) fun w S1 => exq ρ (g w ρ S1) fun ρ1 S2 => .ok (.nx ρ1) S2
theorem sm_asg (h : SE X E e m) (hg : SG X E tg g) (hs : swapsWithSole [tg] e pos.line X.env = pure false := by rfl) (hw : swappedStores [tg] e X.env = pure none := by rfl)
    (h1 : (assignEach [tg] X.env).map (·.2) = [assign tg X.env] := by rfl) : SS X E (.Assign [tg] e pos) (cAsg m g) := by
  refine PS.le (ps_asg h hg hs hw h1) fun D σ H h => ?_
  obtain ⟨F, ι, S, ρ, R, rs, h⟩ := h
  refine ⟨F, ι, S, ρ, R, rs, (h.exq rs).imp fun F1 ι1 H1 w S1 x1 R1 h v r => ?_⟩
  exact ⟨F1, ι1, S1, ρ, w, R1, rs.ext x1, r, (h.exq (rs.ext x1)).imp fun F2 ι2 H2 ρ1 S2 x2 R2 h σ' rs' => h.ok R2 σ' rs'⟩
/-- a, b = x, y and a, b, c = x, y, z, both sides written -/
def cPar2 (i j : Nat) (m : AM) : SM := fun ρ S => exq ρ (m ρ S) fun ws S1 => match ws with
  | [u, v] => .ok (.nx ((ρ.set i (some u)).set j (some v))) S1
  | _ => .bad
def cPar3 (i j l : Nat) (m : AM) : SM := fun ρ S => exq ρ (m ρ S) fun ws S1 => match ws with
  | [u, v, w] => .ok (.nx (((ρ.set i (some u)).set j (some v)).set l (some w))) S1
  | _ => .bad
theorem sm_par2 {i j : Nat} {x y : Str} {a b : Expr} {ma : AM} {px py pt : Pos} {kt k2 pt2} (hc : X.calm = true) (hN : X.N.Nodup) (ha : SA X E [a, b] ma) (hij : i ≠ j := by decide) (hi : X.N[i]? = some x := by rfl) (hj : X.N[j]? = some y := by rfl)
    (hx : X.env.scope.names.lookup x = some .local := by rfl) (hy : X.env.scope.names.lookup y = some .local := by rfl)
    (hw : swappedStores [.Tuple [.Name x px, .Name y py] kt pt] (.Tuple [a, b] k2 pt2) X.env = pure (some [x, y]) := by rfl)
    (hs : swapsWithSole [.Tuple [.Name x px, .Name y py] kt pt] (.Tuple [a, b] k2 pt2) pos.line X.env = pure false := by rfl) :
    SS X E (.Assign [.Tuple [.Name x px, .Name y py] kt pt] (.Tuple [a, b] k2 pt2) pos) (cPar2 i j ma) := by
  refine PS.le (ps_par hc hN hi hj hij hx hy ha hw hs) fun D σ H h => ?_
  obtain ⟨F, ι, S, ρ, R, rs, h⟩ := h
  refine ⟨F, ι, S, ρ, R, rs, (h.exq rs).imp fun F1 ι1 H1 ws S1 x1 R1 h vs r => ?_⟩
  split at h
  · cases r with | cons r1 r => cases r with | cons r2 r => cases r; exact ⟨_, _, rfl, h.ok R1 _ (((rs.ext x1).set r1 i).set r2 j)⟩
  · exact h.elim
end
end Sh
end

section
namespace Sh
open PySem PySem.Spec PyProof.Rows L2
open Classical

/-! ### what is walked -/
structure Its where
  items : List W
  grd : Sto → Prop := fun _ => True
abbrev IM := Rho → Sto → Out Its
def IterOk (K : PySem.W.Frag) (J : It) (F : FS) (ι : List Addr) (H : Hp) (its : Its) : Prop :=
  ∀ i F' ι' S' H', Ext F ι H F' ι' H' → Rel K F' ι' S' H' → its.grd S' → (i = its.items.length → J.stop i H') ∧
    ∀ w, its.items[i]? = some w → J.go i H' ∧ ∀ x H'', J.yld i H' x H'' → ∃ F'', Ext F' ι' H' F'' ι' H'' ∧ Rel K F'' ι' S' H'' ∧ RW K F'' ι' H'' w x
theorem IterOk.ext {K J F ι H F1 ι1 H1 its} (h : IterOk K J F ι H its) (x : Ext F ι H F1 ι1 H1) : IterOk K J F1 ι1 H1 its := fun i F' ι' S' H' y => h i F' ι' S' H' (x.trans y)
def tI (K : PySem.W.Frag) (E : EX) (m : IM) : TI := fun σ H R => ∃ F ι S ρ, Rel K F ι S H ∧ RS K F ι H ρ σ ∧ Post K (E σ) F ι H (m ρ S) fun F' ι' H' its _ => ∀ J, IterOk K J F' ι' H' its → R J H'
def SI (X : Cx) (E : EX) (tg it : Expr) (m : IM) : Prop := PI X tg it (tI X.K E m)

noncomputable def forL (grd : Sto → Prop) (g : GM) (body : SM) : List W → SM
  | [] => fun ρ S => if grd S then .ok (.nx ρ) S else .bad
  | w :: ws => fun ρ S => if grd S then exq ρ (g w ρ S) fun ρ1 S1 => (body ρ1 S1).bind fun fl S2 => match fl with
      | .nx ρ2 => forL grd g body ws ρ2 S2
      | .ct ρ2 => forL grd g body ws ρ2 S2
      | .bk ρ2 => .ok (.nx ρ2) S2
      | .rt w => .ok (.rt w) S2
      | .ex e ρ2 => .ok (.ex e ρ2) S2
    else .bad
termination_by structural l => l
noncomputable def cFor (im : IM) (g : GM) (body : SM) : SM := fun ρ S => exq ρ (im ρ S) fun its S1 => forL its.grd g body its.items ρ S1
section
variable {X : Cx} {E : EX} {pos : Pos} {tg it c : Expr} {im : IM} {g : GM} {body : SM} {bs : List Stmt} {p : BM}
theorem sm_for (hp : PassesOwn (model X.prog X.w) X.A X.env X.xe) (hc : X.calm = true) (hi : SI X E tg it im) (hg : SG X E tg g) (hb : SSs X E bs body)
    (hs : ∀ x, foldedSetIterable it X.env x = pure x := by intro _; rfl) : SS X E (.For tg it bs [] pos) (cFor im g body) := by
  refine PS.le (ps_for hp hc hi hg hb hs) fun D σ H h => ?_
  obtain ⟨F, ι, S, ρ, R, rs, h⟩ := h
  refine ⟨F, ι, S, ρ, R, rs, (h.exq rs).imp fun F1 ι1 H1 its S1 x1 R1 h J ok => ?_⟩
  refine ⟨fun i m σ H => m = its.items.length - i ∧ i ≤ its.items.length ∧ ∃ F' ι' S' ρ', Ext F1 ι1 H1 F' ι' H ∧ Rel X.K F' ι' S' H ∧ RS X.K F' ι' H ρ' σ ∧
    Post X.K XF F' ι' H (forL its.grd g body (its.items.drop i) ρ' S') (fun F' ι' H' fl _ => PFl X.K E D F' ι' H' fl), ⟨its.items.length, by simp, Nat.zero_le _, F1, ι1, S1, ρ, .refl, R1, rs.ext x1, h⟩, ?_⟩
  rintro i m σ2 H2 ⟨rfl, hi, F', ι', S', ρ', x', R', rs', h'⟩
  by_cases hlt : i < its.items.length
  · rw [List.drop_eq_getElem_cons hlt] at h'
    unfold forL at h'
    split at h'
    · rename_i hg'
      have okk := (ok i F' ι' S' H2 x' R' hg').2 _ (List.getElem?_eq_getElem hlt)
      refine .inr ⟨okk.1, fun σ' H' => ∃ F3 ι3 S3 ρ3, Ext F1 ι1 H1 F3 ι3 H' ∧ Rel X.K F3 ι3 S3 H' ∧ RS X.K F3 ι3 H' ρ3 σ' ∧
        Post X.K XF F3 ι3 H' (forL its.grd g body (its.items.drop (i + 1)) ρ3 S3) (fun F' ι' H' fl _ => PFl X.K E D F' ι' H' fl), fun σ' H' n => ⟨its.items.length - (i + 1), by omega, rfl, hlt, n⟩, fun x H3 y => ?_⟩
      obtain ⟨F'', x2, R2, r2⟩ := okk.2 x H3 y
      refine ⟨F'', ι', S', ρ', _, R2, rs'.ext x2, r2, ((h'.ext x2).exq (rs'.ext x2)).imp fun F3 ι3 H3 ρ1 S3 x3 R3 h3 σ3 rs3 => ?_⟩
      refine ⟨F3, ι3, S3, ρ1, R3, rs3, h3.bind.imp fun F4 ι4 H4 fl S4 x4 R4 h4 => ?_⟩
      have xx := ((x'.trans x2).trans x3).trans x4
      cases fl with
      | nx ρ2 => exact fun σ4 rs4 => ⟨F4, ι4, S4, ρ2, xx, R4, rs4, h4⟩
      | ct ρ2 => exact fun σ4 rs4 => ⟨F4, ι4, S4, ρ2, xx, R4, rs4, h4⟩
      | bk ρ2 => exact h4.ok R4
      | rt w => exact h4.ok R4
      | ex e ρ2 => exact h4.ok R4
    · exact h'.elim
  · have e : i = its.items.length := by omega
    subst e
    rw [List.drop_length] at h'
    unfold forL at h'
    split at h'
    · rename_i hg'
      exact .inl ⟨(ok _ F' ι' S' H2 x' R' hg').1 rfl, h'.ok R' _ rs'⟩
    · exact h'.elim

/-! ### while -/
def whN (c : BM) (body : SM) : Nat → SM
  | 0 => fun _ _ => .bad
  | n + 1 => fun ρ S => exq ρ (c ρ S) fun t S1 => if t = true then (body ρ S1).bind fun fl S2 => match fl with
      | .nx ρ2 => whN c body n ρ2 S2
      | .ct ρ2 => whN c body n ρ2 S2
      | .bk ρ2 => .ok (.nx ρ2) S2
      | .rt w => .ok (.rt w) S2
      | .ex e ρ2 => .ok (.ex e ρ2) S2
    else .ok (.nx ρ) S1
noncomputable def cWhile (c : BM) (body : SM) : SM := fun ρ S => if h : ∃ n, whN c body n ρ S ≠ .bad then whN c body h.choose ρ S else .bad
theorem whN_succ {c : BM} {body : SM} : ∀ {n : Nat} {ρ : Rho} {S : Sto}, whN c body n ρ S ≠ .bad → whN c body (n + 1) ρ S = whN c body n ρ S
  | 0, _, _, h => absurd rfl h
  | n + 1, ρ, S, h => by
    unfold whN at h ⊢
    cases q : c ρ S with
    | bad => rfl
    | exc e S1 => rfl
    | ok t S1 =>
      simp only [q, exq] at h ⊢
      cases t with
      | false => rfl
      | true =>
        simp only [if_true] at h ⊢
        cases q2 : body ρ S1 with
        | bad => rfl
        | exc e S2 => rfl
        | ok fl S2 =>
          simp only [q2, Out.bind] at h ⊢
          cases fl with
          | nx ρ2 => exact whN_succ h
          | ct ρ2 => exact whN_succ h
          | _ => rfl
theorem whN_le {c : BM} {body : SM} {n : Nat} {ρ : Rho} {S : Sto} (h : whN c body n ρ S ≠ .bad) : ∀ k, whN c body (n + k) ρ S = whN c body n ρ S
  | 0 => rfl
  | k + 1 => by
    have ih := whN_le h k
    rw [← Nat.add_assoc, whN_succ (by rw [ih]; exact h), ih]
theorem cWhile_of {c : BM} {body : SM} {n : Nat} {ρ : Rho} {S : Sto} {o : Out Fl} (e : whN c body n ρ S = o) (h : o ≠ .bad) : cWhile c body ρ S = o := by
  have hx : ∃ n, whN c body n ρ S ≠ .bad := ⟨n, by rw [e]; exact h⟩
  unfold cWhile
  rw [dif_pos hx]
  have h1 := hx.choose_spec
  rcases Nat.le_total n hx.choose with q | q
  · obtain ⟨k, hk⟩ := Nat.le.dest q
    rw [← hk, whN_le (by rw [e]; exact h), e]
  · obtain ⟨k, hk⟩ := Nat.le.dest q
    rw [← e, ← hk, whN_le h1]
theorem sm_while (hp : PassesOwn (model X.prog X.w) X.A X.env X.xe) (hc : SB X E c p) (hb : SSs X E bs body) : SS X E (.While c bs [] pos) (cWhile p body) := by
  refine PS.le (ps_while hp hc hb) fun D σ H h => ?_
  obtain ⟨F, ι, S, ρ, R, rs, h⟩ := h
  unfold cWhile at h
  split at h
  · rename_i hx
    refine ⟨fun m σ H => ∃ F' ι' S' ρ', Rel X.K F' ι' S' H ∧ RS X.K F' ι' H ρ' σ ∧ Post X.K XF F' ι' H (whN p body m ρ' S') (fun F' ι' H' fl _ => PFl X.K E D F' ι' H' fl), ⟨_, F, ι, S, ρ, R, rs, h⟩, ?_⟩
    rintro m σ1 H1 ⟨F1, ι1, S1, ρ1, R1, rs1, h1⟩
    cases m with
    | zero => exact h1.elim
    | succ m =>
      unfold whN at h1
      refine ⟨F1, ι1, S1, ρ1, R1, rs1, (h1.exq rs1).imp fun F2 ι2 H2 t S2 x2 R2 h2 => ?_⟩
      cases t with
      | false => exact h2.ok R2 _ (rs1.ext x2)
      | true =>
        refine ⟨fun σ' H' => ∃ F' ι' S' ρ', Rel X.K F' ι' S' H' ∧ RS X.K F' ι' H' ρ' σ' ∧ Post X.K XF F' ι' H' (whN p body m ρ' S') (fun F' ι' H' fl _ => PFl X.K E D F' ι' H' fl), fun σ' H' n => ⟨m, Nat.lt_succ_self m, n⟩, ?_⟩
        refine ⟨F2, ι2, S2, ρ1, R2, rs1.ext x2, Post.imp (Post.bind (o := body ρ1 S2) h2) fun F4 ι4 H4 fl S4 x4 R4 h4 => ?_⟩
        cases fl with
        | nx ρ2 => exact fun σ4 rs4 => ⟨F4, ι4, S4, ρ2, R4, rs4, h4⟩
        | ct ρ2 => exact fun σ4 rs4 => ⟨F4, ι4, S4, ρ2, R4, rs4, h4⟩
        | bk ρ2 => exact h4.ok R4
        | rt w => exact h4.ok R4
        | ex e ρ2 => exact h4.ok R4
  · exact h.elim
end

/-! ### comprehensions -/
def wipeR (ρ : Rho) : List Nat → Rho
  | [] => ρ
  | v :: vs => (wipeR ρ vs).set v none
theorem RS.wipe {K F ι H ρ σ} (h : RS K F ι H ρ σ) : ∀ vs, RS K F ι H (wipeR ρ vs) (L2.wipe σ vs)
  | [] => h
  | v :: vs => (RS.wipe h vs).unset v
theorem wipe_get (σ : L2.St) : ∀ (vs : List Nat) (j : Nat), (L2.wipe σ vs)[j]? = if j ∈ vs then (if j < σ.length then some none else none) else σ[j]?
  | [], j => by simp [L2.wipe]
  | v :: vs, j => by
    unfold L2.wipe
    rw [List.getElem?_set, wipe_get σ vs j, wipe_length]
    by_cases q : v = j
    · subst q; simp
    · have : ¬ j = v := fun e => q e.symm
      simp [q, this]
theorem wipe_set {σ : L2.St} {vs : List Nat} {i : Nat} {o : Option V} (h : i ∈ vs) : L2.wipe (σ.set i o) vs = L2.wipe σ vs := by
  apply List.ext_getElem?
  intro j
  rw [wipe_get, wipe_get]
  by_cases q : j ∈ vs
  · simp [q]
  · have : i ≠ j := fun e => q (e ▸ h)
    simp [q, List.getElem?_set_ne this]
theorem wipe_wipe (σ : L2.St) (vs : List Nat) : L2.wipe (L2.wipe σ vs) vs = L2.wipe σ vs := by
  apply List.ext_getElem?
  intro j
  rw [wipe_get, wipe_get, wipe_length]
  by_cases q : j ∈ vs <;> simp [q]
/-- targets of a comprehension: names, tuples of names -/
def tGc (K : PySem.W.Frag) (vs : List Nat) (g : GM) : TG := fun v σ H Q => ∃ F ι S ρ w, Rel K F ι S H ∧ RS K F ι H ρ σ ∧ RW K F ι H w v ∧ Post K XF F ι H (g w ρ S) fun F' ι' H' ρ' _ => ∀ σ', RS K F' ι' H' ρ' σ' → L2.wipe σ' vs = L2.wipe σ vs → Q σ' H'
def tGcs (K : PySem.W.Frag) (vs : List Nat) (g : GMs) : TGs := fun us σ H Q => ∃ F ι S ρ ws, Rel K F ι S H ∧ RS K F ι H ρ σ ∧ RWs K F ι H ws us ∧ Post K XF F ι H (g ws ρ S) fun F' ι' H' ρ' _ => ∀ σ', RS K F' ι' H' ρ' σ' → L2.wipe σ' vs = L2.wipe σ vs → Q σ' H'
def SGc (X : Cx) (vs : List Nat) (tg : Expr) (g : GM) : Prop := PG X tg (tGc X.K vs g)
def SGcs (X : Cx) (vs : List Nat) (tg : List Expr) (g : GMs) : Prop := PGs X tg (tGcs X.K vs g)
section
variable {X : Cx} {pos : Pos} {e : Expr} {es : List Expr} {g : GM} {gs : GMs} {vs : List Nat}
theorem sgc_name (i : Nat) {x : Str} (hN : X.N.Nodup) (hm : i ∈ vs := by decide) (hi : X.N[i]? = some x := by rfl) (hx : Loc X.env.scope x := by first | exact Or.inl rfl | exact Or.inr rfl) (hf : X.fn x = true ∨ X.env.scope.names.lookup x = some .local := by first | exact .inl rfl | exact .inr rfl) : SGc X vs (.Name x pos) (gNm i) := by
  refine PG.le (pg_name hN hi hx hf) fun v σ H Q h => ?_
  obtain ⟨F, ι, S, ρ, w, R, rs, r, h⟩ := h
  exact h.ok R _ (rs.set r i) (wipe_set hm)
theorem sgcs_nil : SGcs X vs [] gsNil := by
  refine PGs.le pgs_nil fun us σ H Q h => ?_
  obtain ⟨F, ι, S, ρ, ws, R, rs, r, h⟩ := h
  cases ws with
  | nil => cases r; exact ⟨rfl, h.ok R _ rs rfl⟩
  | cons => exact h.elim
theorem sgcs_cons (h1 : SGc X vs e g) (h2 : SGcs X vs es gs) (hs : (assignEach (e :: es) X.env).map (·.2) = assign e X.env :: (assignEach es X.env).map (·.2) := by rfl) : SGcs X vs (e :: es) (gsCons g gs) := by
  refine PGs.le (pgs_cons h1 h2 hs) fun us σ H Q h => ?_
  obtain ⟨F, ι, S, ρ, ws, R, rs, r, h⟩ := h
  cases r with
  | nil => exact h.elim
  | cons r1 r2 =>
    unfold gsCons at h
    simp only at h
    split at h
    · rename_i q
      refine ⟨_, _, rfl, F, ι, S, ρ, _, R, rs, r1, ?_⟩
      rw [q]
      intro F1 ι1 H1 x1 R1 σ' rs' ew
      exact ⟨F1, ι1, _, _, _, R1, rs', r2.ext x1, (h.ext x1).imp fun _ _ _ _ _ _ _ k σ2 rs2 e2 => k σ2 rs2 (e2.trans ew)⟩
    · exact h.elim
theorem sgc_tup {k : Nat} {n : Nat} (hc : X.calm = true) (h : SGcs X vs es gs) (hn : (assignEach es X.env).length = n := by rfl) (hst : (assignEach es X.env).findIdx? (·.1) = none := by rfl) : SGc X vs (.Tuple es k pos) (gTp n gs) := by
  refine PG.le (pg_tup hc h hn hst) fun v σ H Q h => ?_
  obtain ⟨F, ι, S, ρ, w, R, rs, r, h⟩ := h
  unfold gTp at h
  split at h
  · rename_i ws e
    split at h
    · rename_i hl
      obtain ⟨a, vs, rfl, st, rr⟩ := r.tup_of e
      refine ⟨a, vs, rfl, st.now, by rw [← rr.length]; exact hl, F, ι, S, ρ, ws, R, rs, rr, ?_⟩
      split at h
      · rename_i q; rw [q]; exact h
      · exact h.elim
    · exact h.elim
  · exact h.elim
end
def bYes : BM := fun _ S => .ok true S
@[reducible] def Out.bindB {α β : Type} (o : Out α) (f : α → Sto → Out β) : Out β := match o with
  | .ok a S => f a S
  | _ => .bad
theorem Out.bindB_ok {α β : Type} {o : Out α} {f : α → Sto → Out β} {b : β} {S' : Sto} (h : o.bindB f = .ok b S') : ∃ a S, o = .ok a S ∧ f a S = .ok b S' := by
  cases o with
  | ok a S => exact ⟨a, S, rfl, h⟩
  | exc e S => cases h
  | bad => cases h
noncomputable def lcL (grd : Sto → Prop) (g : GM) (tt : BM) (elt : EM) (ρ : Rho) : List W → Sto → Out (List W)
  | [] => fun S => if grd S then .ok [] S else .bad
  | w :: ws => fun S => if grd S then (g w ρ S).bindB fun ρ1 S1 => (tt ρ1 S1).bindB fun b S2 =>
      if b = true then (elt ρ1 S2).bindB fun y S3 => (lcL grd g tt elt ρ ws S3).bindB fun r S4 => .ok (y :: r) S4 else lcL grd g tt elt ρ ws S2
    else .bad
termination_by structural l => l
noncomputable def lcAll (im : IM) (g : GM) (tt : BM) (elt : EM) (vs : List Nat) : Rho → Sto → Out (List W) := fun ρ S => (im ρ S).bind fun its S1 => if its.items.length ≤ sizeLine then (lcL its.grd g tt elt (wipeR ρ vs) its.items S1).bindB fun ws S2 => .ok ws S2 else .bad
/-- a list that is never changed; a cell -/
noncomputable def eLc (im : IM) (g : GM) (tt : BM) (elt : EM) (vs : List Nat) : EM := fun ρ S => (im ρ S).bind fun its S1 => if its.items.length ≤ sizeLine then
  (lcL its.grd g tt elt (wipeR ρ vs) its.items S1).bindB fun ws S2 => .ofO S2 ((unD ws).map fun xs => .d (.list xs)) else .bad
noncomputable def eLcM (im : IM) (g : GM) (tt : BM) (elt : EM) (vs : List Nat) : EM := fun ρ S => (im ρ S).bind fun its S1 => if its.items.length ≤ sizeLine then
  (lcL its.grd g tt elt (wipeR ρ vs) its.items S1).bindB fun ws S2 => newCell ws S2 else .bad
theorem Ext.notF {F ι H F' ι' H'} {D : Addr} (x : Ext F ι H F' ι' H') (h : ¬ F D) (n : H D ≠ none) : ¬ F' D := fun f => (x.nf D f).elim h n
theorem Ext.notI {F ι H F' ι' H'} {D : Addr} (x : Ext F ι H F' ι' H') (h : D ∉ ι) (n : H D ≠ none) : D ∉ ι' := fun f => (x.ni D f).elim h n
/-- the reading of a comprehension's walk -/
theorem lc_run {K : PySem.W.Frag} {F : FS} {ι : List Addr} {S S' : Sto} {H : Hp} {ρ : Rho} {σ : L2.St} {J : It} {its : Its} {g : GM} {tt : BM} {elt : EM} {vs : List Nat} {D : Addr} {Qd : Hp → Prop} {wsE : List W}
    (R : Rel K F ι S H) (rs : RS K F ι H ρ σ) (ok : IterOk K J F ι H its) (hz : its.items.length ≤ sizeLine) (nD : H D = none)
    (h : lcL its.grd g tt elt (wipeR ρ vs) its.items S = .ok wsE S')
    (hq : ∀ F' ι' H' us, Ext F ι H F' ι' H' → Rel K F' ι' S' H' → D ∉ ι' → ¬ F' D → H' D = some (.lst us) → RWs K F' ι' H' wsE us → wsE.length ≤ sizeLine → Qd H') :
    ∃ Wi : Nat → Nat → Hp → Prop, (∃ m, Wi 0 m (upd H D (.lst []))) ∧ ∀ i m H, Wi i m H →
      (J.stop i H ∧ Qd H) ∨ (J.go i H ∧ ∃ Nx : Hp → Prop, (∀ H', Nx H' → ∃ m', m' < m ∧ Wi (i + 1) m' H') ∧ ∀ x H', J.yld i H x H' → tGc K vs g x (L2.wipe σ vs) H' fun σ2 H2 => L2.wipe σ2 vs = L2.wipe σ vs ∧ tB K E0x tt σ2 H2 fun b H3 =>
        if b = true then tE K E0x elt σ2 H3 fun y H4 => ∃ acc, H4 D = some (.lst acc) ∧ acc.length < sizeLine ∧ Nx (upd H4 D (.lst (acc ++ [y]))) else Nx H3) := by
  have nF : ¬ F D := fun f => R.ft D f nD
  have nI : D ∉ ι := fun f => R.there f nD
  -- the state between two turns
  let P : Nat → Hp → Prop := fun i H' => ∃ F' ι' S1 ws us r, Ext F ι H F' ι' H' ∧ Rel K F' ι' S1 H' ∧ D ∉ ι' ∧ ¬ F' D ∧ RS K F' ι' H' (wipeR ρ vs) (L2.wipe σ vs) ∧ H' D = some (.lst us) ∧ RWs K F' ι' H' ws us ∧ ws.length ≤ i ∧
    lcL its.grd g tt elt (wipeR ρ vs) (its.items.drop i) S1 = .ok r S' ∧ ws ++ r = wsE
  refine ⟨fun i m H => m = its.items.length - i ∧ i ≤ its.items.length ∧ P i H, ⟨its.items.length, by simp, Nat.zero_le _, F, ι, S, [], [], wsE, Ext.lay nD, R.wr0 nF nI, nI, nF, (rs.wipe vs).wk (Wk.wr0 nF), upd_same, .nil, Nat.zero_le _, h, rfl⟩, ?_⟩
  rintro i m H2 ⟨rfl, hi, F', ι', S1, ws, us, r, x', R', nI', nF', rs', hD, rw', hl, e1, e2⟩
  by_cases hlt : i < its.items.length
  · rw [List.drop_eq_getElem_cons hlt] at e1
    unfold lcL at e1
    split at e1
    · rename_i hg'
      obtain ⟨ρ1, S2, q1, e1⟩ := Out.bindB_ok e1
      obtain ⟨b, S3, q2, e1⟩ := Out.bindB_ok e1
      -- behind a turn that adds nothing, that adds v
      have okk := (ok i F' ι' S1 H2 (x'.trans .refl) R' hg').2 _ (List.getElem?_eq_getElem hlt)
      refine .inr ⟨okk.1, P (i + 1), fun H' p => ⟨its.items.length - (i + 1), by omega, rfl, hlt, p⟩, fun x H3 y => ?_⟩
      obtain ⟨F3, x3, R3, r3⟩ := okk.2 x H3 y
      have D2 : H2 D ≠ none := by rw [hD]; simp
      refine ⟨F3, ι', S1, wipeR ρ vs, _, R3, rs'.ext x3, r3, ?_⟩
      rw [q1]
      intro F4 ι4 H4 x4 R4 σ4 rs4 ew
      have x24 := x3.trans x4
      refine ⟨ew.trans (by rw [wipe_wipe]), F4, ι4, S2, ρ1, R4, rs4, ?_⟩
      rw [q2]
      intro F5 ι5 H5 x5 R5
      have x25 := x24.trans x5
      cases b with
      | false =>
        simp only [Bool.false_eq_true, if_false] at e1 ⊢
        exact ⟨F5, ι5, S3, ws, us, r, x'.trans x25, R5, x25.notI nI' D2, x25.notF nF' D2, rs'.ext x25, x25.keep D _ hD nI', rw'.ext x25, by omega, e1, e2⟩
      | true =>
        simp only [if_true] at e1 ⊢
        obtain ⟨yy, S4, q3, e1⟩ := Out.bindB_ok e1
        obtain ⟨r', S5, q4, e1⟩ := Out.bindB_ok e1
        refine ⟨F5, ι5, S3, ρ1, R5, rs4.ext x5, ?_⟩
        rw [q3]
        intro F6 ι6 H6 x6 R6 v rv
        have x26 := x25.trans x6
        have nI6 := x26.notI nI' D2
        have nF6 := x26.notF nF' D2
        have hl6 := rw'.length
        refine ⟨us, x26.keep D _ hD nI', by omega, F6, ι6, S4, ws ++ [yy], us ++ [v], r', (x'.trans x26).wr0 nD, R6.wr0 nF6 nI6, nI6, nF6, (rs'.ext x26).wk (Wk.wr0 nF6), upd_same, ((rw'.ext x26).append (.cons rv .nil)).wk (Wk.wr0 nF6), by simp; omega, ?_, ?_⟩
        · cases e1; exact q4
        · cases e1; rw [← e2]; simp
    · cases e1
  · have e : i = its.items.length := by omega
    subst e
    rw [List.drop_length] at e1
    unfold lcL at e1
    split at e1
    · rename_i hg'
      cases e1
      rw [List.append_nil] at e2
      subst e2
      exact .inl ⟨(ok _ F' ι' _ H2 x' R' hg').1 rfl, hq F' ι' H2 us x' R' nI' nF' hD rw' (by omega)⟩
    · cases e1
end Sh
end

section
namespace Sh
open PySem PySem.Spec PyProof.Rows L2
open Classical

section
variable {X : Cx} {E : EX} {elt tg it : Expr} {ifs : List Expr} {scope : Scope} {own : List (Str × Nat)} {pos spos : Pos} {im : IM} {g : GM} {tt : BM} {m : EM}
/-- a clause's tests -/
def STs (X : Cx) (ifs : List Expr) (m : BM) : Prop := PTs X ifs (tB X.K E0x m)
theorem sts_nil : STs X [] bYes := ⟨fun pins s σ H Q I h => by
  obtain ⟨F, ι, S, ρ, R, rs, h⟩ := h
  exact pts_nil.run pins s σ H Q I (h.ok R)⟩
theorem sts_one {c : Expr} {p : BM} (h : SB X E0x c p) : STs X [c] p := pts_one h
theorem lc_read {K : PySem.W.Frag} {σ : L2.St} {H : Hp} {Q : VK} {vs : List Nat} (h : tE K E (eLc im g tt m vs) σ H Q) : tLc (tI K E im) (tGc K vs g) (tB K E0x tt) (tE K E0x m) vs σ H Q := by
  obtain ⟨F, ι, S, ρ, R, rs, h⟩ := h
  refine ⟨F, ι, S, ρ, R, rs, h.bind.imp fun F1 ι1 H1 its S1 x1 R1 h J ok D nD => ?_⟩
  split at h
  · rename_i hz
    cases q : lcL its.grd g tt m (wipeR ρ vs) its.items S1 with
    | ok ws S2 =>
      rw [q] at h
      refine lc_run R1 (rs.ext x1) ok hz nD q fun F' ι' H' us x R' nI nF hD rw' hl => ?_
      obtain ⟨w, e, h⟩ := Post.ofO h
      cases q2 : unD ws with
      | none => rw [q2] at e; cases e
      | some xs =>
        rw [q2] at e; cases e
        rw [unD_eq q2] at rw' hl
        have hn : H' D ≠ none := by rw [hD]; simp
        refine h _ _ _ (x.adoptF nD) (R'.adoptF nI hn) _ (.d (.lst (.mk' ?_ (.inl rfl) hD) (rw'.toD.wk (Wk.adoptF (ι := ι')))))
        rw [← rw'.toD.length]; simpa using hl
    | exc e S2 => rw [q] at h; exact h.elim
    | bad => rw [q] at h; exact h.elim
  · exact h.elim
theorem lcM_read {K : PySem.W.Frag} {σ : L2.St} {H : Hp} {Q : VK} {vs : List Nat} (h : tE K E (eLcM im g tt m vs) σ H Q) : tLc (tI K E im) (tGc K vs g) (tB K E0x tt) (tE K E0x m) vs σ H Q := by
  obtain ⟨F, ι, S, ρ, R, rs, h⟩ := h
  refine ⟨F, ι, S, ρ, R, rs, h.bind.imp fun F1 ι1 H1 its S1 x1 R1 h J ok D nD => ?_⟩
  split at h
  · rename_i hz
    cases q : lcL its.grd g tt m (wipeR ρ vs) its.items S1 with
    | ok ws S2 =>
      rw [q] at h
      refine lc_run R1 (rs.ext x1) ok hz nD q fun F' ι' H' us x R' nI nF hD rw' hl => ?_
      have h' : Post K (E σ) F1 ι1 H1 (newCell ws S2) _ := h
      unfold newCell at h'
      rw [if_pos hl] at h'
      refine h' _ _ _ (x.adoptC nD) (R'.adoptC nF nI ⟨us, hD, rw'.wk Wk.adoptC, hl⟩) _ (.ref ?_)
      rw [← R'.len]; simp
    | exc e S2 => rw [q] at h; exact h.elim
    | bad => rw [q] at h; exact h.elim
  · exact h.elim
theorem s_lc (hc : X.calm = true) (hN : X.N.Nodup) (ok : BlkOk X.N X.env.scope scope own) (hi : SI X E tg it im)
    (hg : ∀ (s : Shared) (H : Hp) (C : Addr) (cl : List (Str × Addr)) (fp : List Addr), SGc (X.blk s H scope (compEnvC scope cl C X.env) fp) (own.map (·.2)) tg g) (ht : ∀ (s : Shared) (H : Hp) (C : Addr) (cl : List (Str × Addr)) (fp : List Addr), STs (X.blk s H scope (compEnvC scope cl C X.env) fp) ifs tt)
    (he : ∀ (s : Shared) (H : Hp) (C : Addr) (cl : List (Str × Addr)) (fp : List Addr), SE (X.blk s H scope (compEnvC scope cl C X.env) fp) E0x elt m) (hs : ∀ x, foldedSetIterable it X.env x = pure x := by intro _; rfl) :
    SE X E (.ListComp elt [⟨tg, it, ifs, 0⟩] scope pos) (eLc im g tt m (own.map (·.2))) :=
  PE.le (pe_lc (g := tGc X.K (own.map fun p : Str × Nat => p.2) g) (tt := tB X.K E0x tt) (te := tE X.K E0x m) hc hN hi ok hg ht he hs) fun σ H Q h => lc_read h
theorem s_lcM (hc : X.calm = true) (hN : X.N.Nodup) (ok : BlkOk X.N X.env.scope scope own) (hi : SI X E tg it im)
    (hg : ∀ (s : Shared) (H : Hp) (C : Addr) (cl : List (Str × Addr)) (fp : List Addr), SGc (X.blk s H scope (compEnvC scope cl C X.env) fp) (own.map (·.2)) tg g) (ht : ∀ (s : Shared) (H : Hp) (C : Addr) (cl : List (Str × Addr)) (fp : List Addr), STs (X.blk s H scope (compEnvC scope cl C X.env) fp) ifs tt)
    (he : ∀ (s : Shared) (H : Hp) (C : Addr) (cl : List (Str × Addr)) (fp : List Addr), SE (X.blk s H scope (compEnvC scope cl C X.env) fp) E0x elt m) (hs : ∀ x, foldedSetIterable it X.env x = pure x := by intro _; rfl) :
    SE X E (.ListComp elt [⟨tg, it, ifs, 0⟩] scope pos) (eLcM im g tt m (own.map (·.2))) :=
  PE.le (pe_lc (g := tGc X.K (own.map fun p : Str × Nat => p.2) g) (tt := tB X.K E0x tt) (te := tE X.K E0x m) hc hN hi ok hg ht he hs) fun σ H Q h => lcM_read h
theorem sm_setLc (i : Nat) {y : Str} {py : Pos} (hc : X.calm = true) (hN : X.N.Nodup) (ok : BlkOk X.N X.env.scope scope own) (hi : SI X E tg it im)
    (hg : ∀ (s : Shared) (H : Hp) (C : Addr) (cl : List (Str × Addr)) (fp : List Addr), SGc (X.blk s H scope (compEnvC scope cl C X.env) fp) (own.map (·.2)) tg g) (ht : ∀ (s : Shared) (H : Hp) (C : Addr) (cl : List (Str × Addr)) (fp : List Addr), STs (X.blk s H scope (compEnvC scope cl C X.env) fp) ifs tt)
    (he : ∀ (s : Shared) (H : Hp) (C : Addr) (cl : List (Str × Addr)) (fp : List Addr), SE (X.blk s H scope (compEnvC scope cl C X.env) fp) E0x elt m)
    (hy : X.N[i]? = some y := by rfl) (hyl : X.env.scope.names.lookup y = some .local := by rfl) (hsw : swapsWith (.ListComp elt [⟨tg, it, ifs, 0⟩] scope pos) (some (.Name y py)) spos.line X.env = pure true := by exact sw_true rfl rfl rfl (by decide +kernel)) (hs : ∀ x, foldedSetIterable it X.env x = pure x := by intro _; rfl) :
    SS X E (.Assign [.Name y py] (.ListComp elt [⟨tg, it, ifs, 0⟩] scope pos) spos) (cSet i (eLc im g tt m (own.map (·.2)))) := by
  refine PS.le (ps_setLc (g := tGc X.K (own.map fun p : Str × Nat => p.2) g) (tt := tB X.K E0x tt) (te := tE X.K E0x m) hc hN hy hyl hsw hi ok hg ht he hs) fun D σ H h => ?_
  refine lc_read ?_
  obtain ⟨F, ι, S, ρ, R, rs, h⟩ := h
  exact ⟨F, ι, S, ρ, R, rs, (h.exq rs).imp fun F1 ι1 H1 w S1 x1 R1 h v r => h.ok R1 _ ((rs.ext x1).set r i)⟩
theorem sm_setLcM (i : Nat) {y : Str} {py : Pos} (hc : X.calm = true) (hN : X.N.Nodup) (ok : BlkOk X.N X.env.scope scope own) (hi : SI X E tg it im)
    (hg : ∀ (s : Shared) (H : Hp) (C : Addr) (cl : List (Str × Addr)) (fp : List Addr), SGc (X.blk s H scope (compEnvC scope cl C X.env) fp) (own.map (·.2)) tg g) (ht : ∀ (s : Shared) (H : Hp) (C : Addr) (cl : List (Str × Addr)) (fp : List Addr), STs (X.blk s H scope (compEnvC scope cl C X.env) fp) ifs tt)
    (he : ∀ (s : Shared) (H : Hp) (C : Addr) (cl : List (Str × Addr)) (fp : List Addr), SE (X.blk s H scope (compEnvC scope cl C X.env) fp) E0x elt m)
    (hy : X.N[i]? = some y := by rfl) (hyl : X.env.scope.names.lookup y = some .local := by rfl) (hsw : swapsWith (.ListComp elt [⟨tg, it, ifs, 0⟩] scope pos) (some (.Name y py)) spos.line X.env = pure true := by exact sw_true rfl rfl rfl (by decide +kernel)) (hs : ∀ x, foldedSetIterable it X.env x = pure x := by intro _; rfl) :
    SS X E (.Assign [.Name y py] (.ListComp elt [⟨tg, it, ifs, 0⟩] scope pos) spos) (cSet i (eLcM im g tt m (own.map (·.2)))) := by
  refine PS.le (ps_setLc (g := tGc X.K (own.map fun p : Str × Nat => p.2) g) (tt := tB X.K E0x tt) (te := tE X.K E0x m) hc hN hy hyl hsw hi ok hg ht he hs) fun D σ H h => ?_
  refine lcM_read ?_
  obtain ⟨F, ι, S, ρ, R, rs, h⟩ := h
  exact ⟨F, ι, S, ρ, R, rs, (h.exq rs).imp fun F1 ι1 H1 w S1 x1 R1 h v r => h.ok R1 _ ((rs.ext x1).set r i)⟩
end

/-! ### defs -/
abbrev FM := List W → Sto → Out W
/-- what a def hands back -/
def fin : Out Fl → Out W
  | .ok (.rt w) S => .ok w S
  | .ok (.nx _) S => .ok (.d .none) S
  | .ok (.ex e _) S => .exc e S
  | _ => .bad
def defM (nN nP : Nat) (body : SM) : FM := fun ws S => if ws.length = nP then fin (body (ws.map some ++ List.replicate (nN - nP) none) S) else .bad
/-- a wish by the class, told by the class's name -/
abbrev byN (mg : Str → Option Value) (E : XK) : XN := fun n d H => ∀ C, mg n = some (.ref C) → E (.ref C) d H
def spM (K : PySem.W.Frag) (mg : Str → Option Value) (nP : Nat) (m : FM) : Sp := fun vs H Q E => ∃ F ι S ws, Rel K F ι S H ∧ RWs K F ι H ws vs ∧ ws.length = nP ∧ Post K (byN mg E) F ι H (m ws S) fun F' ι' H' w _ => ∀ v, RW K F' ι' H' w v → Q v H'
theorem RWs.start {K F ι H} : ∀ {ws : List W} {vs : List V} (n : Nat), RWs K F ι H ws vs → RS K F ι H (ws.map some ++ List.replicate n none) (vs.map some ++ List.replicate n none) := fun {ws vs} n r => by
  refine ⟨by simp [r.length], fun i w e => ?_⟩
  have hl := r.length
  by_cases h : i < ws.length
  · rw [List.getElem?_append_left (by simpa using h)] at e
    rw [List.getElem?_append_left (by simpa [← hl] using h)]
    rw [List.getElem?_map] at e
    cases q : ws[i]? with
    | none => rw [q] at e; cases e
    | some u =>
      rw [q] at e; cases e
      obtain ⟨v, e2, r2⟩ := r.get' q
      exact ⟨v, by rw [List.getElem?_map, e2]; rfl, r2⟩
  · rw [List.getElem?_append_right (by simp; omega)] at e
    rw [List.getElem?_replicate] at e
    split at e <;> cases e
section
variable {P : Program} {w : World} {K : PySem.W.Frag} {mg : Str → Option Value} {base : Heap}
theorem def_ok {x qual : Str} {st : Stmt} {f : Addr} {fd : FuncData} {N ps : List Str} {k : Nat} {body : SM} (Fn : Fun K x qual st f fd) (S : FnScope N ps (defScope st))
    (hbody : ∀ (cdv : Value) (A : Around) (outer : List Env) (s : Shared) (H : Hp) (E : XK), Room k (A.deeper (envOfC qual (defScope st) s.heap.objs.size f cdv)) →
      SSs (cxOf (L2.CX P w) P w K mg base N qual (defScope st) f cdv A outer s H E) (fun _ => byN mg E) (defBody st) body) : FnOk P w K mg base (L2.CX P w) (k + 1) f fd ps (spM K mg ps.length (defM N.length ps.length body)) := by
  refine Fn.okX S (fun vs H Q E h => ?_) (fun cdv A outer s H vs Q E hr h => ?_)
  · obtain ⟨F, ι, St, ws, R, r, hl, h⟩ := h
    rw [← r.length, hl]
  · refine ⟨_, hbody cdv A outer s H E hr, ?_⟩
    obtain ⟨F, ι, St, ws, R, r, hl, h⟩ := h
    have hl2 := r.length
    refine ⟨F, ι, St, _, R, r.start (N.length - vs.length), ?_⟩
    unfold defM at h
    rw [if_pos hl] at h
    rw [show N.length - vs.length = N.length - ps.length by omega]
    cases q : body (List.map some ws ++ List.replicate (N.length - ps.length) none) St with
    | bad => rw [q] at h; exact h.elim
    | exc e S' => rw [q] at h; exact h.elim
    | ok fl S' =>
      rw [q] at h
      cases fl with
      | nx ρ' => exact fun F' ι' H' x' R' σ' rs' => h F' ι' H' x' R' _ (.d .non)
      | rt u => exact fun F' ι' H' x' R' v rv => h F' ι' H' x' R' v rv
      | ex e ρ' => exact fun F' ι' H' x' R' σ' dx rs' er => h F' ι' H' dx x' R' er
      | bk ρ' => exact h.elim
      | ct ρ' => exact h.elim
end

/-! ### calls -/
/-- a plain value handed back by a call on its own store -/
def frzW (S : Sto) : W → Option W
  | .d x => some (.d x)
  | .ref n => match S[n]? with
    | some (.lst ws) => (unD ws).map fun xs => .d (.list xs)
    | _ => none
  | .cst v => some (.cst v)
  | .tup _ => none
  | .fl _ => none
def frzF (S : Sto) : Option (Str × W) → Option (Option (Str × W))
  | none => some none
  | some (f, w) => (frzW S w).map fun u => some (f, u)
/-- nothing of the store in it -/
def isD : W → Bool
  | .d _ => true
  | .cst _ => true
  | .fl _ => true
  | _ => false
def callE (f : FM) : List W → Sto → Out W := f
/-- on a store of its own -/
def callP (f : FM) : List W → Sto → Out W := fun ws S => if ws.all isD = true then (match f ws [] with
  | .ok w S' => match frzW S' w with
    | some u => .ok u S
    | none => .bad
  | .exc e S' => match e.fld with
    | none => .exc e S
    | some (fl, .d x) => .exc e S
    | _ => .bad
  | .bad => .bad) else .bad
def eCall (f : List W → Sto → Out W) (ms : AM) : EM := fun ρ S => (ms ρ S).bind fun ws S1 => f ws S1
section
variable {K : PySem.W.Frag} {F F' : FS} {ι ι' : List Addr} {S S' : Sto} {H H' : Hp}
theorem RWs.noRef : ∀ {ws : List W} {vs : List V}, RWs K F ι H ws vs → ws.all isD = true → RWs K F [] H ws vs
  | _, _, .nil, _ => .nil
  | _, _, .cons r t, h => by
    simp only [List.all_cons, Bool.and_eq_true] at h
    refine .cons ?_ (RWs.noRef t h.2)
    cases r with
    | d r => exact .d r
    | cst => exact .cst _
    | ref _ => cases h.1
    | tup _ _ => cases h.1
    | fl s r => exact .fl s r
/-- what a call on its own store leaves, seen from the caller -/
theorem Ext.own (R : Rel K F ι S H) (x : Ext F [] H F' ι' H') : Ext F ι H (fun a => F' a ∨ a ∈ ι') ι H' := by
  refine ⟨⟨fun a h => .inl (x.fs a h), x.ag, ⟨[], by simp⟩⟩, fun a o h _ => x.keep a o h (by simp), fun a h => ?_, fun a h => .inl h, x.st⟩
  rcases h with h | h
  · exact x.nf a h
  · rcases x.ni a h with z | z
    · simp at z
    · exact .inr z
theorem Rel.own (R : Rel K F ι S H) (x : Ext F [] H F' ι' H') (R' : Rel K F' ι' S' H') : Rel K (fun a => F' a ∨ a ∈ ι') ι S H' := by
  refine ⟨R.len, R.nd, fun a h f => ?_, fun a f => ?_, fun m a ob h1 h2 => ?_⟩
  · rcases f with f | f
    · rcases x.nf a f with z | z
      · exact R.dj a h z
      · exact R.there h z
    · rcases x.ni a f with z | z
      · simp at z
      · exact R.there h z
  · rcases f with f | f
    · exact R'.ft a f
    · exact R'.there f
  · have hs := (R.cell m a ob h1 h2).some
    refine (R.cell m a ob h1 h2).wk (Ext.own R x).toWk ?_
    cases q : H a with
    | none => exact absurd q hs
    | some o => exact x.keep a o q (by simp)
theorem RW.frz (R' : Rel K F' ι' S' H') {w u : W} {v : V} (r : RW K F' ι' H' w v) (e : frzW S' w = some u) : RW K (fun a => F' a ∨ a ∈ ι') ι H' u v := by
  have wk : Wk F' ι' H' (fun a => F' a ∨ a ∈ ι') ι' H' := ⟨fun _ h => .inl h, .refl, ⟨[], by simp⟩⟩
  cases r with
  | d r => cases e; exact .d (r.wk wk)
  | cst => cases e; exact .cst _
  | tup _ _ => cases e
  | fl _ _ => cases e
  | ref hn =>
    rename_i n a
    simp only [frzW] at e
    split at e
    · rename_i ws hs
      obtain ⟨vs, h1, h2, h3⟩ := R'.cell n a _ hn hs
      cases q : unD ws with
      | none => rw [q] at e; cases e
      | some xs =>
        rw [q] at e; cases e
        rw [unD_eq q] at h2 h3
        refine .d (.lst (.mk' ?_ (.inr (List.mem_of_getElem? hn)) h1) (h2.toD.wk wk))
        rw [← h2.toD.length]; simpa using h3
    · cases e
end
section
variable {X : Cx} {E : EX} {pos p : Pos} {e : Expr} {es : List Expr} {ms : AM} {x : Str} {f : Addr} {fd : FuncData} {k : Nat} {ps : List Str} {m : FM}
theorem pureC {K : PySem.W.Frag} {mg : Str → Option Value} {Ex : XK} {F : FS} {ι : List Addr} {S : Sto} {H : Hp} {ws : List W} {vs : List V} {Q : VK} {n : Nat} (R : Rel K F ι S H) (r : RWs K F ι H ws vs) (hl : ws.length = n)
    (h : Post K (byN mg Ex) F ι H (callP m ws S) fun F' ι' H' w _ => ∀ v, RW K F' ι' H' w v → Q v H') : spM K mg n m vs H Q Ex := by
  unfold callP at h
  split at h
  · rename_i hD
    refine ⟨F, [], [], ws, .nil R.ft, r.noRef hD, hl, ?_⟩
    cases q : m ws [] with
    | bad => rw [q] at h; exact h.elim
    | ok w S' =>
      rw [q] at h
      simp only at h
      split at h
      · rename_i u e
        exact fun F' ι' H' x' R' v rv => h _ _ _ (Ext.own R x') (R.own x' R') v (rv.frz R' e)
      · exact h.elim
    | exc e S' =>
      rw [q] at h
      simp only at h
      intro F' ι' H' dx x' R' er
      split at h
      · rename_i e0
        refine h _ _ _ dx (Ext.own R x') (R.own x' R') ?_
        unfold ER at er ⊢
        rw [e0] at er ⊢
        exact er
      · rename_i fl z e0
        refine h _ _ _ dx (Ext.own R x') (R.own x' R') ?_
        unfold ER at er ⊢
        rw [e0] at er ⊢
        obtain ⟨a, v, h1, h2, h3⟩ := er
        refine ⟨a, v, h1, h2, ?_⟩
        cases h3 with
        | d r => exact .d (r.wk (⟨fun _ h => .inl h, .refl, ⟨[], by simp⟩⟩ : Wk F' ι' H' _ ι' H'))
      · exact h.elim
  · exact h.elim
/-- f(..): of a def of the module -/
theorem s_callE {Wt : WX} (tk : Tk X E Wt) (G : FnOk X.prog X.w X.K X.mg X.base (L2.CX X.prog X.w) k f fd ps (spM X.K X.mg ps.length m)) (hr : Room k X.A) (hm : X.mg x = some (.ref f)) (hk : PySem.W.keepIn X.K (.ref f) = true) (hb : Binds X.K fd ps [])
    (ha : SA X E (e :: es) ms) (hn : (e :: es).length = ps.length := by rfl) (hg : Gl X x := by rfl) (hdb : (x == ("__debug__" : Str)) = false := by decide) (he : starEach (e :: es) X.env = (false, eval e X.env) :: starEach es X.env := by rfl) (hpl : (backTo pos (starEach es X.env)).any (·.1) = false := by rfl)
    (hlen : ∀ ρ S ws S', ms ρ S = .ok ws S' → ws.length = ps.length) : SE X E (.Call (.Name x p) (e :: es) [] pos) (eCall (callE m) ms) := by
  refine PE.le (pe_callS (E := WE Wt) G hr hg hm hk hb (fun σ => passAt tk.tk σ) ha hdb he hpl) fun σ H Q h => ?_
  obtain ⟨F, ι, S, ρ, R, rs, h⟩ := h
  refine ⟨F, ι, S, ρ, R, rs, ?_⟩
  cases q : ms ρ S with
  | bad => unfold eCall at h; rw [q] at h; exact h.elim
  | exc e S1 => unfold eCall at h; rw [q] at h; exact h
  | ok ws S1 =>
    unfold eCall at h; rw [q] at h
    intro F1 ι1 H1 x1 R1 vs r
    exact ⟨F1, ι1, S1, ws, R1, r, hlen _ _ _ _ q, (Post.ext (o := callE m ws S1) h x1).wish fun n d H h C hm => tk.lk n C d σ H hm h⟩
theorem s_callP {Wt : WX} (tk : Tk X E Wt) (G : FnOk X.prog X.w X.K X.mg X.base (L2.CX X.prog X.w) k f fd ps (spM X.K X.mg ps.length m)) (hr : Room k X.A) (hm : X.mg x = some (.ref f)) (hk : PySem.W.keepIn X.K (.ref f) = true) (hb : Binds X.K fd ps [])
    (ha : SA X E (e :: es) ms) (hn : (e :: es).length = ps.length := by rfl) (hg : Gl X x := by rfl) (hdb : (x == ("__debug__" : Str)) = false := by decide) (he : starEach (e :: es) X.env = (false, eval e X.env) :: starEach es X.env := by rfl) (hpl : (backTo pos (starEach es X.env)).any (·.1) = false := by rfl)
    (hlen : ∀ ρ S ws S', ms ρ S = .ok ws S' → ws.length = ps.length) : SE X E (.Call (.Name x p) (e :: es) [] pos) (eCall (callP m) ms) := by
  refine PE.le (pe_callS (E := WE Wt) G hr hg hm hk hb (fun σ => passAt tk.tk σ) ha hdb he hpl) fun σ H Q h => ?_
  obtain ⟨F, ι, S, ρ, R, rs, h⟩ := h
  refine ⟨F, ι, S, ρ, R, rs, ?_⟩
  cases q : ms ρ S with
  | bad => unfold eCall at h; rw [q] at h; exact h.elim
  | exc e S1 => unfold eCall at h; rw [q] at h; exact h
  | ok ws S1 =>
    unfold eCall at h; rw [q] at h
    intro F1 ι1 H1 x1 R1 vs r
    exact pureC R1 r (hlen _ _ _ _ q) ((Post.ext (o := callP m ws S1) h x1).wish fun n d H h C hm => tk.lk n C d σ H hm h)
end
/-- how many arguments come -/
theorem alen_nil : ∀ ρ S ws S', aNil ρ S = .ok ws S' → ws.length = 0 := fun ρ S ws S' h => by cases h; rfl
theorem alen_cons {m : EM} {ms : AM} {n : Nat} (h : ∀ ρ S ws S', ms ρ S = .ok ws S' → ws.length = n) : ∀ ρ S ws S', aCons m ms ρ S = .ok ws S' → ws.length = n + 1 := fun ρ S ws S' e => by
  unfold aCons at e
  cases q : m ρ S with
  | ok w S1 =>
    rw [q] at e
    simp only [Out.bind] at e
    cases q2 : ms ρ S1 with
    | ok us S2 => rw [q2] at e; cases e; simp [h _ _ _ _ q2]
    | exc _ _ => rw [q2] at e; cases e
    | bad => rw [q2] at e; cases e
  | exc _ _ => rw [q] at e; cases e
  | bad => rw [q] at e; cases e
end Sh
end

section
namespace Sh
open PySem PySem.Spec PyProof.Rows L2
open Classical

/-! ### shapes of values -/
section
variable {K : PySem.W.Frag} {F : FS} {ι : List Addr} {S : Sto} {H : Hp} {v : V}
theorem RW.int_of {i} (h : RW K F ι H (.d (.int i)) v) : v = .int i := by cases h with | d h => cases h; rfl
theorem RW.str_of {i} (h : RW K F ι H (.d (.str i)) v) : v = .str i := by cases h with | d h => cases h; rfl
theorem RW.non_of (h : RW K F ι H (.d .none) v) : v = .non := by cases h with | d h => cases h; rfl
theorem RW.lst_of {xs} (h : RW K F ι H (.d (.list xs)) v) : ∃ a vs, v = .ref a ∧ StL K F H a vs ∧ RDs K F H xs vs := by cases h with | d h => cases h with | lst s r => exact ⟨_, _, rfl, s, r⟩
theorem RW.fl_of {xs} (h : RW K F ι H (.fl xs) v) : ∃ a vs, v = .ref a ∧ StF K F H a vs ∧ RDs K F H xs vs := by cases h with | fl s r => exact ⟨_, _, rfl, s, r⟩
theorem RW.ref_of {n} (R : Rel K F ι S H) (h : RW K F ι H (.ref n) v) {o} (e : S[n]? = some o) : ∃ a, v = .ref a ∧ ι[n]? = some a ∧ RO K F ι H a o := by
  cases h with | ref h => exact ⟨_, rfl, h, R.cell _ _ _ h e⟩
/-- a new list that is never changed -/
theorem new_lst (R : Rel K F ι S H) {p : Addr} {xs : List PyData} {vs : List V} (n : H p = none) (r : RDs K F H xs vs) (hz : xs.length ≤ sizeLine) :
    Ext F ι H (addF F p) ι (upd H p (.lst vs)) ∧ Rel K (addF F p) ι S (upd H p (.lst vs)) ∧ RW K (addF F p) ι (upd H p (.lst vs)) (.d (.list xs)) (.ref p) := by
  have x := Ext.frz (F := F) (ι := ι) (o := .lst vs) n
  exact ⟨x, R.frz n, .d (.lst (.mk' (by rw [← r.length]; exact hz) (.inl rfl) upd_same) (r.ext x))⟩
theorem new_tup (R : Rel K F ι S H) {p : Addr} {ws : List W} {vs : List V} (n : H p = none) (r : RWs K F ι H ws vs) (hz : ws.length ≤ sizeLine) :
    Ext F ι H (addF F p) ι (upd H p (.tup vs)) ∧ Rel K (addF F p) ι S (upd H p (.tup vs)) ∧ RW K (addF F p) ι (upd H p (.tup vs)) (mkTup ws) (.ref p) := by
  have x := Ext.frz (F := F) (ι := ι) (o := .tup vs) n
  exact ⟨x, R.frz n, RW.mkTup (.mk' (by rw [← r.length]; exact hz) (.inl rfl) upd_same) (r.ext x)⟩
end
@[simp] theorem mkTup_d (xs : List PyData) : mkTup (xs.map .d) = .d (.tuple xs) := by simp [mkTup]

/-! ### + - * // % ** -/
def opAdd : Op2 := fun x y S => match x, y with
  | .d (.int a), .d (.int b) => .ok (.d (.int (a + b))) S
  | .d (.str a), .d (.str b) => if a.length + b.length ≤ sizeLine then .ok (.d (.str (a ++ b))) S else .bad
  | .d (.list a), .d (.list b) => if a.length + b.length ≤ sizeLine then .ok (.d (.list (a ++ b))) S else .bad
  | x, y => match tupOf x, tupOf y with
    | some a, some b => if a.length + b.length ≤ sizeLine then .ok (mkTup (a ++ b)) S else .bad
    | _, _ => .bad
def opSub : Op2 := fun x y S => match x, y with
  | .d (.int a), .d (.int b) => .ok (.d (.int (a - b))) S
  | _, _ => .bad
noncomputable def opMul : Op2 := fun x y S => match x, y with
  | .d (.int a), .d (.int b) => if CMul a b ∨ CMulW a b then .ok (.d (.int (a * b))) S else .bad
  | .d (.list a), .d (.int k) => if In63 k ∧ a.length * k.toNat ≤ sizeLine then .ok (.d (.list (List.replicate k.toNat a).flatten)) S else .bad
  | .d (.tuple a), .d (.int k) => if a ≠ [] ∧ 2 ≤ k ∧ k ≤ 1000 ∧ a.length ≤ 1000 then .ok (.d (.tuple (List.replicate k.toNat a).flatten)) S else .bad
  | _, _ => .bad
noncomputable def opDiv : Op2 := fun x y S => match x, y with
  | .d (.int a), .d (.int b) => if CDivW a b then .ok (.d (.int (a / b))) S else .bad
  | _, _ => .bad
def opMod : Op2 := fun x y S => match x, y with
  | .d (.int a), .d (.int b) => if 0 < b then .ok (.d (.int (a % b))) S else .bad
  | _, _ => .bad
noncomputable def opPow : Op2 := fun x y S => match x, y with
  | .d (.int a), .d (.int b) => if CPow a b then .ok (.d (.int (a ^ b.toNat))) S else .bad
  | _, _ => .bad
section
variable {X : Cx}
theorem OpR.le {f : Value → Value → Sem Value} {r r' : R2} (h : OpR X f r) (k : ∀ x y H Q, r' x y H Q → r x y H Q) : OpR X f r' := fun pins s σ H x y v u Q I a b q => h pins s σ H x y v u Q I a b (k x y H Q q)
abbrev rAddS (K : PySem.W.Frag) : R2 := fun x y H Q => (((∃ i j, x = .int i ∧ y = .int j ∧ Q (.int (i + j)) H) ∨ (∃ i j, x = .str i ∧ y = .str j ∧ i.length + j.length ≤ sizeLine ∧ Q (.str (i ++ j)) H)) ∨ rCat x y H Q) ∨ rCatA K x y H Q
theorem op_addS : OpR X (binaryOp .Add) (rAddS X.K) := ((op_add.or op_add_str).or op_cat).or op_catA
theorem tup_of_ne {w : W} (h : tupOf w = none) : (∀ xs, w ≠ .d (.tuple xs)) ∧ ∀ ws, w ≠ .tup ws := by
  constructor
  · rintro xs rfl; cases h
  · rintro xs rfl; cases h
theorem mkTup_same {K F ι H} {w : W} {ws : List W} {v : V} (e : tupOf w = some ws) (r : RW K F ι H w v) : RW K F ι H (mkTup ws) v := by
  obtain ⟨a, vs, rfl, st, rr⟩ := r.tup_of e
  exact RW.mkTup st rr
theorem ok_add : Ok2 X (rAddS X.K) opAdd := by
  intro E F ι S H x y v u Q R rx ry h
  unfold opAdd at h
  split at h
  · obtain rfl := rx.int_of; obtain rfl := ry.int_of
    exact .inl (.inl (.inl ⟨_, _, rfl, rfl, h.ok R _ (.d (.int _))⟩))
  · obtain rfl := rx.str_of; obtain rfl := ry.str_of
    split at h
    · rename_i hz; exact .inl (.inl (.inr ⟨_, _, rfl, rfl, hz, h.ok R _ (.d (.str _))⟩))
    · exact h.elim
  · obtain ⟨a, vs, rfl, sa, ra⟩ := rx.lst_of; obtain ⟨b, us, rfl, sb, rb⟩ := ry.lst_of
    split at h
    · rename_i hz
      refine .inl (.inr ⟨a, b, vs, us, rfl, rfl, sa.tr, sb.tr, by rw [← ra.length, ← rb.length]; exact hz, fun p n => ?_⟩)
      obtain ⟨x1, R1, r1⟩ := new_lst R n (ra.append rb) (by rw [List.length_append]; exact hz)
      exact h _ _ _ x1 R1 _ r1
    · exact h.elim
  · split at h
    · rename_i a b ea eb
      split at h
      · rename_i hz
        obtain ⟨p, vs, rfl, sa, ra⟩ := rx.tup_of ea; obtain ⟨q, us, rfl, sb, rb⟩ := ry.tup_of eb
        have la := ra.length; have lb := rb.length
        refine .inr ⟨p, q, vs, us, rfl, rfl, sa.now, sb.now, by rw [← la, ← lb]; exact hz, fun e => ?_, fun e1 e2 => ?_, fun e1 e2 c n => ?_⟩
        · have : a = [] := by rw [e] at la; exact List.length_eq_zero_iff.mp la
          rw [this, List.nil_append] at h
          exact h.ok R _ (mkTup_same eb ry)
        · have : b = [] := by rw [e2] at lb; exact List.length_eq_zero_iff.mp lb
          rw [this, List.append_nil] at h
          exact h.ok R _ (mkTup_same ea rx)
        · obtain ⟨x1, R1, r1⟩ := new_tup R n (ra.append rb) (by rw [List.length_append]; exact hz)
          exact h _ _ _ x1 R1 _ r1
      · exact h.elim
    · exact h.elim
theorem ok_sub : Ok2 X (rI0 fun i j => .int (i - j)) opSub := by
  intro E F ι S H x y v u Q R rx ry h
  unfold opSub at h
  split at h
  · obtain rfl := rx.int_of; obtain rfl := ry.int_of
    exact ⟨_, _, rfl, rfl, h.ok R _ (.d (.int _))⟩
  · exact h.elim
abbrev rMulS (K : PySem.W.Frag) : R2 := fun x y H Q => ((rI CMul (fun i j => .int (i * j)) x y H Q ∨ rI CMulW (fun i j => .int (i * j)) x y H Q) ∨ rRep x y H Q) ∨ rRepT K x y H Q
theorem op_mulS : OpR X (binaryOp .Mult) (rMulS X.K) := ((op_mul.or op_mulW).or op_rep).or op_repT
theorem RDs.rep {K F H} {xs : List PyData} {vs : List V} (r : RDs K F H xs vs) : ∀ k : Nat, RDs K F H (List.replicate k xs).flatten (List.replicate k vs).flatten
  | 0 => .nil
  | k + 1 => by rw [List.replicate_succ, List.replicate_succ, List.flatten_cons, List.flatten_cons]; exact r.append (RDs.rep r k)
theorem rep_len {α : Type} (xs : List α) (k : Nat) : (List.replicate k xs).flatten.length = xs.length * k := by
  simp [List.length_flatten, List.map_replicate, List.sum_replicate_nat, Nat.mul_comm]
theorem ok_mul : Ok2 X (rMulS X.K) opMul := by
  intro E F ι S H x y v u Q R rx ry h
  unfold opMul at h
  split at h
  · obtain rfl := rx.int_of; obtain rfl := ry.int_of
    split at h
    · rename_i hc
      rcases hc with hc | hc
      · exact .inl (.inl (.inl ⟨_, _, rfl, rfl, hc, h.ok R _ (.d (.int _))⟩))
      · exact .inl (.inl (.inr ⟨_, _, rfl, rfl, hc, h.ok R _ (.d (.int _))⟩))
    · exact h.elim
  · obtain ⟨a, vs, rfl, sa, ra⟩ := rx.lst_of; obtain rfl := ry.int_of
    split at h
    · rename_i hz
      refine .inl (.inr ⟨a, _, vs, rfl, rfl, sa.tr, hz.1.1, hz.1.2, by rw [← ra.length]; exact hz.2, fun p n => ?_⟩)
      obtain ⟨x1, R1, r1⟩ := new_lst R n (ra.rep _) (by rw [rep_len]; exact hz.2)
      exact h _ _ _ x1 R1 _ r1
    · exact h.elim
  · rename_i xs k
    obtain ⟨a, vs, rfl, sa, ra⟩ := rx.tup_of (ws := _) rfl; obtain rfl := ry.int_of
    split at h
    · rename_i hz
      have la := ra.length
      simp only [List.length_map] at la
      refine .inr ⟨a, _, vs, rfl, rfl, sa.now, fun e => hz.1 ?_, hz.2.1, hz.2.2.1, by rw [← la]; exact hz.2.2.2, fun p n => ?_⟩
      · rw [e] at la; exact List.length_eq_zero_iff.mp la
      · have hl : (List.replicate k.toNat xs).flatten.length ≤ sizeLine := by
          rw [rep_len]
          refine Nat.le_trans (Nat.mul_le_mul hz.2.2.2 (by omega : _ ≤ 1000)) (by decide)
        obtain ⟨x1, R1, r1⟩ := new_tup R n (RWs.ofD (ra.toD.rep k.toNat)) (by rw [List.length_map]; exact hl)
        rw [mkTup_d] at r1
        exact h _ _ _ x1 R1 _ r1
    · exact h.elim
  · exact h.elim
theorem ok_div : Ok2 X (rI CDivW fun i j => .int (i / j)) opDiv := by
  intro E F ι S H x y v u Q R rx ry h
  unfold opDiv at h
  split at h
  · obtain rfl := rx.int_of; obtain rfl := ry.int_of
    split at h
    · rename_i hc; exact ⟨_, _, rfl, rfl, hc, h.ok R _ (.d (.int _))⟩
    · exact h.elim
  · exact h.elim
theorem ok_mod : Ok2 X (rI (fun _ j => 0 < j) fun i j => .int (i % j)) opMod := by
  intro E F ι S H x y v u Q R rx ry h
  unfold opMod at h
  split at h
  · obtain rfl := rx.int_of; obtain rfl := ry.int_of
    split at h
    · rename_i hc; exact ⟨_, _, rfl, rfl, hc, h.ok R _ (.d (.int _))⟩
    · exact h.elim
  · exact h.elim
theorem ok_pow : Ok2 X (rI CPow fun i j => .int (i ^ j.toNat)) opPow := by
  intro E F ι S H x y v u Q R rx ry h
  unfold opPow at h
  split at h
  · obtain rfl := rx.int_of; obtain rfl := ry.int_of
    split at h
    · rename_i hc; exact ⟨_, _, rfl, rfl, hc, h.ok R _ (.d (.int _))⟩
    · exact h.elim
  · exact h.elim
end
def opNeg : Op1 := fun x S => match x with
  | .d (.int a) => .ok (.d (.int (-a))) S
  | _ => .bad
section
variable {X : Cx} {E : EX} {pos : Pos} {a b : Expr} {ma mb m : EM}
theorem s_add (ha : SE X E a ma) (hb : SE X E b mb) : SE X E (.BinOp a .Add b pos) (eOp2 opAdd ma mb) := s_bin op_addS ok_add ha hb
theorem s_sub (ha : SE X E a ma) (hb : SE X E b mb) : SE X E (.BinOp a .Sub b pos) (eOp2 opSub ma mb) := s_bin op_sub ok_sub ha hb
theorem s_mul (ha : SE X E a ma) (hb : SE X E b mb) : SE X E (.BinOp a .Mult b pos) (eOp2 opMul ma mb) := s_bin op_mulS ok_mul ha hb
theorem s_div (ha : SE X E a ma) (hb : SE X E b mb) : SE X E (.BinOp a .FloorDiv b pos) (eOp2 opDiv ma mb) := s_bin op_fdivW ok_div ha hb
theorem s_mod (ha : SE X E a ma) (hb : SE X E b mb) : SE X E (.BinOp a .Mod b pos) (eOp2 opMod ma mb) := s_bin op_mod ok_mod ha hb
theorem s_pow (ha : SE X E a ma) (hb : SE X E b mb) : SE X E (.BinOp a .Pow b pos) (eOp2 opPow ma mb) := s_bin op_pow ok_pow ha hb
theorem s_neg (ha : SE X E a ma) : SE X E (.UnaryOp .USub a pos) (eOp1 opNeg ma) := by
  refine PE.le (pe_un un_neg ha) fun σ H Q h => ?_
  obtain ⟨F, ι, S, ρ, R, rs, h⟩ := h
  refine ⟨F, ι, S, ρ, R, rs, h.bind.imp fun F1 ι1 H1 w S1 x1 R1 h v r => ?_⟩
  unfold opNeg at h
  split at h
  · obtain rfl := r.int_of; exact ⟨_, rfl, h.ok R1 _ (.d (.int _))⟩
  · exact h.elim
end

/-! ### comparisons -/
def shp (x y : PyData) : Prop := SeqAt.shaped x = true ∧ SeqAt.shaped y = true
noncomputable def opEq : Op2 := fun x y S => match x, y with
  | .d a, .d b => if shp a b then .ok (.d (.bool (PyData.eqv a b))) S else .bad
  | _, _ => .bad
noncomputable def opNe : Op2 := fun x y S => match x, y with
  | .d a, .d b => if shp a b then .ok (.d (.bool (!PyData.eqv a b))) S else .bad
  | _, _ => .bad
def opLt : Op2 := fun x y S => match x, y with
  | .d (.int a), .d (.int b) => .ok (.d (.bool (decide (a < b)))) S
  | .d (.str a), .d (.str b) => .ok (.d (.bool (decide (a.cps.toList < b.cps.toList)))) S
  | _, _ => .bad
def opInt (p : Int → Int → Bool) : Op2 := fun x y S => match x, y with
  | .d (.int a), .d (.int b) => .ok (.d (.bool (p a b))) S
  | _, _ => .bad
abbrev opLe := opInt fun i j => decide (i ≤ j)
abbrev opGt := opInt fun i j => decide (j < i)
abbrev opGe := opInt fun i j => decide (j ≤ i)
section
variable {X : Cx}
theorem ok_eq : Ok2 X (rEqD X.K) opEq := by
  intro E F ι S H x y v u Q R rx ry h
  unfold opEq at h
  split at h
  · split at h
    · rename_i hs; exact ⟨_, _, rx.pure.toDp, ry.pure.toDp, hs.1, hs.2, h.ok R _ (.d (.bl _))⟩
    · exact h.elim
  · exact h.elim
theorem ok_ne : Ok2 X (rNeD X.K) opNe := by
  intro E F ι S H x y v u Q R rx ry h
  unfold opNe at h
  split at h
  · split at h
    · rename_i hs; exact ⟨_, _, rx.pure.toDp, ry.pure.toDp, hs.1, hs.2, h.ok R _ (.d (.bl _))⟩
    · exact h.elim
  · exact h.elim
theorem ok_int {p : Int → Int → Bool} : Ok2 X (rI0 fun i j => .bl (p i j)) (opInt p) := by
  intro E F ι S H x y v u Q R rx ry h
  unfold opInt at h
  split at h
  · obtain rfl := rx.int_of; obtain rfl := ry.int_of
    exact ⟨_, _, rfl, rfl, h.ok R _ (.d (.bl _))⟩
  · exact h.elim
abbrev rLtS : R2 := fun x y H Q => rI0 (fun i j => .bl (decide (i < j))) x y H Q ∨ (∃ i j, x = .str i ∧ y = .str j ∧ Q (.bl (decide (i.cps.toList < j.cps.toList))) H)
theorem op_ltS : OpR X (compareOp .Lt) rLtS := op_lt.or op_lt_str
theorem ok_lt : Ok2 X rLtS opLt := by
  intro E F ι S H x y v u Q R rx ry h
  unfold opLt at h
  split at h
  · obtain rfl := rx.int_of; obtain rfl := ry.int_of
    exact .inl ⟨_, _, rfl, rfl, h.ok R _ (.d (.bl _))⟩
  · obtain rfl := rx.str_of; obtain rfl := ry.str_of
    exact .inr ⟨_, _, rfl, rfl, h.ok R _ (.d (.bl _))⟩
  · exact h.elim
def isNone : PyData → Bool
  | .none => true
  | _ => false
def opIsN : Op2 := fun x y S => match x, y with
  | .d a, .d .none => .ok (.d (.bool (isNone a))) S
  | .ref _, .d .none => .ok (.d (.bool false)) S
  | _, _ => .bad
def opNotN : Op2 := fun x y S => match x, y with
  | .d a, .d .none => .ok (.d (.bool (!isNone a))) S
  | .ref _, .d .none => .ok (.d (.bool true)) S
  | _, _ => .bad
theorem RD.isN {K F H a v} (r : RD K F H a v) : decide (v = V.non) = isNone a := by cases r <;> simp [isNone]
theorem RD.notN {K F H a v} (r : RD K F H a v) : (!decide (v = V.non)) = !isNone a := by cases r <;> simp [isNone]
theorem ok_isN : Ok2 X (fun x y H Q => y = .non ∧ Q (.bl (decide (x = .non))) H) opIsN := by
  intro E F ι S H x y v u Q R rx ry h
  unfold opIsN at h
  split at h
  · obtain rfl := ry.non_of
    exact ⟨rfl, h.ok R _ (.d (by rw [rx.pure.isN]; exact .bl _))⟩
  · obtain rfl := ry.non_of
    cases rx
    exact ⟨rfl, h.ok R _ (.d (by simp only [reduceCtorEq, decide_false]; exact .bl _))⟩
  · exact h.elim
theorem ok_notN : Ok2 X (fun x y H Q => y = .non ∧ Q (.bl (!decide (x = .non))) H) opNotN := by
  intro E F ι S H x y v u Q R rx ry h
  unfold opNotN at h
  split at h
  · obtain rfl := ry.non_of
    exact ⟨rfl, h.ok R _ (.d (by rw [rx.pure.notN]; exact .bl _))⟩
  · obtain rfl := ry.non_of
    cases rx
    exact ⟨rfl, h.ok R _ (.d (by simp only [reduceCtorEq, decide_false, Bool.not_false]; exact .bl _))⟩
  · exact h.elim
def opIsB : Op2 := fun x y S => match x, y with
  | .d (.bool a), .d (.bool b) => .ok (.d (.bool (a == b))) S
  | _, _ => .bad
theorem ok_isB : Ok2 X rIsB opIsB := by
  intro E F ι S H x y v u Q R rx ry h
  unfold opIsB at h
  split at h
  · obtain rfl := rx.bl_of; obtain rfl := ry.bl_of
    exact ⟨_, _, rfl, rfl, h.ok R _ (.d (by rw [← Bool.beq_eq_decide_eq]; exact .bl _))⟩
  · exact h.elim
def opNotB : Op2 := fun x y S => match x, y with
  | .d (.bool a), .d (.bool b) => .ok (.d (.bool (!(a == b)))) S
  | _, _ => .bad
theorem ok_notB : Ok2 X rNotB opNotB := by
  intro E F ι S H x y v u Q R rx ry h
  unfold opNotB at h
  split at h
  · obtain rfl := rx.bl_of; obtain rfl := ry.bl_of
    exact ⟨_, _, rfl, rfl, h.ok R _ (.d (by rw [← Bool.beq_eq_decide_eq]; exact .bl _))⟩
  · exact h.elim
/-- x in y -/
noncomputable def opIn (neg : Bool) : Op2 := fun x y S => match x, y with
  | .d (.str c), .d (.str z) => .ok (.d (.bool (neg ^^ !(Builtin.Str.occurrences z c 0 z.length 1).isEmpty))) S
  | .d a, .d (.list xs) => if shp a (.list xs) then .ok (.d (.bool (neg ^^ xs.any fun z => PyData.eqv z a))) S else .bad
  | _, _ => .bad
abbrev rInS (K : PySem.W.Frag) : R2 := fun x y H Q => (∃ i j, x = .str i ∧ y = .str j ∧ Q (.bl (!(Builtin.Str.occurrences j i 0 j.length 1).isEmpty)) H) ∨ rInD K x y H Q
abbrev rNotInS (K : PySem.W.Frag) : R2 := fun x y H Q => (∃ i j, x = .str i ∧ y = .str j ∧ Q (.bl (!(!(Builtin.Str.occurrences j i 0 j.length 1).isEmpty))) H) ∨ rNotInD K x y H Q
theorem op_inS (hu : X.A.units + 65 < cLine) : OpR X (compareOp .In) (rInS X.K) := op_in_str.or (op_inD hu)
theorem op_notInS (hu : X.A.units + 65 < cLine) : OpR X (compareOp .NotIn) (rNotInS X.K) := op_notIn_str.or (op_notInD hu)
theorem ok_in : Ok2 X (rInS X.K) (opIn false) := by
  intro E F ι S H x y v u Q R rx ry h
  unfold opIn at h
  split at h
  · obtain rfl := rx.str_of; obtain rfl := ry.str_of
    refine .inl ⟨_, _, rfl, rfl, h.ok R _ (.d ?_)⟩
    rw [Bool.false_xor]; exact .bl _
  · split at h
    · rename_i hs
      refine .inr ⟨_, _, rx.pure.toDp, ry.pure.toDp, hs.1, hs.2, h.ok R _ (.d ?_)⟩
      rw [Bool.false_xor]; exact .bl _
    · exact h.elim
  · exact h.elim
theorem ok_notIn : Ok2 X (rNotInS X.K) (opIn true) := by
  intro E F ι S H x y v u Q R rx ry h
  unfold opIn at h
  split at h
  · obtain rfl := rx.str_of; obtain rfl := ry.str_of
    refine .inl ⟨_, _, rfl, rfl, h.ok R _ (.d ?_)⟩
    rw [Bool.true_xor]; exact .bl _
  · split at h
    · rename_i hs
      refine .inr ⟨_, _, rx.pure.toDp, ry.pure.toDp, hs.1, hs.2, h.ok R _ (.d ?_)⟩
      rw [Bool.true_xor]; exact .bl _
    · exact h.elim
  · exact h.elim
end
end Sh
end

section
namespace Sh
open PySem PySem.Spec PyProof.Rows L2
open Classical

/-! ### calls of built-ins by values -/
abbrev CF := List W → Sto → Out W
def OkC (X : Cx) (r : List V → Hp → VK → Prop) (f : CF) : Prop := ∀ E F ι S H ws vs Q, Rel X.K F ι S H → RWs X.K F ι H ws vs → Post X.K E F ι H (f ws S) (fun F' ι' H' w _ => ∀ z, RW X.K F' ι' H' w z → Q z H') → r vs H Q
section
variable {X : Cx} {E : EX} {pos p : Pos} {e : Expr} {es : List Expr} {ms : AM} {x : Str} {f : CF} {r : List V → Hp → VK → Prop} {id T : String}
theorem call_le (hf : OkC X r f) {σ : L2.St} {H : Hp} {Q : VK} (h : tE X.K E (eCall f ms) σ H Q) : tCB r (tA X.K E ms) σ H Q := by
  obtain ⟨F, ι, S, ρ, R, rs, h⟩ := h
  exact ⟨F, ι, S, ρ, R, rs, h.bind.imp fun F1 ι1 H1 ws S1 x1 R1 h vs r => hf _ F1 ι1 S1 H1 ws vs Q R1 r h⟩
theorem s_callB (hc : CallR X (.builtin id) r) (hf : OkC X r f) (hm : X.mg x = none) (ha : SA X E (e :: es) ms) (hv : bootBuiltins x = some (.builtin id) := by decide +kernel) (hg : Gl X x := by rfl) (hn : x ≠ "__name__" := by decide) (hdb : (x == ("__debug__" : Str)) = false := by decide)
    (he : starEach (e :: es) X.env = (false, eval e X.env) :: starEach es X.env := by rfl) (hpl : (backTo pos (starEach es X.env)).any (·.1) = false := by rfl) : SE X E (.Call (.Name x p) (e :: es) [] pos) (eCall f ms) :=
  PE.le (pe_callB hc hg hm hv ha hn hdb he hpl) fun σ H Q h => call_le hf h
theorem s_callTy (hc : CallR X (.type T) r) (hf : OkC X r f) (hm : X.mg x = none) (ha : SA X E (e :: es) ms) (hv : bootBuiltins x = some (.type T) := by decide +kernel) (hg : Gl X x := by rfl) (hn : x ≠ "__name__" := by decide) (hdb : (x == ("__debug__" : Str)) = false := by decide)
    (he : starEach (e :: es) X.env = (false, eval e X.env) :: starEach es X.env := by rfl) (hpl : (backTo pos (starEach es X.env)).any (·.1) = false := by rfl) : SE X E (.Call (.Name x p) (e :: es) [] pos) (eCall f ms) :=
  PE.le (pe_callTy hc hg hm hv ha hn hdb he hpl) fun σ H Q h => call_le hf h
end

def bLen : CF := fun ws S => match ws with
  | [.d (.list xs)] => .ok (.d (.int xs.length)) S
  | [.d (.tuple xs)] => .ok (.d (.int xs.length)) S
  | [.d (.str z)] => if z.length ≤ sizeLine then .ok (.d (.int z.length)) S else .bad
  | [.tup xs] => .ok (.d (.int xs.length)) S
  | [.fl xs] => .ok (.d (.int xs.length)) S
  | [.ref n] => match S[n]? with
    | some (.lst xs) => .ok (.d (.int xs.length)) S
    | _ => .bad
  | _ => .bad
def bools : List PyData → Option (List Bool)
  | [] => some []
  | .bool b :: r => (bools r).map (b :: ·)
  | _ => none
theorem bools_eq : ∀ {xs : List PyData} {bs : List Bool}, bools xs = some bs → xs = bs.map .bool
  | [], bs, h => by cases h; rfl
  | x :: r, bs, h => by
    cases x <;> simp only [bools] at h <;> try cases h
    cases q : bools r with
    | none => rw [q] at h; cases h
    | some ys => rw [q] at h; cases h; rw [bools_eq q]; rfl
@[simp] theorem bools_map (bs : List Bool) : bools (bs.map .bool) = some bs := by
  induction bs with
  | nil => rfl
  | cons b r ih => simp [bools, ih]
def intsD : List PyData → Option (List Int)
  | [] => some []
  | .int b :: r => (intsD r).map (b :: ·)
  | _ => none
theorem intsD_eq : ∀ {xs : List PyData} {bs : List Int}, intsD xs = some bs → xs = bs.map .int
  | [], bs, h => by cases h; rfl
  | x :: r, bs, h => by
    cases x <;> simp only [intsD] at h <;> try cases h
    cases q : intsD r with
    | none => rw [q] at h; cases h
    | some ys => rw [q] at h; cases h; rw [intsD_eq q]; rfl
@[simp] theorem intsD_map (bs : List Int) : intsD (bs.map .int) = some bs := by
  induction bs with
  | nil => rfl
  | cons b r ih => simp [intsD, ih]
theorem RDs.bl {K F H} : ∀ {bs : List Bool} {vs : List V}, RDs K F H (bs.map .bool) vs → vs = bs.map V.bl
  | [], _, h => by cases h; rfl
  | b :: r, _, h => by
    cases h with | cons h1 h2 => cases h1; rw [RDs.bl h2]; rfl
theorem RDs.ints {K F H} : ∀ {bs : List Int} {vs : List V}, RDs K F H (bs.map .int) vs → vs = bs.map V.int
  | [], _, h => by cases h; rfl
  | b :: r, _, h => by
    cases h with | cons h1 h2 => cases h1; rw [RDs.ints h2]; rfl
def bAll : CF := fun ws S => match ws with
  | [.d (.list xs)] => match bools xs with
    | some bs => .ok (.d (.bool (bs.all id))) S
    | none => .bad
  | _ => .bad
def bAny : CF := fun ws S => match ws with
  | [.d (.list xs)] => match bools xs with
    | some bs => .ok (.d (.bool (bs.any id))) S
    | none => .bad
  | _ => .bad
def bSum : CF := fun ws S => match ws with
  | [.d (.list xs)] => match intsD xs with
    | some bs => .ok (.d (.int bs.sum)) S
    | none => .bad
  | _ => .bad
def bTuple : CF := fun ws S => match ws with
  | [.d (.list xs)] => .ok (.d (.tuple xs)) S
  | [.d (.tuple xs)] => .ok (.d (.tuple xs)) S
  | [.fl xs] => .ok (.d (.tuple xs)) S
  | [.ref n] => match S[n]? with
    | some (.lst ws) => .ok (mkTup ws) S
    | _ => .bad
  | _ => .bad
/-- list(x), never changed; a cell -/
def bList : CF := fun ws S => match ws with
  | [.d (.list xs)] => .ok (.d (.list xs)) S
  | [.d (.tuple xs)] => .ok (.d (.list xs)) S
  | [.fl xs] => .ok (.d (.list xs)) S
  | [.ref n] => match S[n]? with
    | some (.lst ws) => match unD ws with
      | some xs => .ok (.d (.list xs)) S
      | none => .bad
    | _ => .bad
  | _ => .bad
def bListM : CF := fun ws S => match ws with
  | [.d (.list xs)] => newCell (xs.map .d) S
  | [.d (.tuple xs)] => newCell (xs.map .d) S
  | [.fl xs] => newCell (xs.map .d) S
  | [.ref n] => match S[n]? with
    | some (.lst ws) => newCell ws S
    | _ => .bad
  | _ => .bad
def bInt : CF := fun ws S => match ws with
  | [.d (.int i)] => .ok (.d (.int i)) S
  | [.d (.bool b)] => .ok (.d (.int (if b then 1 else 0))) S
  | _ => .bad
def bAbs : CF := fun ws S => match ws with
  | [.d (.int i)] => .ok (.d (.int (if i < 0 then -i else i))) S
  | _ => .bad
def bMin2 : CF := fun ws S => match ws with
  | [.d (.int i), .d (.int j)] => .ok (.d (.int (if j < i then j else i))) S
  | _ => .bad
def bMax2 : CF := fun ws S => match ws with
  | [.d (.int i), .d (.int j)] => .ok (.d (.int (if j > i then j else i))) S
  | _ => .bad
section
variable {X : Cx}
theorem RWs.one {K F ι H} {w : W} {vs : List V} (r : RWs K F ι H [w] vs) : ∃ v, vs = [v] ∧ RW K F ι H w v := by cases r with | cons r t => cases t; exact ⟨_, rfl, r⟩
theorem RWs.two {K F ι H} {w u : W} {vs : List V} (r : RWs K F ι H [w, u] vs) : ∃ v z, vs = [v, z] ∧ RW K F ι H w v ∧ RW K F ι H u z := by cases r with | cons r t => cases t with | cons r2 t => cases t; exact ⟨_, _, rfl, r, r2⟩
theorem ok_len : OkC X (fun xs H Q => ∃ x n, xs = [x] ∧ LenV X.K x H n ∧ Q (.int n) H) bLen := by
  intro E F ι S H ws vs Q R r h
  unfold bLen at h
  split at h
  · obtain ⟨v, rfl, r'⟩ := r.one; obtain ⟨a, us, rfl, st, rr⟩ := r'.lst_of
    exact ⟨_, _, rfl, .inl ⟨us, st.now, rr.length⟩, h.ok R _ (.d (.int _))⟩
  · obtain ⟨v, rfl, r'⟩ := r.one; obtain ⟨a, us, rfl, st, rr⟩ := r'.tup_of (ws := _) rfl
    have hl := rr.length; rw [List.length_map] at hl
    exact ⟨_, _, rfl, .inr ⟨us, st.now, hl⟩, h.ok R _ (.d (.int _))⟩
  · split at h
    · rename_i hz; obtain ⟨v, rfl, r'⟩ := r.one; obtain rfl := r'.str_of
      exact ⟨_, _, rfl, ⟨hz, rfl⟩, h.ok R _ (.d (.int _))⟩
    · exact h.elim
  · obtain ⟨v, rfl, r'⟩ := r.one; obtain ⟨a, us, rfl, st, rr⟩ := r'.tup_of (ws := _) rfl
    exact ⟨_, _, rfl, .inr ⟨us, st.now, rr.length⟩, h.ok R _ (.d (.int _))⟩
  · obtain ⟨v, rfl, r'⟩ := r.one; obtain ⟨a, us, rfl, st, rr⟩ := r'.fl_of
    exact ⟨_, _, rfl, .inl ⟨us, st.now, rr.length⟩, h.ok R _ (.d (.int _))⟩
  · split at h
    · rename_i q; obtain ⟨v, rfl, r'⟩ := r.one; obtain ⟨a, rfl, _, us, e1, rr, _⟩ := r'.ref_of R q
      exact ⟨_, _, rfl, .inl ⟨us, .of e1, rr.length⟩, h.ok R _ (.d (.int _))⟩
    · exact h.elim
  · exact h.elim
theorem ok_all : OkC X (rAll X.K) bAll := by
  intro E F ι S H ws vs Q R r h
  unfold bAll at h
  split at h
  · split at h
    · rename_i bs q
      obtain ⟨v, rfl, r'⟩ := r.one; obtain ⟨a, us, rfl, st, rr⟩ := r'.lst_of
      rw [bools_eq q] at rr
      have := rr.bl; subst this
      exact ⟨_, _, rfl, st.now, h.ok R _ (.d (.bl _))⟩
    · exact h.elim
  · exact h.elim
theorem ok_any : OkC X (rAny X.K) bAny := by
  intro E F ι S H ws vs Q R r h
  unfold bAny at h
  split at h
  · split at h
    · rename_i bs q
      obtain ⟨v, rfl, r'⟩ := r.one; obtain ⟨a, us, rfl, st, rr⟩ := r'.lst_of
      rw [bools_eq q] at rr
      have := rr.bl; subst this
      exact ⟨_, _, rfl, st.now, h.ok R _ (.d (.bl _))⟩
    · exact h.elim
  · exact h.elim
theorem ok_sum : OkC X (rSum X.K) bSum := by
  intro E F ι S H ws vs Q R r h
  unfold bSum at h
  split at h
  · split at h
    · rename_i bs q
      obtain ⟨v, rfl, r'⟩ := r.one; obtain ⟨a, us, rfl, st, rr⟩ := r'.lst_of
      rw [intsD_eq q] at rr
      have := rr.ints; subst this
      exact ⟨_, _, rfl, st.now, h.ok R _ (.d (.int _))⟩
    · exact h.elim
  · exact h.elim
theorem ok_tuple : OkC X (fun xs H Q => ∃ p ys, xs = [.ref p] ∧ ((SqL X.K H p ys ∧ ∀ l, H l = none → Q (.ref l) (upd H l (.tup ys))) ∨ (SqT X.K H p ys ∧ Q (.ref p) H))) bTuple := by
  intro E F ι S H ws vs Q R r h
  unfold bTuple at h
  split at h
  · obtain ⟨v, rfl, r'⟩ := r.one; obtain ⟨a, us, rfl, st, rr⟩ := r'.lst_of
    refine ⟨_, _, rfl, .inl ⟨st.now, fun p n => ?_⟩⟩
    obtain ⟨x1, R1, r1⟩ := new_tup R n (RWs.ofD (ι := ι) rr) (by rw [List.length_map, rr.length]; exact st.1)
    rw [mkTup_d] at r1
    exact h _ _ _ x1 R1 _ r1
  · obtain ⟨v, rfl, r'⟩ := r.one; obtain ⟨a, us, e, st, rr⟩ := r'.tup_of (ws := _) rfl
    subst e
    exact ⟨_, _, rfl, .inr ⟨st.now, h.ok R _ r'⟩⟩
  · obtain ⟨v, rfl, r'⟩ := r.one; obtain ⟨a, us, rfl, st, rr⟩ := r'.fl_of
    refine ⟨_, _, rfl, .inl ⟨st.now, fun p n => ?_⟩⟩
    obtain ⟨x1, R1, r1⟩ := new_tup R n (RWs.ofD (ι := ι) rr) (by rw [List.length_map, rr.length]; exact st.1)
    rw [mkTup_d] at r1
    exact h _ _ _ x1 R1 _ r1
  · split at h
    · rename_i q; obtain ⟨v, rfl, r'⟩ := r.one; obtain ⟨a, rfl, _, us, e1, rr, hz⟩ := r'.ref_of R q
      refine ⟨_, _, rfl, .inl ⟨.of e1, fun p n => ?_⟩⟩
      obtain ⟨x1, R1, r1⟩ := new_tup R n rr hz
      exact h _ _ _ x1 R1 _ r1
    · exact h.elim
  · exact h.elim
theorem ok_list : OkC X (fun xs H Q => ∃ p ys, xs = [.ref p] ∧ (SqL X.K H p ys ∨ SqT X.K H p ys) ∧ ∀ l, H l = none → Q (.ref l) (upd H l (.lst ys))) bList := by
  intro E F ι S H ws vs Q R r h
  unfold bList at h
  split at h
  · obtain ⟨v, rfl, r'⟩ := r.one; obtain ⟨a, us, rfl, st, rr⟩ := r'.lst_of
    refine ⟨_, _, rfl, .inl st.now, fun p n => ?_⟩
    obtain ⟨x1, R1, r1⟩ := new_lst R n rr (by rw [rr.length]; exact st.1)
    exact h _ _ _ x1 R1 _ r1
  · obtain ⟨v, rfl, r'⟩ := r.one; obtain ⟨a, us, rfl, st, rr⟩ := r'.tup_of (ws := _) rfl
    refine ⟨_, _, rfl, .inr st.now, fun p n => ?_⟩
    obtain ⟨x1, R1, r1⟩ := new_lst R n rr.toD (by rw [rr.toD.length]; exact st.1)
    exact h _ _ _ x1 R1 _ r1
  · obtain ⟨v, rfl, r'⟩ := r.one; obtain ⟨a, us, rfl, st, rr⟩ := r'.fl_of
    refine ⟨_, _, rfl, .inl st.now, fun p n => ?_⟩
    obtain ⟨x1, R1, r1⟩ := new_lst R n rr (by rw [rr.length]; exact st.1)
    exact h _ _ _ x1 R1 _ r1
  · split at h
    · rename_i q; obtain ⟨v, rfl, r'⟩ := r.one; obtain ⟨a, rfl, _, us, e1, rr, hz⟩ := r'.ref_of R q
      split at h
      · rename_i q2
        rw [unD_eq q2] at rr hz
        refine ⟨_, _, rfl, .inl (.of e1), fun p n => ?_⟩
        obtain ⟨x1, R1, r1⟩ := new_lst R n rr.toD (by simpa using hz)
        exact h _ _ _ x1 R1 _ r1
      · exact h.elim
    · exact h.elim
  · exact h.elim
theorem newCell_ok {K F ι S H} {Ex : XN} {ws : List W} {vs : List V} {Q : VK} (R : Rel K F ι S H) (rr : RWs K F ι H ws vs) (h : Post K Ex F ι H (newCell ws S) (fun F' ι' H' w _ => ∀ z, RW K F' ι' H' w z → Q z H')) :
    ∀ l, H l = none → Q (.ref l) (upd H l (.lst vs)) := by
  intro p n
  unfold newCell at h
  split at h
  · rename_i hz
    obtain ⟨x1, R1, r1⟩ := cell_new R n rr hz
    exact h _ _ _ x1 R1 _ r1
  · exact h.elim
theorem ok_listM : OkC X (fun xs H Q => ∃ p ys, xs = [.ref p] ∧ (SqL X.K H p ys ∨ SqT X.K H p ys) ∧ ∀ l, H l = none → Q (.ref l) (upd H l (.lst ys))) bListM := by
  intro E F ι S H ws vs Q R r h
  unfold bListM at h
  split at h
  · obtain ⟨v, rfl, r'⟩ := r.one; obtain ⟨a, us, rfl, st, rr⟩ := r'.lst_of
    exact ⟨_, _, rfl, .inl st.now, newCell_ok R (RWs.ofD rr) h⟩
  · obtain ⟨v, rfl, r'⟩ := r.one; obtain ⟨a, us, rfl, st, rr⟩ := r'.tup_of (ws := _) rfl
    exact ⟨_, _, rfl, .inr st.now, newCell_ok R rr h⟩
  · obtain ⟨v, rfl, r'⟩ := r.one; obtain ⟨a, us, rfl, st, rr⟩ := r'.fl_of
    exact ⟨_, _, rfl, .inl st.now, newCell_ok R (RWs.ofD rr) h⟩
  · split at h
    · rename_i q; obtain ⟨v, rfl, r'⟩ := r.one; obtain ⟨a, rfl, _, us, e1, rr, hz⟩ := r'.ref_of R q
      exact ⟨_, _, rfl, .inl (.of e1), newCell_ok R rr h⟩
    · exact h.elim
  · exact h.elim
theorem ok_int1 : OkC X (fun xs H Q => (∃ i, xs = [.int i] ∧ Q (.int i) H) ∨ ∃ k, xs = [.bl k] ∧ Q (.int (if k then 1 else 0)) H) bInt := by
  intro E F ι S H ws vs Q R r h
  unfold bInt at h
  split at h
  · obtain ⟨v, rfl, r'⟩ := r.one; obtain rfl := r'.int_of
    exact .inl ⟨_, rfl, h.ok R _ (.d (.int _))⟩
  · obtain ⟨v, rfl, r'⟩ := r.one; obtain rfl := r'.bl_of
    exact .inr ⟨_, rfl, h.ok R _ (.d (.int _))⟩
  · exact h.elim
theorem ok_abs : OkC X (fun xs H Q => ∃ i, xs = [.int i] ∧ Q (.int (if i < 0 then -i else i)) H) bAbs := by
  intro E F ι S H ws vs Q R r h
  unfold bAbs at h
  split at h
  · obtain ⟨v, rfl, r'⟩ := r.one; obtain rfl := r'.int_of
    exact ⟨_, rfl, h.ok R _ (.d (.int _))⟩
  · exact h.elim
theorem ok_min2 : OkC X (fun xs H Q => ∃ i j, xs = [.int i, .int j] ∧ Q (.int (if j < i then j else i)) H) bMin2 := by
  intro E F ι S H ws vs Q R r h
  unfold bMin2 at h
  split at h
  · obtain ⟨v, z, rfl, r', r2'⟩ := r.two; obtain rfl := r'.int_of; obtain rfl := r2'.int_of
    exact ⟨_, _, rfl, h.ok R _ (.d (.int _))⟩
  · exact h.elim
theorem ok_max2 : OkC X (fun xs H Q => ∃ i j, xs = [.int i, .int j] ∧ Q (.int (if j > i then j else i)) H) bMax2 := by
  intro E F ι S H ws vs Q R r h
  unfold bMax2 at h
  split at h
  · obtain ⟨v, z, rfl, r', r2'⟩ := r.two; obtain rfl := r'.int_of; obtain rfl := r2'.int_of
    exact ⟨_, _, rfl, h.ok R _ (.d (.int _))⟩
  · exact h.elim
end
section
variable {X : Cx} {E : EX} {pos p p2 : Pos} {e : Expr} {es : List Expr} {ms : AM} {m : EM}
theorem s_len (hm : X.mg "len" = none) (ha : SA X E [e] ms) (hg : Gl X "len" := by rfl) (he : starEach [e] X.env = (false, eval e X.env) :: starEach [] X.env := by rfl) (hpl : (backTo pos (starEach [] X.env)).any (·.1) = false := by rfl) : SE X E (.Call (.Name "len" p) [e] [] pos) (eCall bLen ms) :=
  s_callB call_len ok_len hm ha PySem.boot_len hg (by decide) (by decide) he hpl
theorem s_all (hc : X.calm = true) (hm : X.mg "all" = none) (ha : SA X E [e] ms) (hg : Gl X "all" := by rfl) (he : starEach [e] X.env = (false, eval e X.env) :: starEach [] X.env := by rfl) (hpl : (backTo pos (starEach [] X.env)).any (·.1) = false := by rfl) : SE X E (.Call (.Name "all" p) [e] [] pos) (eCall bAll ms) :=
  s_callB (cr_all hc) ok_all hm ha (by decide +kernel) hg (by decide) (by decide) he hpl
theorem s_any (hc : X.calm = true) (hm : X.mg "any" = none) (ha : SA X E [e] ms) (hg : Gl X "any" := by rfl) (he : starEach [e] X.env = (false, eval e X.env) :: starEach [] X.env := by rfl) (hpl : (backTo pos (starEach [] X.env)).any (·.1) = false := by rfl) : SE X E (.Call (.Name "any" p) [e] [] pos) (eCall bAny ms) :=
  s_callB (cr_any hc) ok_any hm ha (by decide +kernel) hg (by decide) (by decide) he hpl
theorem s_sum (hc : X.calm = true) (hm : X.mg "sum" = none) (ha : SA X E [e] ms) (hg : Gl X "sum" := by rfl) (he : starEach [e] X.env = (false, eval e X.env) :: starEach [] X.env := by rfl) (hpl : (backTo pos (starEach [] X.env)).any (·.1) = false := by rfl) : SE X E (.Call (.Name "sum" p) [e] [] pos) (eCall bSum ms) :=
  s_callB (cr_sum hc) ok_sum hm ha (by decide +kernel) hg (by decide) (by decide) he hpl
theorem s_abs (hm : X.mg "abs" = none) (ha : SA X E [e] ms) (hg : Gl X "abs" := by rfl) (he : starEach [e] X.env = (false, eval e X.env) :: starEach [] X.env := by rfl) (hpl : (backTo pos (starEach [] X.env)).any (·.1) = false := by rfl) : SE X E (.Call (.Name "abs" p) [e] [] pos) (eCall bAbs ms) :=
  s_callB call_abs ok_abs hm ha (by decide +kernel) hg (by decide) (by decide) he hpl
theorem s_min2 {e2 : Expr} (hc : X.calm = true) (hm : X.mg "min" = none) (ha : SA X E [e, e2] ms) (hg : Gl X "min" := by rfl) (he : starEach [e, e2] X.env = (false, eval e X.env) :: starEach [e2] X.env := by rfl) (hpl : (backTo pos (starEach [e2] X.env)).any (·.1) = false := by rfl) : SE X E (.Call (.Name "min" p) [e, e2] [] pos) (eCall bMin2 ms) :=
  s_callB (call_min2 hc) ok_min2 hm ha (by decide +kernel) hg (by decide) (by decide) he hpl
theorem s_max2 {e2 : Expr} (hc : X.calm = true) (hm : X.mg "max" = none) (ha : SA X E [e, e2] ms) (hg : Gl X "max" := by rfl) (he : starEach [e, e2] X.env = (false, eval e X.env) :: starEach [e2] X.env := by rfl) (hpl : (backTo pos (starEach [e2] X.env)).any (·.1) = false := by rfl) : SE X E (.Call (.Name "max" p) [e, e2] [] pos) (eCall bMax2 ms) :=
  s_callB (call_max2 hc) ok_max2 hm ha (by decide +kernel) hg (by decide) (by decide) he hpl
theorem s_tuple (hm : X.mg "tuple" = none) (ha : SA X E [e] ms) (hg : Gl X "tuple" := by rfl) (he : starEach [e] X.env = (false, eval e X.env) :: starEach [] X.env := by rfl) (hpl : (backTo pos (starEach [] X.env)).any (·.1) = false := by rfl) : SE X E (.Call (.Name "tuple" p) [e] [] pos) (eCall bTuple ms) :=
  s_callTy call_tuple_of ok_tuple hm ha (by decide +kernel) hg (by decide) (by decide) he hpl
theorem s_list (hm : X.mg "list" = none) (ha : SA X E [e] ms) (hg : Gl X "list" := by rfl) (he : starEach [e] X.env = (false, eval e X.env) :: starEach [] X.env := by rfl) (hpl : (backTo pos (starEach [] X.env)).any (·.1) = false := by rfl) : SE X E (.Call (.Name "list" p) [e] [] pos) (eCall bList ms) :=
  s_callTy call_list_of ok_list hm ha (by decide +kernel) hg (by decide) (by decide) he hpl
theorem s_listM (hm : X.mg "list" = none) (ha : SA X E [e] ms) (hg : Gl X "list" := by rfl) (he : starEach [e] X.env = (false, eval e X.env) :: starEach [] X.env := by rfl) (hpl : (backTo pos (starEach [] X.env)).any (·.1) = false := by rfl) : SE X E (.Call (.Name "list" p) [e] [] pos) (eCall bListM ms) :=
  s_callTy call_list_of ok_listM hm ha (by decide +kernel) hg (by decide) (by decide) he hpl
theorem s_toInt (hm : X.mg "int" = none) (ha : SA X E [e] ms) (hg : Gl X "int" := by rfl) (he : starEach [e] X.env = (false, eval e X.env) :: starEach [] X.env := by rfl) (hpl : (backTo pos (starEach [] X.env)).any (·.1) = false := by rfl) : SE X E (.Call (.Name "int" p) [e] [] pos) (eCall bInt ms) :=
  s_callTy call_int1 ok_int1 hm ha (by decide +kernel) hg (by decide) (by decide) he hpl
end

/-! ### isinstance of one built-in class -/
def tyD : PyData → String
  | .none => "NoneType" | .bool _ => "bool" | .int _ => "int" | .str _ => "str" | .list _ => "list" | .tuple _ => "tuple" | .dict _ => "dict"
def tyW (S : Sto) : W → Option String
  | .d x => some (tyD x)
  | .tup _ => some "tuple"
  | .ref n => match S[n]? with
    | some (.lst _) => some "list"
    | _ => none
  | _ => none
/-- the answer by the name of the value's type -/
def isiT (t T : String) : Bool := t == T || (t == "bool" && T == "int")
def opIsi (T : String) : Op1 := fun x S => match tyW S x with
  | some t => .ok (.d (.bool (isiT t T))) S
  | none => .bad
theorem kit_int : ∀ t ∈ ["NoneType", "bool", "int", "str", "list", "tuple"], kitB t "int" = some (isiT t "int") := by decide +kernel
theorem kit_bool : ∀ t ∈ ["NoneType", "bool", "int", "str", "list", "tuple"], kitB t "bool" = some (isiT t "bool") := by decide +kernel
theorem kit_str : ∀ t ∈ ["NoneType", "bool", "int", "str", "list", "tuple"], kitB t "str" = some (isiT t "str") := by decide +kernel
theorem kit_list : ∀ t ∈ ["NoneType", "bool", "int", "str", "list", "tuple"], kitB t "list" = some (isiT t "list") := by decide +kernel
theorem kit_tuple : ∀ t ∈ ["NoneType", "bool", "int", "str", "list", "tuple"], kitB t "tuple" = some (isiT t "tuple") := by decide +kernel
section
variable {X : Cx} {E : EX} {pos p p2 : Pos} {e : Expr} {m : EM} {K : PySem.W.Frag} {F : FS} {ι : List Addr} {S : Sto} {H : Hp}
theorem SqT.tyx {a : Addr} {xs : List V} (h : SqT K H a xs) : TyX K H (.ref a) (.type "tuple") := by
  rcases h with (h | ⟨o, h⟩) | ⟨o, its, n, hk, hc, _⟩
  · exact .base (.tup h)
  · exact .fTuple h
  · exact .kTuple hk hc
theorem RW.tyx (R : Rel K F ι S H) {x : W} {v : V} {t : String} (r : RW K F ι H x v) (e : tyW S x = some t) : TyX K H v (.type t) ∧ t ∈ ["NoneType", "bool", "int", "str", "list", "tuple"] := by
  cases r with
  | d r =>
    cases r with
    | non => cases e; exact ⟨.base .non, by simp [tyD]⟩
    | bl b => cases e; exact ⟨.base (.bl b), by simp [tyD]⟩
    | int i => cases e; exact ⟨.base (.int i), by simp [tyD]⟩
    | str i => cases e; exact ⟨.base (.str i), by simp [tyD]⟩
    | lst s r => cases e; exact ⟨.base (.lst s.tr), by simp [tyD]⟩
    | tup s r => cases e; exact ⟨SqT.tyx s.now, by simp [tyD]⟩
  | tup s r => cases e; exact ⟨SqT.tyx s.now, by simp [tyD]⟩
  | ref h =>
    simp only [tyW] at e
    split at e
    · rename_i q
      cases e
      obtain ⟨vs, e1, _⟩ := R.cell _ _ _ h q
      exact ⟨.base (.lst e1), by simp [tyD]⟩
    · cases e
  | cst v => cases e
  | fl s r => cases e
theorem s_isi {T : String} {Tn : Str} (hk : ∀ t ∈ ["NoneType", "bool", "int", "str", "list", "tuple"], kitB t T = some (isiT t T)) (hm : X.mg "isinstance" = none) (hmT : X.mg Tn = none) (hv : bootBuiltins Tn = some (.type T)) (ha : SE X E e m)
    (hg : Gl X "isinstance" := by rfl) (hgT : Gl X Tn := by rfl) (hT1 : Tn ≠ "__name__" := by decide) (hT2 : (Tn == ("__debug__" : Str)) = false := by decide)
    (he : starEach [e, .Name Tn p2] X.env = (false, eval e X.env) :: starEach [.Name Tn p2] X.env := by rfl) (he2 : starEach [.Name Tn p2] X.env = (false, eval (.Name Tn p2) X.env) :: starEach [] X.env := by rfl) (hpl : (backTo pos (starEach [.Name Tn p2] X.env)).any (·.1) = false := by rfl) :
    SE X E (.Call (.Name "isinstance" p) [e, .Name Tn p2] [] pos) (eOp1 (opIsi T) m) := by
  refine PE.le (pe_callB call_isi hg hm (by decide +kernel) (pa_cons ha (pa_cons (pe_bltn hgT hmT hv (v := .ty T) rfl hT1 hT2) pa_nil he2) he) (by decide) (by decide) he hpl) fun σ H Q h => ?_
  obtain ⟨F, ι, S, ρ, R, rs, h⟩ := h
  refine ⟨F, ι, S, ρ, R, rs, h.bind.imp fun F1 ι1 H1 w S1 x1 R1 h v r => ?_⟩
  unfold opIsi at h
  split at h
  · rename_i t q
    obtain ⟨ty, hm⟩ := r.tyx R1 q
    exact ⟨v, _, _, _, _, rfl, .ty T, ty, kit_ty (hk t hm), h.ok R1 _ (.d (.bl _))⟩
  · exact h.elim
end
end Sh
end

section
namespace Sh
open PySem PySem.Spec PyProof.Rows L2
open Classical

/-! ### a[i] -/
def opIx : Op2 := fun x y S => match y with
  | .d (.int i) => match x with
    | .d (.list xs) => .ofO S ((atI xs i).map .d)
    | .fl xs => .ofO S ((atI xs i).map .d)
    | .d (.str z) => if z.length ≤ sizeLine then .ofO S ((atI z.cps.toList i).map fun c => .d (.str ⟨#[c]⟩)) else .bad
    | .ref n => match S[n]? with
      | some (.lst ws) => .ofO S (atI ws i)
      | _ => .bad
    | x => match tupOf x with
      | some ws => .ofO S (atI ws i)
      | none => .bad
  | _ => .bad
theorem atI_map {α β : Type} (f : α → β) (xs : List α) (i : Int) : atI (xs.map f) i = (atI xs i).map f := by
  unfold atI
  rw [List.length_map]
  cases ixN xs.length i with
  | none => rfl
  | some j => simp
section
variable {X : Cx} {E : EX} {pos : Pos} {a b : Expr} {ma mb : EM} {K : PySem.W.Frag} {F : FS} {ι : List Addr} {S : Sto} {H : Hp}
theorem RWs.at {ws : List W} {vs : List V} {i : Int} {w : W} (r : RWs K F ι H ws vs) (e : atI ws i = some w) : ∃ v, atI vs i = some v ∧ RW K F ι H w v := by
  unfold atI at e ⊢
  rw [← r.length]
  cases q : ixN ws.length i with
  | none => rw [q] at e; cases e
  | some j =>
    rw [q] at e
    simp only [Option.bind_some] at e ⊢
    exact r.get' e
theorem ok_ix : Ok2 X (rIx X.K) opIx := by
  intro E F ι S H x y v u Q R rx ry h
  unfold opIx at h
  split at h
  · obtain rfl := ry.int_of
    split at h
    · obtain ⟨w, e, h⟩ := h.ofO
      obtain ⟨p, vs, rfl, st, rr⟩ := rx.lst_of
      rw [← atI_map] at e
      obtain ⟨z, e1, r1⟩ := (RWs.ofD (ι := ι) rr).at e
      exact .inl ⟨p, vs, _, z, rfl, rfl, st.now, e1, h.ok R z r1⟩
    · obtain ⟨w, e, h⟩ := h.ofO
      obtain ⟨p, vs, rfl, st, rr⟩ := rx.fl_of
      rw [← atI_map] at e
      obtain ⟨z, e1, r1⟩ := (RWs.ofD (ι := ι) rr).at e
      exact .inl ⟨p, vs, _, z, rfl, rfl, st.now, e1, h.ok R z r1⟩
    · split at h
      · rename_i hz
        obtain ⟨w, e, h⟩ := h.ofO
        obtain rfl := rx.str_of
        rw [Option.map_eq_some_iff] at e
        obtain ⟨c, e, rfl⟩ := e
        exact .inr (.inr ⟨_, _, c, rfl, rfl, hz, e, h.ok R _ (.d (.str _))⟩)
      · exact h.elim
    · split at h
      · rename_i q
        obtain ⟨w, e, h⟩ := h.ofO
        obtain ⟨p, rfl, _, vs, e1, rr, _⟩ := rx.ref_of R q
        obtain ⟨z, e2, r1⟩ := rr.at e
        exact .inl ⟨p, vs, _, z, rfl, rfl, .of e1, e2, h.ok R z r1⟩
      · exact h.elim
    · split at h
      · rename_i q
        obtain ⟨w, e, h⟩ := h.ofO
        obtain ⟨p, vs, rfl, st, rr⟩ := rx.tup_of q
        obtain ⟨z, e2, r1⟩ := rr.at e
        exact .inr (.inl ⟨p, vs, _, z, rfl, rfl, st.now, e2, h.ok R z r1⟩)
      · exact h.elim
  · exact h.elim
theorem s_ix (ha : SE X E a ma) (hb : SE X E b mb) (hs : PlainIx b := by exact fun _ _ => rfl) : SE X E (.Subscript a b pos) (eOp2 opIx ma mb) :=
  PE.le (pe_ix ix_seq ha hb hs) fun σ H Q h => op2_le ok_ix h
end

/-! ### a[lo:hi] -/
abbrev OM := Rho → Sto → Out (Option Int)
def oNone : OM := fun _ S => .ok none S
def oSome (m : EM) : OM := fun ρ S => (m ρ S).bind fun w S1 => match w with
  | .d (.int i) => .ok (some i) S1
  | _ => .bad
def cut {α : Type} (xs : List α) (lo hi : Option Int) : List α := (xs.drop (HT.sIx xs.length 0 lo)).take (HT.sIx xs.length xs.length hi - HT.sIx xs.length 0 lo)
def opSl (x : W) (lo hi : Option Int) (S : Sto) : Out W := match x with
  | .d (.list xs) => .ok (.d (.list (cut xs lo hi))) S
  | .fl xs => .ok (.d (.list (cut xs lo hi))) S
  | x => match tupOf x with
    | some ws => .ok (mkTup (cut ws lo hi)) S
    | none => .bad
def eSl (m : EM) (lo hi : OM) : EM := fun ρ S => (m ρ S).bind fun x S1 => (lo ρ S1).bind fun l S2 => (hi ρ S2).bind fun u S3 => opSl x l u S3
def tO (K : PySem.W.Frag) (E : EX) (m : OM) : TO := fun σ H Q => ∃ F ι S ρ, Rel K F ι S H ∧ RS K F ι H ρ σ ∧ Post K (E σ) F ι H (m ρ S) fun F' ι' H' o _ => Q o H'
def SO (X : Cx) (E : EX) (e : Option Expr) (m : OM) : Prop := PO X e (tO X.K E m)
section
variable {X : Cx} {E : EX} {pos p2 : Pos} {e : Expr} {lo hi : Option Expr} {m : EM} {l u : OM} {K : PySem.W.Frag} {F : FS} {ι : List Addr} {S : Sto} {H : Hp}
theorem so_none : SO X E none oNone := ⟨fun pins s σ H Q I h => by
  obtain ⟨F, ι, S, ρ, R, rs, h⟩ := h
  exact po_none.run pins s σ H Q I (h.ok R)⟩
theorem so_some (h : SE X E e m) : SO X E (some e) (oSome m) := ⟨fun pins s σ H Q I hw => by
  refine (po_some h).run pins s σ H Q I ?_
  obtain ⟨F, ι, S, ρ, R, rs, h⟩ := hw
  refine ⟨F, ι, S, ρ, R, rs, h.bind.imp fun F1 ι1 H1 w S1 x1 R1 h v r => ?_⟩
  split at h
  · obtain rfl := r.int_of; exact ⟨_, rfl, h.ok R1⟩
  · exact h.elim⟩
theorem RWs.take {xs : List W} {us : List V} (n : Nat) (r : RWs K F ι H xs us) : RWs K F ι H (xs.take n) (us.take n) := by
  induction n generalizing xs us with
  | zero => exact .nil
  | succ n ih => cases r with
    | nil => exact .nil
    | cons a b => exact .cons a (ih b)
theorem RWs.drop {xs : List W} {us : List V} (n : Nat) (r : RWs K F ι H xs us) : RWs K F ι H (xs.drop n) (us.drop n) := by
  induction n generalizing xs us with
  | zero => exact r
  | succ n ih => cases r with
    | nil => exact .nil
    | cons a b => exact ih b
theorem RWs.cut {xs : List W} {us : List V} (r : RWs K F ι H xs us) (lo hi : Option Int) : RWs K F ι H (Sh.cut xs lo hi) (cutV us lo hi) := by
  unfold Sh.cut cutV
  rw [r.length]
  exact (r.drop _).take _
theorem RDs.cut {xs : List PyData} {us : List V} (r : RDs K F H xs us) (lo hi : Option Int) : RDs K F H (Sh.cut xs lo hi) (cutV us lo hi) := by
  unfold Sh.cut cutV
  rw [r.length]
  exact (r.drop _).take _
theorem cut_map {α β : Type} (f : α → β) (xs : List α) (lo hi : Option Int) : cut (xs.map f) lo hi = (cut xs lo hi).map f := by
  unfold cut
  rw [List.length_map, List.map_take, List.map_drop]
theorem cut_len {α : Type} (xs : List α) (lo hi : Option Int) : (cut xs lo hi).length ≤ xs.length := by
  unfold cut
  rw [List.length_take, List.length_drop]; omega
theorem cut_all {α : Type} {xs : List α} {lo hi : Option Int} (h : HT.sIx xs.length 0 lo = 0 ∧ HT.sIx xs.length xs.length hi = xs.length) : cut xs lo hi = xs := by
  unfold cut
  rw [h.1, h.2]; simp
abbrev rSlS (K : PySem.W.Frag) : V → Option Int → Option Int → Hp → VK → Prop := fun x lo hi H Q => rSlL K x lo hi H Q ∨ rSlA K x lo hi H Q
theorem s_sl (hx : SE X E e m) (hl : SO X E lo l) (hu : SO X E hi u) : SE X E (.Subscript e (.Slice lo hi none p2) pos) (eSl m l u) := by
  refine PE.le (pe_slice (sl_list.or sl_tupA) hx hl hu) fun σ H Q h => ?_
  obtain ⟨F, ι, S, ρ, R, rs, h⟩ := h
  refine ⟨F, ι, S, ρ, R, rs, h.bind.imp fun F1 ι1 H1 x S1 x1 R1 h v r => ?_⟩
  refine ⟨F1, ι1, S1, ρ, R1, rs.ext x1, h.bind.imp fun F2 ι2 H2 lv S2 x2 R2 h => ?_⟩
  refine ⟨F2, ι2, S2, ρ, R2, (rs.ext x1).ext x2, h.bind.imp fun F3 ι3 H3 uv S3 x3 R3 h => ?_⟩
  replace r := (r.ext x2).ext x3
  unfold opSl at h
  split at h
  · obtain ⟨a, vs, rfl, st, rr⟩ := r.lst_of
    refine .inl ⟨a, vs, rfl, st.now, fun p n => ?_⟩
    obtain ⟨y, R', r'⟩ := new_lst R3 n (rr.cut lv uv) (Nat.le_trans (cut_len _ _ _) (by rw [rr.length]; exact st.1))
    exact h _ _ _ y R' _ r'
  · obtain ⟨a, vs, rfl, st, rr⟩ := r.fl_of
    refine .inl ⟨a, vs, rfl, st.now, fun p n => ?_⟩
    obtain ⟨y, R', r'⟩ := new_lst R3 n (rr.cut lv uv) (Nat.le_trans (cut_len _ _ _) (by rw [rr.length]; exact st.1))
    exact h _ _ _ y R' _ r'
  · split at h
    · rename_i ws q
      obtain ⟨a, vs, rfl, st, rr⟩ := r.tup_of q
      refine .inr ⟨a, vs, rfl, st.now, fun hw => ?_, fun hw p n => ?_⟩
      · rw [← rr.length] at hw
        rw [cut_all hw] at h
        exact h.ok R3 _ (mkTup_same q r)
      · obtain ⟨y, R', r'⟩ := new_tup R3 n (rr.cut lv uv) (Nat.le_trans (cut_len _ _ _) (by rw [rr.length]; exact st.1))
        exact h _ _ _ y R' _ r'
    · exact h.elim
end

/-! ### methods of lists -/
/-- a method by values: the receiver, the arguments -/
abbrev MF := W → List W → Sto → Out W
def mAppend : MF := fun o ws S => match o, ws with
  | .ref n, [y] => match S[n]? with
    | some (.lst xs) => if xs.length < sizeLine then .ok (.d .none) (S.set n (.lst (xs ++ [y]))) else .bad
    | _ => .bad
  | _, _ => .bad
/-- the plain items of what may be added to a list -/
def lstOf (S : Sto) : W → Option (List W)
  | .d (.list xs) => some (xs.map .d)
  | .ref n => match S[n]? with
    | some (.lst ws) => some ws
    | _ => none
  | _ => none
def mExtend : MF := fun o ws S => match o, ws with
  | .ref n, [y] => match S[n]?, lstOf S y with
    | some (.lst xs), some zs => if xs.length + zs.length ≤ sizeLine then .ok (.d .none) (S.set n (.lst (xs ++ zs))) else .bad
    | _, _ => .bad
  | _, _ => .bad
def mPop : MF := fun o ws S => match o, ws with
  | .ref n, [] => match S[n]? with
    | some (.lst xs) => match xs[xs.length - 1]? with
      | some y => .ok y (S.set n (.lst xs.dropLast))
      | none => .bad
    | _ => .bad
  | _, _ => .bad
/-- the first place of an equal one -/
def idxOf (d : PyData) : List PyData → Option Nat
  | [] => none
  | z :: r => if PyData.eqv z d = true then some 0 else (idxOf d r).map (· + 1)
noncomputable def mIndex : MF := fun o ws S => match o, ws with
  | .d (.list xs), [.d y] => if shp (.list xs) y then .ofO S ((idxOf y xs).map fun (j : Nat) => (W.d (.int (j : Int)))) else .bad
  | _, _ => .bad
def eMt (f : MF) (mo : EM) (ms : AM) : EM := fun ρ S => (mo ρ S).bind fun o S1 => (ms ρ S1).bind fun ws S2 => f o ws S2
def OkM (X : Cx) (r : V → List V → Hp → VK → Prop) (f : MF) : Prop := ∀ E F ι S H o ws v vs Q, Rel X.K F ι S H → RW X.K F ι H o v → RWs X.K F ι H ws vs → Post X.K E F ι H (f o ws S) (fun F' ι' H' w _ => ∀ z, RW X.K F' ι' H' w z → Q z H') → r v vs H Q
/-- a list of some sort -/
def isL (S : Sto) : W → Bool
  | .d (.list _) => true
  | .ref n => match S[n]? with
    | some (.lst _) => true
    | _ => false
  | _ => false
def eMtL (f : MF) (mo : EM) (ms : AM) : EM := fun ρ S => (mo ρ S).bind fun o S1 => if isL S1 o = true then (ms ρ S1).bind fun ws S2 => f o ws S2 else .bad
theorem RW.tyL {K F ι S H} (R : Rel K F ι S H) {w : W} {v : V} (r : RW K F ι H w v) (h : isL S w = true) : tyV K "list" v H := by
  cases w with
  | d x =>
    cases x <;> simp only [isL] at h <;> try cases h
    obtain ⟨a, us, rfl, st, _⟩ := r.lst_of; exact .inl ⟨rfl, us, st.now⟩
  | ref n =>
    simp only [isL] at h
    split at h
    · rename_i q; obtain ⟨a, rfl, _, us, e1, _⟩ := r.ref_of R q; exact .inl ⟨rfl, us, .of e1⟩
    · cases h
  | _ => cases h
section
variable {X : Cx} {E : EX} {apos cpos : Pos} {o e : Expr} {es : List Expr} {mo : EM} {ms : AM} {K : PySem.W.Frag} {F : FS} {ι : List Addr} {S : Sto} {H : Hp}
theorem cell_wr (R : Rel K F ι S H) {n : Nat} {a : Addr} (hn : ι[n]? = some a) {ws : List W} {vs : List V} (r : RWs K F ι H ws vs) (hz : ws.length ≤ sizeLine) :
    Ext F ι H F ι (upd H a (.lst vs)) ∧ Rel K F ι (S.set n (.lst ws)) (upd H a (.lst vs)) := by
  have hm : a ∈ ι := List.mem_of_getElem? hn
  have x := Ext.wr (o := .lst vs) R hm
  exact ⟨x, R.wr hn ⟨vs, upd_same, r.ext x, hz⟩⟩
theorem ok_append : OkM X rAppend mAppend := by
  intro E F ι S H o ws v vs Q R ro r h
  unfold mAppend at h
  split at h
  · split at h
    · rename_i q
      split at h
      · rename_i hz
        obtain ⟨z, rfl, r'⟩ := r.one
        obtain ⟨a, rfl, hn, us, e1, rr, _⟩ := ro.ref_of R q
        obtain ⟨x, R'⟩ := cell_wr R hn (rr.append (.cons r' .nil)) (by simp; omega)
        exact ⟨a, us, z, rfl, rfl, e1, by rw [← rr.length]; exact hz, h _ _ _ x R' _ (.d .non)⟩
      · exact h.elim
    · exact h.elim
  · exact h.elim
theorem RW.lst_in {y : W} {z : V} {zs : List W} (R : Rel K F ι S H) (r : RW K F ι H y z) (e : lstOf S y = some zs) : ∃ b us, z = .ref b ∧ H b = some (.lst us) ∧ RWs K F ι H zs us := by
  cases y with
  | d x =>
    cases x <;> simp only [lstOf] at e <;> try cases e
    obtain ⟨b, us, rfl, st, rr⟩ := r.lst_of
    exact ⟨b, us, rfl, st.tr, .ofD rr⟩
  | ref n =>
    simp only [lstOf] at e
    split at e
    · rename_i q
      cases e
      obtain ⟨b, rfl, _, us, e1, rr, _⟩ := r.ref_of R q
      exact ⟨b, us, rfl, e1, rr⟩
    · cases e
  | _ => cases e
theorem ok_extend : OkM X rExtend mExtend := by
  intro E F ι S H o ws v vs Q R ro r h
  unfold mExtend at h
  split at h
  · split at h
    · rename_i q q2
      split at h
      · rename_i hz
        obtain ⟨z, rfl, r'⟩ := r.one
        obtain ⟨a, rfl, hn, us, e1, rr, _⟩ := ro.ref_of R q
        obtain ⟨b, ys, rfl, e2, rb⟩ := RW.lst_in R r' q2
        obtain ⟨x, R'⟩ := cell_wr R hn (rr.append rb) (by simp; omega)
        exact ⟨a, b, us, ys, rfl, rfl, e1, e2, by rw [← rr.length, ← rb.length]; exact hz, h _ _ _ x R' _ (.d .non)⟩
      · exact h.elim
    · exact h.elim
  · exact h.elim
theorem ok_pop : OkM X rPop mPop := by
  intro E F ι S H o ws v vs Q R ro r h
  unfold mPop at h
  split at h
  · split at h
    · rename_i q
      split at h
      · rename_i y q2
        cases r
        obtain ⟨a, rfl, hn, us, e1, rr, hz⟩ := ro.ref_of R q
        obtain ⟨z, e2, rz⟩ := rr.get' q2
        obtain ⟨x, R'⟩ := cell_wr R hn rr.dropLast (by simp; omega)
        refine ⟨a, us, z, rfl, rfl, e1, by rw [← rr.length]; exact e2, h _ _ _ x R' _ (rz.ext x)⟩
      · exact h.elim
    · exact h.elim
  · exact h.elim
theorem idxOf_spec {d : PyData} : ∀ {xs : List PyData} {j : Nat}, idxOf d xs = some j → ∃ z, xs[j]? = some z ∧ PyData.eqv z d = true ∧ ∀ (m : Nat) (z' : PyData), m < j → xs[m]? = some z' → PyData.eqv z' d = false
  | [], _, h => by cases h
  | x :: r, j, h => by
    unfold idxOf at h
    split at h
    · rename_i q
      cases h
      exact ⟨x, rfl, q, fun m z' hm => by omega⟩
    · rename_i q
      rw [Option.map_eq_some_iff] at h
      obtain ⟨k, h, rfl⟩ := h
      obtain ⟨z, h1, h2, h3⟩ := idxOf_spec h
      refine ⟨z, by simpa using h1, h2, fun m z' hm e => ?_⟩
      cases m with
      | zero => simp at e; subst e; simpa using q
      | succ m => exact h3 m z' (by omega) (by simpa using e)
theorem ok_index : OkM X (rIndexD X.K) mIndex := by
  intro E F ι S H o ws v vs Q R ro r h
  unfold mIndex at h
  split at h
  · split at h
    · rename_i hs
      obtain ⟨w, e, h⟩ := h.ofO
      rw [Option.map_eq_some_iff] at e
      obtain ⟨j, e, rfl⟩ := e
      obtain ⟨z, rfl, r'⟩ := r.one
      obtain ⟨y, h1, h2, h3⟩ := idxOf_spec e
      have hd := ro.pure.toDp
      obtain ⟨a, us, rfl, st, rr⟩ := ro.lst_of
      exact ⟨a, z, _, _, j, y, rfl, rfl, hd, r'.pure.toDp, hs.1, hs.2, h1, h2, h3, h.ok R _ (.d (.int _))⟩
    · exact h.elim
  · exact h.elim
theorem s_mtL {name : Str} {id : String} {r : V → List V → Hp → VK → Prop} {f : MF} (slot : Slot "list" name id) (hty : typeOf (.builtin id) = pure (.type "method_descriptor")) (hm : MtR X id r) (hf : OkM X r f) (ho : SE X E o mo) (ha : SA X E (e :: es) ms)
    (hbase : attributeBase o name X.env (eval o X.env) = eval o X.env := by rfl)
    (hfew : ((backTo cpos (starEach (e :: es) X.env)).all (fun x => !x.1) && (backToKw cpos (keywordEach [] X.env)).all (fun x => x.1.isSome)
      && decide ((e :: es).length + ([] : List Keyword).length + (if ([] : List Keyword).isEmpty then 0 else 1) < 30)) = true := by rfl)
    (hline : (apos.endLine == cpos.line) = true := by rfl) (hs : starEach (e :: es) X.env = (false, eval e X.env) :: starEach es X.env := by rfl) (hplain : (backTo cpos (starEach es X.env)).any (·.1) = false := by rfl) :
    SE X E (.Call (.Attribute o name apos) (e :: es) [] cpos) (eMtL f mo ms) := by
  refine PE.le (pe_bm PySem.F.plainAttrs_list slot hty hm ho ha hbase hfew hline hs hplain) fun σ H Q h => ?_
  obtain ⟨F, ι, S, ρ, R, rs, h⟩ := h
  refine ⟨F, ι, S, ρ, R, rs, h.bind.imp fun F1 ι1 H1 w S1 x1 R1 h v r => ?_⟩
  split at h
  · rename_i hl
    exact ⟨r.tyL R1 hl, F1, ι1, S1, ρ, R1, rs.ext x1, h.bind.imp fun F2 ι2 H2 ws S2 x2 R2 h vs r2 => hf _ F2 ι2 S2 H2 w ws v vs Q R2 (r.ext x2) r2 h⟩
  · exact h.elim
theorem s_mtL0 {name : Str} {id : String} {r : V → List V → Hp → VK → Prop} {f : MF} (slot : Slot "list" name id) (hty : typeOf (.builtin id) = pure (.type "method_descriptor")) (hm : MtR X id r) (hf : OkM X r f) (ho : SE X E o mo)
    (hbase : attributeBase o name X.env (eval o X.env) = eval o X.env := by rfl) (hline : (apos.endLine == cpos.line) = true := by rfl) : SE X E (.Call (.Attribute o name apos) [] [] cpos) (eMtL f mo aNil) := by
  refine PE.le (pe_bm0 PySem.F.plainAttrs_list slot hty hm ho hbase hline) fun σ H Q h => ?_
  obtain ⟨F, ι, S, ρ, R, rs, h⟩ := h
  refine ⟨F, ι, S, ρ, R, rs, h.bind.imp fun F1 ι1 H1 w S1 x1 R1 h v r => ?_⟩
  split at h
  · rename_i hl
    exact ⟨r.tyL R1 hl, hf _ F1 ι1 S1 H1 w [] v [] Q R1 r .nil h⟩
  · exact h.elim
end

/-! ### l[i] = v of a cell -/
def setIx : Op3 := fun o i w S => match o, i with
  | .ref n, .d (.int k) => match S[n]? with
    | some (.lst ws) => match ixN ws.length k with
      | some j => .ok () (S.set n (.lst (ws.set j w)))
      | none => .bad
    | _ => .bad
  | _, _ => .bad
theorem ok_setIx {X : Cx} : OkSet X rSetL setIx := by
  intro E F ι S H o i w vo vi v Q R ro ri rw' h
  unfold setIx at h
  split at h
  · obtain rfl := ri.int_of
    split at h
    · rename_i q
      split at h
      · rename_i j qj
        obtain ⟨a, rfl, hn, us, e1, rr, hz⟩ := ro.ref_of R q
        obtain ⟨x, R'⟩ := cell_wr R hn (rr.set rw' j) (by simpa using hz)
        exact ⟨a, us, _, j, rfl, rfl, e1, by rw [← rr.length]; exact qj, h _ _ _ x R'⟩
      · exact h.elim
    · exact h.elim
  · exact h.elim
theorem sg_ix {X : Cx} {E : EX} {o i : Expr} {pos : Pos} {mo mi : EM} (ho : SE X E o mo) (hi : SE X E i mi)
    (ha : ∀ v, assign (.Subscript o i pos) X.env v = (do
      let ov ← holding [v] (eval o X.env)
      let iv ← holding [v, ov] (eval i X.env)
      standAt pos
      holding [v, ov, iv] (setItem ov iv v)
      release [v, ov, iv] []) := by intro _; rfl) : SG X E (.Subscript o i pos) (gSb setIx mo mi) := sg_sub set_list ok_setIx ho hi ha

/-! ### what is walked -/
def itOf (S : Sto) : W → Option (List W)
  | .d (.list xs) => some (xs.map .d)
  | .fl xs => some (xs.map .d)
  | _ => none
def iLst (m : EM) : IM := fun ρ S => (m ρ S).bind fun w S1 => match w with
  | .d (.list xs) => .ok ⟨xs.map .d, fun _ => True⟩ S1
  | .fl xs => .ok ⟨xs.map .d, fun _ => True⟩ S1
  | .ref n => match S1[n]? with
    | some (.lst ws) => .ok ⟨ws, fun S => S[n]? = some (.lst ws)⟩ S1
    | _ => .bad
  | _ => .bad
def iTp (m : EM) : IM := fun ρ S => (m ρ S).bind fun w S1 => match tupOf w with
  | some ws => .ok ⟨ws, fun _ => True⟩ S1
  | none => .bad
noncomputable def iRg1 (m : EM) : IM := fun ρ S => (m ρ S).bind fun w S1 => match w with
  | .d (.int j) => if In62 j then .ok ⟨(List.range j.toNat).map fun (k : Nat) => W.d (.int (k : Int)), fun _ => True⟩ S1 else .bad
  | _ => .bad
noncomputable def iRg2 (ms : AM) : IM := fun ρ S => (ms ρ S).bind fun ws S1 => match ws with
  | [.d (.int i), .d (.int j)] => if In62 i ∧ In62 j then .ok ⟨(List.range (j - i).toNat).map fun (k : Nat) => W.d (.int (i + (k : Int))), fun _ => True⟩ S1 else .bad
  | _ => .bad
section
variable {X : Cx} {E : EX} {tg e : Expr} {m : EM} {K : PySem.W.Frag} {F : FS} {ι : List Addr} {S : Sto} {H : Hp}
theorem PI.le {it : Expr} {t t' : TI} (h : PI X tg it t) (k : ∀ σ H R, t' σ H R → t σ H R) : PI X tg it t' := ⟨fun pins s σ H R I q => h.run pins s σ H R I (k σ H R q)⟩
theorem it_list {its : Its} {a : Addr} (st : ∀ F' ι' S' H', Ext F ι H F' ι' H' → Rel K F' ι' S' H' → its.grd S' → ∃ vs, SqL K H' a vs ∧ RWs K F' ι' H' its.items vs) : IterOk K (Itl K a) F ι H its := by
  intro i F' ι' S' H' x R g
  obtain ⟨vs, q, rr⟩ := st F' ι' S' H' x R g
  refine ⟨fun e => ⟨vs, q, by rw [e, rr.length]; exact Nat.le_refl _⟩, fun w e => ?_⟩
  obtain ⟨v, ev, rv⟩ := rr.get' e
  refine ⟨⟨vs, v, q, ev⟩, fun y H'' hy => ?_⟩
  obtain ⟨rfl, hy⟩ := hy
  have := hy vs q
  rw [ev] at this; cases this
  exact ⟨F', .refl, R, rv⟩
theorem it_tup {its : Its} {a : Addr} {vs : List V} (rr : RWs K F ι H its.items vs) (st : StT K F H a vs) : IterOk K (Itt K a) F ι H its := by
  intro i F' ι' S' H' x R g
  have q := (st.ext x).now
  refine ⟨fun e => ⟨vs, q, by rw [e, rr.length]; exact Nat.le_refl _⟩, fun w e => ?_⟩
  obtain ⟨v, ev, rv⟩ := rr.get' e
  refine ⟨⟨vs, v, q, ev⟩, fun y H'' hy => ?_⟩
  obtain ⟨rfl, hy⟩ := hy
  have := hy vs q
  rw [ev] at this; cases this
  exact ⟨F', .refl, R, rv.ext x⟩
theorem si_list (h : SE X E e m) : SI X E tg e (iLst m) := by
  refine PI.le (pi_list h) fun σ H R h => ?_
  obtain ⟨F, ι, S, ρ, Rl, rs, h⟩ := h
  refine ⟨F, ι, S, ρ, Rl, rs, h.bind.imp fun F1 ι1 H1 w S1 x1 R1 h v r => ?_⟩
  split at h
  · obtain ⟨a, vs, rfl, st, rr⟩ := r.lst_of
    exact ⟨a, rfl, ⟨vs, st.now⟩, h.ok R1 _ (it_list fun F' ι' S' H' x R g => ⟨vs, (st.ext x).now, (RWs.ofD (ι := ι1) rr).ext x⟩)⟩
  · obtain ⟨a, vs, rfl, st, rr⟩ := r.fl_of
    exact ⟨a, rfl, ⟨vs, st.now⟩, h.ok R1 _ (it_list fun F' ι' S' H' x R g => ⟨vs, (st.wk x.toWk).now, (RWs.ofD (ι := ι1) rr).ext x⟩)⟩
  · split at h
    · rename_i n _ ws q
      obtain ⟨a, rfl, hn, vs, e1, rr, hz⟩ := r.ref_of R1 q
      refine ⟨a, rfl, ⟨vs, .of e1⟩, h.ok R1 _ (it_list fun F' ι' S' H' x R g => ?_)⟩
      obtain ⟨rp, ep⟩ := x.pre
      have hn' : ι'[n]? = some a := by rw [ep, List.getElem?_append_left (List.getElem?_eq_some_iff.mp hn).1]; exact hn
      obtain ⟨us, e2, r2, _⟩ := R.cell n a _ hn' g
      exact ⟨us, .of e2, r2⟩
    · exact h.elim
  · exact h.elim
theorem si_tup (h : SE X E e m) : SI X E tg e (iTp m) := by
  refine PI.le (pi_tup h) fun σ H R h => ?_
  obtain ⟨F, ι, S, ρ, Rl, rs, h⟩ := h
  refine ⟨F, ι, S, ρ, Rl, rs, h.bind.imp fun F1 ι1 H1 w S1 x1 R1 h v r => ?_⟩
  split at h
  · rename_i q
    obtain ⟨a, vs, rfl, st, rr⟩ := r.tup_of q
    exact ⟨a, rfl, ⟨vs, st.now⟩, h.ok R1 _ (it_tup rr st)⟩
  · exact h.elim
theorem it_rng {lo : Int} {n : Nat} : IterOk K (Itr lo n) F ι H ⟨(List.range n).map fun (k : Nat) => W.d (.int (lo + (k : Int))), fun _ => True⟩ := by
  intro i F' ι' S' H' x R g
  refine ⟨fun e => by simp at e; subst e; exact Nat.le_refl _, fun w e => ?_⟩
  have hi : i < n := by
    have := (List.getElem?_eq_some_iff.mp e).1
    simpa using this
  simp only [List.getElem?_map, List.getElem?_range hi, Option.map_some, Option.some.injEq] at e
  subst e
  refine ⟨hi, fun y H'' hy => ?_⟩
  obtain ⟨rfl, rfl⟩ := hy
  exact ⟨F', .refl, R, .d (.int _)⟩
theorem si_rng1 {p pos : Pos} (hm : X.mg "range" = none) (h : SE X E e m) (hg : Gl X "range" := by rfl) (hs : starEach [e] X.env = [(false, eval e X.env)] := by rfl) : SI X E tg (.Call (.Name "range" p) [e] [] pos) (iRg1 m) := by
  refine PI.le (pi_range1 hg hm (pa_cons h pa_nil hs) hs) fun σ H R h => ?_
  obtain ⟨F, ι, S, ρ, Rl, rs, h⟩ := h
  refine ⟨F, ι, S, ρ, Rl, rs, h.bind.imp fun F1 ι1 H1 w S1 x1 R1 h v r => ?_⟩
  split at h
  · split at h
    · rename_i j hj
      obtain rfl := r.int_of
      have q := @it_rng X.K F1 ι1 H1 0 j.toNat
      simp only [Int.zero_add] at q
      exact ⟨j, rfl, hj.1, hj.2, h.ok R1 _ q⟩
    · exact h.elim
  · exact h.elim
theorem si_rng2 {e2 : Expr} {m2 : EM} {p pos : Pos} (hm : X.mg "range" = none) (h : SE X E e m) (h2 : SE X E e2 m2) (hg : Gl X "range" := by rfl) (hs : starEach [e, e2] X.env = [(false, eval e X.env), (false, eval e2 X.env)] := by rfl) (hs2 : starEach [e2] X.env = [(false, eval e2 X.env)] := by rfl) : SI X E tg (.Call (.Name "range" p) [e, e2] [] pos) (iRg2 (aCons m (aCons m2 aNil))) := by
  refine PI.le (pi_range2 hg hm (sa_cons h (sa_cons h2 sa_nil hs2) (by rw [hs, hs2])) hs hs2) fun σ H R h => ?_
  obtain ⟨F, ι, S, ρ, Rl, rs, h⟩ := h
  refine ⟨F, ι, S, ρ, Rl, rs, h.bind.imp fun F1 ι1 H1 ws S1 x1 R1 h vs r => ?_⟩
  split at h
  · split at h
    · rename_i i j hj
      obtain ⟨v, z, rfl, r1, r2⟩ := r.two
      obtain rfl := r1.int_of
      obtain rfl := r2.int_of
      exact ⟨i, j, rfl, ⟨hj.1.1, hj.1.2, hj.2.1, hj.2.2⟩, h.ok R1 _ it_rng⟩
    · exact h.elim
  · exact h.elim
end
end Sh
end

section
namespace Sh
open PySem PySem.Spec PyProof.Rows L2
open Classical

/-! ### enumerate and zip over lists and tuples, in any mix -/
/-- a kind of sequence: how it stands in the layer's heap, in the machine's, how its iterator stands -/
structure SK where
  Sq : PySem.W.Frag → Hp → Addr → List V → Prop
  Is : Heap → Addr → Array Value → Prop
  It : Heap → Addr → Addr → Nat → Prop
  o : Addr → Obj
  have_ : ∀ {X : Cx} {pins : List (Addr × Obj)} {σ : L2.St} {H : Hp} {s : Shared} {a : Addr} {xs : List V}, Inv X pins σ H s → Sq X.K H a xs → ∃ its : List Value, Vals xs its ∧ Is s.heap a its.toArray ∧ xs.length ≤ sizeLine
  inj : ∀ {X : Cx} {pins : List (Addr × Obj)} {σ : L2.St} {H : Hp} {s : Shared} {a : Addr} {xs ys : List V}, Inv X pins σ H s → Sq X.K H a xs → Sq X.K H a ys → xs = ys
  bg : ∀ a items, Begins (.ref a) (o a) fun h => Is h a items
  dr : ∀ {prog : Program} {w : World} {A : Around} (hh : A.handled = none) (it a : Addr) (hne : a ≠ it) (items : Array Value), Draws prog w A it [it, a] items.size (fun i v => items[i]? = some v) (fun i h => It h it a i ∧ Is h a items)
  at_ : ∀ {h h' : Heap} {it a : Addr} {i : Nat}, It h it a i → (∀ o, h.get? it = some o → h'.get? it = some o) → It h' it a i
  sat : ∀ {h h' : Heap} {a : Addr} {items : Array Value}, Is h a items → (∀ o, h.get? a = some o → h'.get? a = some o) → Is h' a items
  ob : ∀ {h : Heap} {it a : Addr} {i : Nat}, It h it a i → ∃ o, h.get? it = some o ∧ ∀ v, o.data ≠ .cell v
  ne : ∀ {h : Heap} {it a : Addr} {i : Nat} {items : Array Value}, It h it a i → Is h a items → a ≠ it
  st0 : ∀ {h : Heap} {it a : Addr}, h.get? it = some (o a) → It h it a 0
  sq : ∀ {h : Heap} {a : Addr} {items : Array Value}, Is h a items → ∃ o n, h.get? a = some o ∧ o.data = .seq items n
def skL : SK where
  Sq := SqL
  Is := fun h a items => h.IsList a items
  It := fun h it a i => h.IsListIter it a i
  o := fun a => { cls := .type "list_iterator", data := .fields #[.ref a, .int 0 0] }
  have_ := fun I h => let ⟨its, r, p, z⟩ := I.list h; ⟨its, r, p.isList, z⟩
  inj := fun I h h' => I.list_inj h h'
  bg := fun a items => begins_list a items
  dr := fun hh it a hne items => Draws.list hh it a hne items
  at_ := fun h k => h.at k
  sat := fun h k => h.at k
  ob := fun ⟨o, e, c, d⟩ => ⟨o, e, fun v z => by rw [d] at z; cases z⟩
  ne := fun ⟨o, e, c, d⟩ ⟨o', e', c', n, d'⟩ z => by rw [z, e] at e'; cases e'; rw [d] at d'; cases d'
  st0 := fun h => ⟨_, h, rfl, rfl⟩
  sq := fun ⟨o, e, c, n, d⟩ => ⟨o, n, e, d⟩
def skT : SK where
  Sq := SqT
  Is := fun h a items => h.IsTuple a items
  It := fun h it a i => h.IsTupleIter it a i
  o := fun a => { cls := .type "tuple_iterator", data := .fields #[.ref a, .int 0 0] }
  have_ := fun I h => let ⟨its, r, p, z⟩ := I.tuple h; ⟨its, r, p, z⟩
  inj := fun I h h' => I.tuple_inj h h'
  bg := fun a items => begins_tuple a items
  dr := fun hh it a hne items => Draws.tuple hh it a hne items
  at_ := fun h k => h.at k
  sat := fun h k => h.at k
  ob := fun ⟨o, e, c, d⟩ => ⟨o, e, fun v z => by rw [d] at z; cases z⟩
  ne := fun ⟨o, e, c, d⟩ ⟨o', e', c', n, d'⟩ z => by rw [z, e] at e'; cases e'; rw [d] at d'; cases d'
  st0 := fun h => ⟨_, h, rfl, rfl⟩
  sq := fun ⟨o, e, c, n, d⟩ => ⟨o, n, e, d⟩

/-- enumerate's new object over anything that begins -/
theorem meets_enum {v : Value} {o : Obj} {H : Heap → Prop} (B : Begins v o H) :
    Meets (Builtin.«enumerate.__new__» ⟨[.type "enumerate", v], []⟩) (fun _ R s => H s.heap ∧
      R (.ok (.ret (.ref (s.heap.push o).objs.size))) { s with heap := (s.heap.push o).push { cls := .type "enumerate", data := .fields #[.none, .bool false, .ref s.heap.objs.size, rawInt 0, .none, .none] } }) :=
  .of_wp fun prog w A R s h => by
    obtain ⟨hp, g, d, tk, os⟩ := s; obtain ⟨h1, h⟩ := h
    have hsub := sub_enumerate
    have q1 : ∀ {A' : Around} {E : Value → Shared → Prop} {Q : Value → Shared → Prop}, Q (.ref hp.objs.size) ⟨hp.push o, g, d, tk, os⟩ → wpAny (model prog w) A' (pyIter v) Q E ⟨hp, g, d, tk, os⟩ :=
      fun q => B.iter prog w _ _ ⟨hp, g, d, tk, os⟩ _ h1 q
    wp_walk using q1
    refine wpAny_stack_any fun st => wpAny_pure ?_
    split
    · rename_i c _ _ _ _ _
      cases (c == Value.type "enumerate") <;> (wp_walk using q1; exact ⟨_, rfl, h⟩)
    · wp_walk using q1
      exact ⟨_, rfl, h⟩
section
variable {prog : Program} {w : World} {A : Around} {E : Value → Shared → Prop} {s : Shared}
theorem call_enum {v : Value} {o : Obj} {H : Heap → Prop} {Q : Value → Shared → Prop} (B : Begins v o H) (h1 : H s.heap)
    (h : ∀ h', IsEnum h' (s.heap.objs.size + 1) s.heap.objs.size 0 .none → h'.get? s.heap.objs.size = some o → h'.objs.size = s.heap.objs.size + 2 →
      (∀ b o, s.heap.get? b = some o → h'.get? b = some o) → Q (.ref (s.heap.objs.size + 1)) { s with heap := h' }) :
    wpAny (model prog w) A (call (.type "enumerate") [v]) Q E s := by
  refine callType_new F.called_enumerate (by decide) (F.typeCall_enumerate_1 _) (F.newCall_enumerate_1 _) (fun obj => F.args_object_init_2 obj _) F.entry_enumerate_new (meets_enum B) ⟨h1, ?_⟩
  have hz : (s.heap.push o).objs.size = s.heap.objs.size + 1 := Heap.size_push ..
  have he := Heap.get?_push_size (s.heap.push o) (o := { cls := .type "enumerate", data := .fields #[.none, .bool false, .ref s.heap.objs.size, rawInt 0, .none, .none] }) rfl
  show _ ∧ _
  rw [hz] at he ⊢
  exact ⟨⟨_, he, rfl⟩, h _ he (Heap.get?_push_of_some _ (Heap.get?_push_size _ B.free)) (by rw [Heap.size_push, hz]) fun b o x => Heap.get?_push_of_some _ (Heap.get?_push_of_some _ x)⟩
end
/-- the sequence at a as it stands at each turn, each item in a new pair -/
def ItE (k : SK) (K : PySem.W.Frag) (a : Addr) : It :=
  ⟨fun i H => ∃ (xs : List V) (x : V), k.Sq K H a xs ∧ xs[i]? = some x, fun i H v H' => ∃ T x, v = .ref T ∧ H T = none ∧ H' = upd H T (.tup [.int (i : Nat), x]) ∧ ∀ xs, k.Sq K H a xs → xs[i]? = some x, fun i H => ∃ xs : List V, k.Sq K H a xs ∧ xs.length = i⟩
theorem turn_en (k : SK) {P : Program} {w : World} {K : PySem.W.Frag} {elts : List Expr} {kk : Nat} {tpos : Pos} (a e it : Addr) (hne : e ≠ it) :
    Turn P w K (.Tuple elts kk tpos) (ItE k K a) [e, it] e (fun i h => (∃ old, IsEnum h e it ((i : Nat) : Int) old) ∧ k.It h it a i) where
  mem := by simp
  obj := fun i h st b hb => by
    obtain ⟨⟨old, he⟩, hi⟩ := st
    rcases (show b = e ∨ b = it by simpa using hb) with rfl | rfl
    · exact ⟨_, he, fun v q => nomatch q⟩
    · exact k.ob hi
  keep := fun i h h' st kp => let ⟨⟨old, he⟩, hi⟩ := st; ⟨⟨old, kp e (by simp) _ he⟩, k.at_ hi fun o q => kp it (by simp) o q⟩
  item := by
    intro X hP hw hK hc i pins s σ H E I hf st hg
    subst hP hw hK
    obtain ⟨⟨old, he⟩, hit⟩ := st
    obtain ⟨xs, x, hq, hx⟩ := hg
    obtain ⟨its, rv, p, hz⟩ := k.have_ I hq
    obtain ⟨u, hu, ru⟩ := rv.get hx
    have hel : e < s.heap.objs.size := Heap.lt_size he
    obtain ⟨oi, hoi, _⟩ := k.ob hit
    have hil : it < s.heap.objs.size := Heap.lt_size hoi
    have hai := k.ne hit p
    have hli : i < its.toArray.size := by
      have := (List.getElem?_eq_some_iff.mp hu).1
      simpa using this
    -- the record of enumerate is no sequence
    have hea : e ≠ a := fun z => by
      obtain ⟨o, n, e1, d1⟩ := k.sq p
      rw [← z, he] at e1; cases e1; cases d1
    refine wpAny_pyNext_enum_itemD (k.dr (A := X.A.in1) (I.ok.hd hc) it a hai its.toArray) he ⟨hit, p⟩ hli hne (by simp [hne, hea]) fun y h' tk hy ho hst hT hsz hk => ?_
    have eu : u = y := by
      have hy' : its.toArray[i]? = some y := hy
      rw [List.getElem?_toArray, hu] at hy'
      exact Option.some.inj hy'
    subst eu
    refine ⟨_, rfl, wpAny_letOwnedTupleGo_enum (s := { s with heap := h', toks := tk + 1 }) ho fun h'' he' sb => ?_⟩
    have hT2 : h''.get? s.heap.objs.size = some { cls := .type "tuple", data := .seq #[.int i tk, u] } := (sb.2 _ (Nat.ne_of_gt hel)).trans hT
    have new : ObjOk X.prog X.w (upd H s.heap.objs.size (.tup [.int (i : Nat), x])) h'' s.heap.objs.size (.tup [.int (i : Nat), x]) :=
      ⟨by show 2 ≤ sizeLine; decide, [.int i tk, u], .cons ⟨_, rfl⟩ (.cons ru .nil), ⟨_, hT2, rfl, _, rfl⟩⟩
    have I1 : Inv X pins σ (upd H s.heap.objs.size (.tup [.int (i : Nat), x])) { s with heap := h'', toks := tk + 1 } :=
      I.turnedNew (ch := [e, it]) (fun b ob hb q => (sb.2 b (fun z => hb (by simp [z]))).trans (hk b ob (fun z => hb (by simp [z])) (fun z => hb (by simp [z])) q)) hf (Nat.le_refl _) new
    have fresh : ∀ b ∈ [e, it], upd H s.heap.objs.size (.tup [.int (i : Nat), x]) b = none := fun b hb => by
      have hb' : b < s.heap.objs.size := by
        rcases (show b = e ∨ b = it by simpa using hb) with z | z <;> rw [z] <;> assumption
      rw [upd_ne (Nat.ne_of_lt hb')]
      exact (hf b hb).1
    refine ⟨.ref s.heap.objs.size, _, I1, rfl, ⟨_, x, rfl, I.hok.fresh (Nat.le_refl _), rfl, fun ys hy => by rw [k.inj I hy hq]; exact hx⟩, ⟨⟨u, ?_⟩, k.at_ hst.1 fun o q => (sb.2 it (Ne.symm hne)).trans q⟩, fresh⟩
    have e1 : ((i + 1 : Nat) : Int) = (i : Int) + 1 := by omega
    rw [e1]; exact he'
  done := by
    intro X hP hw hK hc i pins s σ H E I hf st hg
    subst hP hw hK
    obtain ⟨⟨old, he⟩, hit⟩ := st
    obtain ⟨xs, hq, hx⟩ := hg
    obtain ⟨its, rv, p, hz⟩ := k.have_ I hq
    obtain ⟨f0, f1, f2, f3, f4, f5⟩ := hf it (by simp)
    have hl := rv.length
    have hs : i = its.toArray.size := by rw [List.size_toArray]; omega
    subst hs
    exact wpAny_pyNext_enum_endD (k.dr (A := X.A.in1) (I.ok.hd hc) it a (k.ne hit p) its.toArray) he ⟨hit, p⟩ fun h' eb => ⟨rfl, I.turned (t' := s.toks) (fun b o hb q => eb b o hb q) f0 f1 f3 f4 f5⟩
  self := fun A i s Q E st h => let ⟨⟨_, he⟩, _⟩ := st; wpAny_pyIter_enum he h
section
variable {X : Cx} {E : EX} {e : Expr} {m : EM} {ms : AM} {K : PySem.W.Frag} {F : FS} {ι : List Addr} {S : Sto} {H : Hp} {p pos tpos : Pos} {elts : List Expr} {kk : Nat}
def iEn2 (k : SK) (K : PySem.W.Frag) (ta : TA) : TI := fun σ H R => ta σ H fun vs H1 => ∃ a xs, vs = [.ref a] ∧ k.Sq K H1 a xs ∧ R (ItE k K a) H1
theorem pi_en (k : SK) {ta : TA} (hg : Gl X "enumerate") (hm : X.mg "enumerate" = none) (ha : PA X [e] ta) (hs : starEach [e] X.env = [(false, eval e X.env)] := by rfl) :
    PI X (.Tuple elts kk tpos) (.Call (.Name "enumerate" p) [e] [] pos) (iEn2 k X.K ta) := by
  refine ⟨fun pins s σ H R I h => ?_⟩
  refine Call_ (ld_blt I hg hm boot_enumerate (PyProof.Rows.callWith_type1 (thn (ha.run pos pins s σ H _ I h) fun us s1 ⟨vs, H1, I1, r1, q1⟩ => ?_) hs rfl))
  obtain ⟨a, xs, rfl, hq, q⟩ := q1
  obtain ⟨u, rfl, ru⟩ := vals1 r1
  cases ru
  obtain ⟨its, rv, p', hz⟩ := k.have_ I1 hq
  refine call_enum (k.bg a its.toArray) p' fun h' he hit hsz hk => wpAny_pyIter_enum he ?_
  have I2 : Inv X pins σ H1 { s1 with heap := h' } := I1.kept (t' := s1.toks) hk
  refine ⟨s1.heap.objs.size + 1, [s1.heap.objs.size + 1, s1.heap.objs.size], _, _, H1, rfl, I2, turn_en k a (s1.heap.objs.size + 1) s1.heap.objs.size (Nat.succ_ne_self _), ⟨⟨.none, he⟩, k.st0 hit⟩, fun b hb => ?_, q⟩
  have hle : s1.heap.objs.size ≤ b := by
    rcases (show b = s1.heap.objs.size + 1 ∨ b = s1.heap.objs.size by simpa using hb) with z | z
    · rw [z]; exact Nat.le_add_right _ _
    · rw [z]; exact Nat.le_refl _
  exact I1.fpOk hle (I1.hok.fresh hle)
/-- the pairs of places and items -/
def enumW (ws : List W) : List W := (List.range ws.length).zipWith (fun (i : Nat) w => mkTup [.d (.int (i : Int)), w]) ws
theorem enumW_get {ws : List W} {i : Nat} {w : W} (e : (enumW ws)[i]? = some w) : ∃ u, ws[i]? = some u ∧ w = mkTup [.d (.int (i : Int)), u] := by
  unfold enumW at e
  rw [List.getElem?_zipWith] at e
  by_cases hi : i < ws.length
  · rw [List.getElem?_range hi, List.getElem?_eq_getElem hi] at e
    simp at e
    exact ⟨_, List.getElem?_eq_getElem hi, e.symm⟩
  · rw [List.getElem?_eq_none (by omega : ws.length ≤ i)] at e
    cases q : (List.range ws.length)[i]? <;> simp [q] at e
theorem it_en {k : SK} {ws : List W} {a : Addr} (st : ∀ F' ι' H', Ext F ι H F' ι' H' → ∃ vs, k.Sq K H' a vs ∧ RWs K F' ι' H' ws vs) : IterOk K (ItE k K a) F ι H ⟨enumW ws, fun _ => True⟩ := by
  intro i F' ι' S' H' x R g
  obtain ⟨vs, q, rr⟩ := st F' ι' H' x
  have hl : (enumW ws).length = ws.length := by unfold enumW; simp
  refine ⟨fun e => ⟨vs, q, by rw [← rr.length, ← hl]; exact e.symm⟩, fun w e => ?_⟩
  obtain ⟨u, e1, rfl⟩ := enumW_get e
  obtain ⟨v, ev, rv⟩ := rr.get' e1
  refine ⟨⟨vs, v, q, ev⟩, fun y H'' hy => ?_⟩
  obtain ⟨T, z, rfl, n, rfl, hz⟩ := hy
  have := hz vs q
  rw [ev] at this; cases this
  obtain ⟨x1, R1, r1⟩ := new_tup R n (.cons (.d (.int (i : Int))) (.cons rv .nil)) (by show 2 ≤ sizeLine; decide)
  exact ⟨_, x1, R1, r1⟩
/-- what may be walked as a list; as a tuple -/
def iEnL (ms : AM) : IM := fun ρ S => (ms ρ S).bind fun ws S1 => match ws with
  | [.d (.list xs)] => .ok ⟨enumW (xs.map .d), fun _ => True⟩ S1
  | [.fl xs] => .ok ⟨enumW (xs.map .d), fun _ => True⟩ S1
  | _ => .bad
def iEnT (ms : AM) : IM := fun ρ S => (ms ρ S).bind fun ws S1 => match ws with
  | [w] => match tupOf w with
    | some us => .ok ⟨enumW us, fun _ => True⟩ S1
    | none => .bad
  | _ => .bad
theorem PI.or {tg it : Expr} {t t' : TI} (h : PI X tg it t) (h' : PI X tg it t') : PI X tg it (fun σ H R => t σ H R ∨ t' σ H R) := ⟨fun pins s σ H R I q => by
  rcases q with q | q
  · exact h.run pins s σ H R I q
  · exact h'.run pins s σ H R I q⟩
theorem si_enL (hm : X.mg "enumerate" = none) (ha : SA X E [e] ms) (hg : Gl X "enumerate" := by rfl) (hs : starEach [e] X.env = [(false, eval e X.env)] := by rfl) : SI X E (.Tuple elts kk tpos) (.Call (.Name "enumerate" p) [e] [] pos) (iEnL ms) := by
  refine PI.le (pi_en skL hg hm ha hs) fun σ H R h => ?_
  obtain ⟨F, ι, S, ρ, Rl, rs, h⟩ := h
  refine ⟨F, ι, S, ρ, Rl, rs, h.bind.imp fun F1 ι1 H1 ws S1 x1 R1 h vs r => ?_⟩
  split at h
  · obtain ⟨v, rfl, r'⟩ := r.one
    obtain ⟨a, us, rfl, st, rr⟩ := r'.lst_of
    exact ⟨a, us, rfl, st.now, h.ok R1 _ (it_en fun F' ι' H' x => ⟨us, (st.ext x).now, (RWs.ofD (ι := ι1) rr).ext x⟩)⟩
  · obtain ⟨v, rfl, r'⟩ := r.one
    obtain ⟨a, us, rfl, st, rr⟩ := r'.fl_of
    exact ⟨a, us, rfl, st.now, h.ok R1 _ (it_en fun F' ι' H' x => ⟨us, (st.wk x.toWk).now, (RWs.ofD (ι := ι1) rr).ext x⟩)⟩
  · exact h.elim
theorem si_enT (hm : X.mg "enumerate" = none) (ha : SA X E [e] ms) (hg : Gl X "enumerate" := by rfl) (hs : starEach [e] X.env = [(false, eval e X.env)] := by rfl) : SI X E (.Tuple elts kk tpos) (.Call (.Name "enumerate" p) [e] [] pos) (iEnT ms) := by
  refine PI.le (pi_en skT hg hm ha hs) fun σ H R h => ?_
  obtain ⟨F, ι, S, ρ, Rl, rs, h⟩ := h
  refine ⟨F, ι, S, ρ, Rl, rs, h.bind.imp fun F1 ι1 H1 ws S1 x1 R1 h vs r => ?_⟩
  split at h
  · split at h
    · rename_i q
      obtain ⟨v, rfl, r'⟩ := r.one
      obtain ⟨a, us, rfl, st, rr⟩ := r'.tup_of q
      exact ⟨a, us, rfl, st.now, h.ok R1 _ (it_en fun F' ι' H' x => ⟨us, (st.ext x).now, rr.ext x⟩)⟩
    · exact h.elim
  · exact h.elim
end
end Sh
end

section
namespace Sh
open PySem PySem.Spec PyProof.Rows L2
open Classical

/-! ### a list or a tuple, walked -/
def iSq (m : EM) : IM := fun ρ S => (m ρ S).bind fun w S1 => match w with
  | .d (.list xs) => .ok ⟨xs.map .d, fun _ => True⟩ S1
  | .fl xs => .ok ⟨xs.map .d, fun _ => True⟩ S1
  | .ref n => match S1[n]? with
    | some (.lst ws) => .ok ⟨ws, fun S => S[n]? = some (.lst ws)⟩ S1
    | _ => .bad
  | .d (.str z) => .ok ⟨z.cps.toList.map fun c => .d (.str ⟨#[c]⟩), fun _ => True⟩ S1
  | w => match tupOf w with
    | some ws => .ok ⟨ws, fun _ => True⟩ S1
    | none => .bad
def iEn (ms : AM) : IM := fun ρ S => (ms ρ S).bind fun ws S1 => match ws with
  | [w] => match w with
    | .d (.list xs) => .ok ⟨enumW (xs.map .d), fun _ => True⟩ S1
    | .fl xs => .ok ⟨enumW (xs.map .d), fun _ => True⟩ S1
    | w => match tupOf w with
      | some us => .ok ⟨enumW us, fun _ => True⟩ S1
      | none => .bad
  | _ => .bad
section
variable {X : Cx} {E : EX} {tg e e2 : Expr} {m m2 : EM} {ms : AM} {K : PySem.W.Frag} {F : FS} {ι : List Addr} {S : Sto} {H : Hp} {p pos tpos : Pos} {elts : List Expr} {kk : Nat}
/-- either reading, told when the value is there -/
def iSq2 (K : PySem.W.Frag) (tl : TE) : TI := fun σ H R => tl σ H fun x H1 => (∃ a, x = .ref a ∧ (((∃ xs, SqL K H1 a xs) ∧ R (Itl K a) H1) ∨ ((∃ xs, SqT K H1 a xs) ∧ R (Itt K a) H1))) ∨ ∃ z, x = .str z ∧ R (L2.Its z) H1
theorem pi_sq {l : Expr} {tl : TE} (hl : PE X l tl) : PI X tg l (iSq2 X.K tl) := by
  refine ⟨fun pins s σ H R I h => ?_⟩
  refine thn (hl.run pins s σ H _ I h) fun v s1 ⟨x, H1, I1, r1, q⟩ => ?_
  rcases q with ⟨a, ex, q⟩ | ⟨z, ex, q⟩
  case inr =>
    subst ex
    obtain ⟨t, rfl⟩ := r1
    cases ha : z.cps.all (· < 128)
    · exact wpAny_pyIter_wide ha (pi_one (tk := s1.toks) I1 _ (turn_str _ z t "str_iterator" (.inr rfl)) ⟨_, Heap.get?_push_size _ rfl, rfl, rfl⟩ q)
    · exact wpAny_pyIter_ascii ha (pi_one (tk := s1.toks) I1 _ (turn_str _ z t "str_ascii_iterator" (.inl rfl)) ⟨_, Heap.get?_push_size _ rfl, rfl, rfl⟩ q)
  subst ex
  cases r1
  have fr : ∀ b ∈ [s1.heap.objs.size], FpOk X pins H1 b := fun b hb => by
    rw [show b = s1.heap.objs.size by simpa using hb]
    exact I1.fpOk (Nat.le_refl _) (I1.hok.fresh (Nat.le_refl _))
  rcases q with ⟨⟨xs, hq⟩, q⟩ | ⟨⟨xs, hq⟩, q⟩
  · obtain ⟨its, rv, pl, hz⟩ := I1.list hq
    refine wpAny_pyIter_list pl.isList ?_
    exact ⟨s1.heap.objs.size, [s1.heap.objs.size], _, _, H1, rfl, I1.kept (t' := s1.toks) fun b o e => Heap.get?_push_of_some _ e, turn_list a _, ⟨_, Heap.get?_push_size _ rfl, rfl, rfl⟩, fr, q⟩
  · obtain ⟨its, rv, pl, hz⟩ := I1.tuple hq
    refine wpAny_pyIter_tuple (show s1.heap.IsTuple a its.toArray from pl) ?_
    exact ⟨s1.heap.objs.size, [s1.heap.objs.size], _, _, H1, rfl, I1.kept (t' := s1.toks) fun b o e => Heap.get?_push_of_some _ e, turn_tuple a _, ⟨_, Heap.get?_push_size _ rfl, rfl, rfl⟩, fr, q⟩
theorem it_str {z : Str} : IterOk K (L2.Its z) F ι H ⟨z.cps.toList.map fun c => W.d (.str ⟨#[c]⟩), fun _ => True⟩ := by
  intro i F' ι' S' H' x R g
  refine ⟨fun e => ?_, fun w e => ?_⟩
  · show z.cps.size ≤ i
    rw [e]; simp
  · have hi : i < z.cps.size := by
      have := (List.getElem?_eq_some_iff.mp e).1
      simpa using this
    refine ⟨hi, fun y H'' hy => ?_⟩
    obtain ⟨rfl, c, hc, rfl⟩ := hy
    have e' : (some (W.d (.str ⟨#[c]⟩)) : Option W) = some w := by
      rw [← e]; simp [hc]
    cases e'
    exact ⟨F', .refl, R, .d (.str _)⟩
theorem si_sq (h : SE X E e m) : SI X E tg e (iSq m) := by
  refine PI.le (pi_sq h) fun σ H R h => ?_
  obtain ⟨F, ι, S, ρ, Rl, rs, h⟩ := h
  refine ⟨F, ι, S, ρ, Rl, rs, h.bind.imp fun F1 ι1 H1 w S1 x1 R1 h v r => ?_⟩
  split at h
  · obtain ⟨a, vs, rfl, st, rr⟩ := r.lst_of
    exact .inl ⟨a, rfl, .inl ⟨⟨vs, st.now⟩, h.ok R1 _ (it_list fun F' ι' S' H' x R g => ⟨vs, (st.ext x).now, (RWs.ofD (ι := ι1) rr).ext x⟩)⟩⟩
  · obtain ⟨a, vs, rfl, st, rr⟩ := r.fl_of
    exact .inl ⟨a, rfl, .inl ⟨⟨vs, st.now⟩, h.ok R1 _ (it_list fun F' ι' S' H' x R g => ⟨vs, (st.wk x.toWk).now, (RWs.ofD (ι := ι1) rr).ext x⟩)⟩⟩
  · split at h
    · rename_i n _ ws q
      obtain ⟨a, rfl, hn, vs, e1, rr, hz⟩ := r.ref_of R1 q
      refine .inl ⟨a, rfl, .inl ⟨⟨vs, .of e1⟩, h.ok R1 _ (it_list fun F' ι' S' H' x R g => ?_)⟩⟩
      obtain ⟨rp, ep⟩ := x.pre
      have hn' : ι'[n]? = some a := by rw [ep, List.getElem?_append_left (List.getElem?_eq_some_iff.mp hn).1]; exact hn
      obtain ⟨us, e2, r2, _⟩ := R.cell n a _ hn' g
      exact ⟨us, .of e2, r2⟩
    · exact h.elim
  · obtain rfl := r.str_of
    exact .inr ⟨_, rfl, h.ok R1 _ it_str⟩
  · split at h
    · rename_i q
      obtain ⟨a, vs, rfl, st, rr⟩ := r.tup_of q
      exact .inl ⟨a, rfl, .inr ⟨⟨vs, st.now⟩, h.ok R1 _ (it_tup rr st)⟩⟩
    · exact h.elim
def iEn3 (K : PySem.W.Frag) (ta : TA) : TI := fun σ H R => ta σ H fun vs H1 => ∃ (k : SK) (a : Addr) (xs : List V), vs = [.ref a] ∧ k.Sq K H1 a xs ∧ R (ItE k K a) H1
theorem pi_en3 {ta : TA} (hg : Gl X "enumerate") (hm : X.mg "enumerate" = none) (ha : PA X [e] ta) (hs : starEach [e] X.env = [(false, eval e X.env)] := by rfl) :
    PI X (.Tuple elts kk tpos) (.Call (.Name "enumerate" p) [e] [] pos) (iEn3 X.K ta) := by
  refine ⟨fun pins s σ H R I h => ?_⟩
  refine Call_ (ld_blt I hg hm boot_enumerate (PyProof.Rows.callWith_type1 (thn (ha.run pos pins s σ H _ I h) fun us s1 ⟨vs, H1, I1, r1, q1⟩ => ?_) hs rfl))
  obtain ⟨k, a, xs, rfl, hq, q⟩ := q1
  obtain ⟨u, rfl, ru⟩ := vals1 r1
  cases ru
  obtain ⟨its, rv, p', hz⟩ := k.have_ I1 hq
  refine call_enum (k.bg a its.toArray) p' fun h' he hit hsz hk => wpAny_pyIter_enum he ?_
  have I2 : Inv X pins σ H1 { s1 with heap := h' } := I1.kept (t' := s1.toks) hk
  refine ⟨s1.heap.objs.size + 1, [s1.heap.objs.size + 1, s1.heap.objs.size], _, _, H1, rfl, I2, turn_en k a (s1.heap.objs.size + 1) s1.heap.objs.size (Nat.succ_ne_self _), ⟨⟨.none, he⟩, k.st0 hit⟩, fun b hb => ?_, q⟩
  have hle : s1.heap.objs.size ≤ b := by
    rcases (show b = s1.heap.objs.size + 1 ∨ b = s1.heap.objs.size by simpa using hb) with z | z
    · rw [z]; exact Nat.le_add_right _ _
    · rw [z]; exact Nat.le_refl _
  exact I1.fpOk hle (I1.hok.fresh hle)
theorem si_en (hm : X.mg "enumerate" = none) (ha : SA X E [e] ms) (hg : Gl X "enumerate" := by rfl) (hs : starEach [e] X.env = [(false, eval e X.env)] := by rfl) : SI X E (.Tuple elts kk tpos) (.Call (.Name "enumerate" p) [e] [] pos) (iEn ms) := by
  refine PI.le (pi_en3 hg hm ha hs) fun σ H R h => ?_
  obtain ⟨F, ι, S, ρ, Rl, rs, h⟩ := h
  refine ⟨F, ι, S, ρ, Rl, rs, h.bind.imp fun F1 ι1 H1 ws S1 x1 R1 h vs r => ?_⟩
  split at h
  · obtain ⟨v, rfl, r'⟩ := r.one
    split at h
    · obtain ⟨a, us, rfl, st, rr⟩ := r'.lst_of
      exact ⟨skL, a, us, rfl, st.now, h.ok R1 _ (it_en fun F' ι' H' x => ⟨us, (st.ext x).now, (RWs.ofD (ι := ι1) rr).ext x⟩)⟩
    · obtain ⟨a, us, rfl, st, rr⟩ := r'.fl_of
      exact ⟨skL, a, us, rfl, st.now, h.ok R1 _ (it_en fun F' ι' H' x => ⟨us, (st.wk x.toWk).now, (RWs.ofD (ι := ι1) rr).ext x⟩)⟩
    · split at h
      · rename_i q
        obtain ⟨a, us, rfl, st, rr⟩ := r'.tup_of q
        exact ⟨skT, a, us, rfl, st.now, h.ok R1 _ (it_en fun F' ι' H' x => ⟨us, (st.ext x).now, rr.ext x⟩)⟩
      · exact h.elim
  · exact h.elim

/-! ### zip of two lists, of two tuples -/
def zipW (us ws : List W) : List W := us.zipWith (fun u w => mkTup [u, w]) ws
theorem zipW_get {us ws : List W} {i : Nat} {w : W} (e : (zipW us ws)[i]? = some w) : ∃ u v, us[i]? = some u ∧ ws[i]? = some v ∧ w = mkTup [u, v] := by
  unfold zipW at e
  rw [List.getElem?_zipWith] at e
  cases q1 : us[i]? <;> cases q2 : ws[i]? <;> simp [q1, q2] at e
  exact ⟨_, _, rfl, rfl, e.symm⟩
theorem it_zipL {us ws : List W} {a b : Addr} (st : ∀ F' ι' H', Ext F ι H F' ι' H' → ∃ vs zs, SqL K H' a vs ∧ SqL K H' b zs ∧ RWs K F' ι' H' us vs ∧ RWs K F' ι' H' ws zs) : IterOk K (Itz K a b) F ι H ⟨zipW us ws, fun _ => True⟩ := by
  intro i F' ι' S' H' x R g
  obtain ⟨vs, zs, q1, q2, r1, r2⟩ := st F' ι' H' x
  refine ⟨fun e => ⟨vs, zs, q1, q2, ?_⟩, fun w e => ?_⟩
  · have : i = min us.length ws.length := by rw [e]; simp [zipW]
    rw [← r1.length, ← r2.length]; omega
  · obtain ⟨u, v, e1, e2, rfl⟩ := zipW_get e
    obtain ⟨x1, ex, rx⟩ := r1.get' e1
    obtain ⟨y1, ey, ry⟩ := r2.get' e2
    refine ⟨⟨vs, zs, x1, y1, q1, q2, ex, ey⟩, fun y H'' hy => ?_⟩
    obtain ⟨T, x2, y2, rfl, n, rfl, h1, h2⟩ := hy
    have := h1 vs q1; rw [ex] at this; cases this
    have := h2 zs q2; rw [ey] at this; cases this
    obtain ⟨x1, R1, r1⟩ := new_tup R n (.cons rx (.cons ry .nil)) (by show 2 ≤ sizeLine; decide)
    exact ⟨_, x1, R1, r1⟩
theorem it_zipT {us ws : List W} {a b : Addr} (st : ∀ F' ι' H', Ext F ι H F' ι' H' → ∃ vs zs, SqT K H' a vs ∧ SqT K H' b zs ∧ RWs K F' ι' H' us vs ∧ RWs K F' ι' H' ws zs) : IterOk K (RZ.ItzT K a b) F ι H ⟨zipW us ws, fun _ => True⟩ := by
  intro i F' ι' S' H' x R g
  obtain ⟨vs, zs, q1, q2, r1, r2⟩ := st F' ι' H' x
  refine ⟨fun e => ⟨vs, zs, q1, q2, ?_⟩, fun w e => ?_⟩
  · have : i = min us.length ws.length := by rw [e]; simp [zipW]
    rw [← r1.length, ← r2.length]; omega
  · obtain ⟨u, v, e1, e2, rfl⟩ := zipW_get e
    obtain ⟨x1, ex, rx⟩ := r1.get' e1
    obtain ⟨y1, ey, ry⟩ := r2.get' e2
    refine ⟨⟨vs, zs, x1, y1, q1, q2, ex, ey⟩, fun y H'' hy => ?_⟩
    obtain ⟨T, x2, y2, rfl, n, rfl, h1, h2⟩ := hy
    have := h1 vs q1; rw [ex] at this; cases this
    have := h2 zs q2; rw [ey] at this; cases this
    obtain ⟨x1, R1, r1⟩ := new_tup R n (.cons rx (.cons ry .nil)) (by show 2 ≤ sizeLine; decide)
    exact ⟨_, x1, R1, r1⟩
def plL : W → Option (List W)
  | .d (.list xs) => some (xs.map .d)
  | .fl xs => some (xs.map .d)
  | _ => none
def iZp (ms : AM) : IM := fun ρ S => (ms ρ S).bind fun ws S1 => match ws with
  | [u, v] => match plL u, plL v with
    | some xs, some ys => .ok ⟨zipW xs ys, fun _ => True⟩ S1
    | _, _ => match tupOf u, tupOf v with
      | some xs, some ys => .ok ⟨zipW xs ys, fun _ => True⟩ S1
      | _, _ => .bad
  | _ => .bad
theorem RW.pl {w : W} {v : V} {ws : List W} (r : RW K F ι H w v) (e : plL w = some ws) : ∃ a, v = .ref a ∧ ∀ F' ι' H', Ext F ι H F' ι' H' → ∃ vs, SqL K H' a vs ∧ RWs K F' ι' H' ws vs := by
  cases w with
  | d x =>
    cases x <;> simp only [plL] at e <;> try cases e
    obtain ⟨a, us, rfl, st, rr⟩ := r.lst_of
    exact ⟨a, rfl, fun F' ι' H' x => ⟨us, (st.ext x).now, (RWs.ofD (ι := ι) rr).ext x⟩⟩
  | fl xs =>
    cases e
    obtain ⟨a, us, rfl, st, rr⟩ := r.fl_of
    exact ⟨a, rfl, fun F' ι' H' x => ⟨us, (st.wk x.toWk).now, (RWs.ofD (ι := ι) rr).ext x⟩⟩
  | _ => cases e
theorem si_zip (hm : X.mg "zip" = none) (ha : SA X E [e, e2] ms) (hg : Gl X "zip" := by rfl) (hs : starEach [e, e2] X.env = (false, eval e X.env) :: starEach [e2] X.env := by rfl) (hpl : (backTo pos (starEach [e2] X.env)).any (·.1) = false := by rfl) :
    SI X E (.Tuple elts kk tpos) (.Call (.Name "zip" p) [e, e2] [] pos) (iZp ms) := by
  refine PI.le (RZ.pi_zipA hg hm ha hs hpl) fun σ H R h => ?_
  obtain ⟨F, ι, S, ρ, Rl, rs, h⟩ := h
  refine ⟨F, ι, S, ρ, Rl, rs, h.bind.imp fun F1 ι1 H1 ws S1 x1 R1 h vs r => ?_⟩
  split at h
  · obtain ⟨v, z, rfl, r1, r2⟩ := r.two
    split at h
    · rename_i q1 q2
      obtain ⟨a, rfl, k1⟩ := r1.pl q1
      obtain ⟨b, rfl, k2⟩ := r2.pl q2
      obtain ⟨us, s1, _⟩ := k1 _ _ _ .refl
      obtain ⟨zs, s2, _⟩ := k2 _ _ _ .refl
      refine ⟨a, b, us, zs, rfl, .inl ⟨s1, s2, h.ok R1 _ (it_zipL fun F' ι' H' x => ?_)⟩⟩
      obtain ⟨us, s1, q1⟩ := k1 _ _ _ x
      obtain ⟨zs, s2, q2⟩ := k2 _ _ _ x
      exact ⟨us, zs, s1, s2, q1, q2⟩
    · split at h
      · rename_i q1 q2
        obtain ⟨a, us, rfl, s1, rr1⟩ := r1.tup_of q1
        obtain ⟨b, zs, rfl, s2, rr2⟩ := r2.tup_of q2
        exact ⟨a, b, us, zs, rfl, .inr ⟨s1.now, s2.now, h.ok R1 _ (it_zipT fun F' ι' H' x => ⟨us, zs, (s1.ext x).now, (s2.ext x).now, rr1.ext x, rr2.ext x⟩)⟩⟩
      · exact h.elim
  · exact h.elim
end

/-! ### f(k = v, ..), all by their names -/
def permW {α : Type} (π : List Nat) (ws : List α) : List α := π.filterMap (ws[·]?)
structure KB (K : PySem.W.Frag) (fd : FuncData) (ps ks : List Str) (π : List Nat) : Prop where
  to : ∀ (s : Shared) (ws : List Value), ws.length = ks.length → BindsTo s fd ⟨[], ks.zip ws⟩ (ps.zip (permW π ws))
def aKw (π : List Nat) (ms : AM) : AM := fun ρ S => (ms ρ S).bind fun ws S1 => .ok (permW π ws) S1
def SK' (X : Cx) (E : EX) (kws : List Keyword) (m : AM) : Prop := PK X kws (tA X.K E m)
section
variable {X : Cx} {E : EX} {pos p kpos : Pos} {e : Expr} {kws : List Keyword} {m : EM} {ms : AM} {x : Str} {f : Addr} {fd : FuncData} {k : Nat} {ps ks : List Str} {fm : FM} {π : List Nat} {nm : Option Str} {K : PySem.W.Frag} {F : FS} {ι : List Addr} {H : Hp}
theorem sk_nil : SK' X E [] aNil := ⟨fun pos pins s σ H Q I h => by
  obtain ⟨F, ι, S, ρ, R, rs, h⟩ := h
  exact pk_nil.run pos pins s σ H Q I (h.ok R [] .nil)⟩
theorem sk_cons (h1 : SE X E e m) (h2 : SK' X E kws ms) : SK' X E (⟨nm, e, kpos⟩ :: kws) (aCons m ms) := ⟨fun pos pins s σ H Q I h => by
  refine (pk_cons h1 h2).run pos pins s σ H Q I ?_
  obtain ⟨F, ι, S, ρ, R, rs, h⟩ := h
  refine ⟨F, ι, S, ρ, R, rs, h.bind.imp fun F1 ι1 H1 w S1 x1 R1 h v r => ?_⟩
  refine ⟨F1, ι1, S1, ρ, R1, rs.ext x1, h.bind.imp fun F2 ι2 H2 ws S2 x2 R2 h vs rvs => ?_⟩
  exact h.ok R2 (v :: vs) (.cons (r.ext x2) rvs)⟩
theorem permW_rel {ws : List W} {vs : List V} (r : RWs K F ι H ws vs) : ∀ π : List Nat, RWs K F ι H (permW π ws) (permW π vs)
  | [] => .nil
  | i :: π => by
    unfold permW
    rw [List.filterMap_cons, List.filterMap_cons]
    cases q : ws[i]? with
    | some w =>
      obtain ⟨v, e, rv⟩ := r.get' q
      rw [e]
      exact .cons rv (permW_rel r π)
    | none =>
      have : vs[i]? = none := by
        rw [List.getElem?_eq_none_iff] at q ⊢
        rw [← r.length]; exact q
      rw [this]
      exact permW_rel r π
theorem permW_vals {vs : List V} {us : List Value} (r : Vals vs us) : ∀ π : List Nat, Vals (permW π vs) (permW π us)
  | [] => .nil
  | i :: π => by
    unfold permW
    rw [List.filterMap_cons, List.filterMap_cons]
    cases q : vs[i]? with
    | some w =>
      obtain ⟨v, e, rv⟩ := r.get q
      rw [e]
      exact .cons rv (permW_vals r π)
    | none =>
      rw [Vals.none_of r q]
      exact permW_vals r π
theorem s_callK {cf : FM → List W → Sto → Out W} (pure_ : Bool) (hcf : cf = if pure_ then callP else callE) {Wt : WX} (tk : Tk X E Wt) (G : FnOk X.prog X.w X.K X.mg X.base (L2.CX X.prog X.w) k f fd ps (spM X.K X.mg ps.length fm)) (hr : Room k X.A) (hm : X.mg x = some (.ref f)) (hk : PySem.W.keepIn X.K (.ref f) = true) (hb : KB X.K fd ps ks π)
    (ha : SK' X E kws ms) (hlen : ∀ ρ S ws S', aKw π ms ρ S = .ok ws S' → ws.length = ps.length) (hl2 : ∀ ρ S ws S', ms ρ S = .ok ws S' → ws.length = ks.length) (hg : Gl X x := by rfl) (hdb : (x == ("__debug__" : Str)) = false := by decide) (hall : (backToKw pos (keywordEach kws X.env)).all (·.1.isSome) = true := by rfl) (hks : (backToKw pos (keywordEach kws X.env)).filterMap (·.1) = ks := by rfl)
    (hpl : ((backTo pos (starEach [] X.env)).any (·.1) || (backToKw pos (keywordEach kws X.env)).any (·.1.isNone)) = false := by rfl) : SE X E (.Call (.Name x p) [] kws pos) (eCall (cf fm) (aKw π ms)) := by
  refine ⟨fun pins s σ H Q I h => ?_⟩
  refine wpAny_Call_Name_kw (ld_glob I hg hm ?_ hdb)
  refine PySem.W.callWith_KW0 (h₀ := X.base) I.ok.mod.kin hk hall ?_ hpl
  -- the keywords' values
  have h1 : tA X.K E ms σ H fun vs H1 => vs.length = ks.length ∧ spM X.K X.mg ps.length fm (permW π vs) H1 Q (WE Wt σ) := by
    obtain ⟨F, ι, S, ρ, R, rs, h⟩ := h
    refine ⟨F, ι, S, ρ, R, rs, ?_⟩
    unfold eCall at h
    cases q : ms ρ S with
    | bad => unfold aKw at h; rw [q] at h; exact h.elim
    | exc e S1 => unfold aKw at h; rw [q] at h; exact h
    | ok ws S1 =>
      have hl := hlen ρ S (permW π ws) S1 (by unfold aKw; rw [q])
      unfold aKw at h; rw [q] at h
      intro F1 ι1 H1 x1 R1 vs r
      refine ⟨by rw [← r.length]; exact hl2 _ _ _ _ q, ?_⟩
      cases pure_ with
      | true =>
        simp only [if_true] at hcf
        subst hcf
        exact pureC R1 (permW_rel r π) hl ((Post.ext (o := callP fm (permW π ws) S1) h x1).wish fun n d H h C hm => tk.lk n C d σ H hm h)
      | false =>
        simp only [Bool.false_eq_true, if_false] at hcf
        subst hcf
        exact ⟨F1, ι1, S1, permW π ws, R1, permW_rel r π, hl, (Post.ext (o := callE fm (permW π ws) S1) h x1).wish fun n d H h C hm => tk.lk n C d σ H hm h⟩
  refine thn (ha.run pos pins s σ H _ I h1) fun us s1 ⟨vs, H1, I1, r, hl, hsp⟩ => ⟨I1.kIn, ?_⟩
  rw [hks]
  have r2 := permW_vals r π
  refine wpAny_call (codeAny_mono (G.run X.A X.stack s1 H1 ⟨[], ks.zip us⟩ (permW π us) (permW π vs) Q (WE Wt σ) hr I1.env0 (hb.to s1 us (by rw [← r.length]; exact hl)) r2 hsp) fun res s' hq => ?_)
  cases res with
  | error e => exact passAt tk.tk σ pins H1 s1 e s' I1 hq
  | ok fl =>
    cases fl with
    | ret u => exact I1.after hq
    | next => exact False.elim hq
    | brk => exact False.elim hq
    | cont => exact False.elim hq
end

/-! ### the law's end -/
theorem sp_end {K : PySem.W.Frag} {mg : Str → Option Value} {H : Hp} {a : Addr} {ns : List Int} {m : FM} (hz : ns.length ≤ 63) (hS : SqL K H a (ns.map V.int)) (hH : H a ≠ none) (hst : ∀ H', (∀ b o, H b = some o → H' b = some o) → SqL K H' a (ns.map V.int))
    (h : m [.fl (ns.map .int)] [] = .ok (.d (.bool true)) S') : spM K mg 1 m [.ref a] H (fun v _ => v = .bl true) fun _ _ _ => False := by
  have rd : RDs K (fun b => H b ≠ none) H (ns.map .int) (ns.map V.int) := by
    clear hz hS hst h
    induction ns with
    | nil => exact .nil
    | cons n r ih => exact .cons (.int n) ih
  refine ⟨fun b => H b ≠ none, [], [], [.fl (ns.map .int)], .nil fun a h => h, .cons (.fl ⟨?_, fun H' g => hst H' fun b o e => g b o (by show H b ≠ none; rw [e]; simp) e⟩ rd) .nil, rfl, ?_⟩
  · rw [List.length_map]; exact Nat.le_trans hz (by decide)
  · rw [h]
    intro F' ι' H' x R v r
    exact r.bl_of
end Sh
end

section
namespace Sh
open PySem PySem.Spec PyProof.Rows L2
open Classical

theorem fm_congr {α β : Type} {f g : α → Option β} : ∀ {l : List α}, (∀ m ∈ l, f m = g m) → l.filterMap f = l.filterMap g
  | [], _ => rfl
  | x :: r, h => by rw [List.filterMap_cons, List.filterMap_cons, h x (by simp), fm_congr fun m hm => h m (by simp [hm])]
section
variable {X : Cx} {E : EX} {pos : Pos} {a b c e : Expr} {ma mb mc m : EM} {f g : Op2} {r r' : R2} {K : PySem.W.Frag} {F : FS} {ι : List Addr} {S : Sto} {H : Hp}
theorem tTest_le {t : TE} {m : EM} (k : ∀ σ H Q, tE X.K E m σ H Q → t σ H Q) {σ : L2.St} {H : Hp} {Q : Bool → Hp → Prop} (h : tB X.K E (bOf m) σ H Q) : tTest t σ H Q := by
  refine k σ H _ ?_
  obtain ⟨F, ι, S, ρ, R, rs, h⟩ := h
  refine ⟨F, ι, S, ρ, R, rs, h.bind.imp fun F1 ι1 H1 w S1 x1 R1 h v r => ?_⟩
  split at h
  · exact ⟨_, r.bl_of, h.ok R1⟩
  · exact h.elim
theorem sb_cmp {op : CmpOp} (ho : OpR X (compareOp op) r) (hr : Ok2 X r f) (ha : SE X E a ma) (hb : SE X E b mb) (hm : behindInMarks op b = false := by first | exact nomark _ | rfl) : SB X E (.Compare a [op] [b] pos) (bOf (eOp2 f ma mb)) :=
  PT.le (pt_cmpR ho ha hb hm) fun σ H Q h => tTest_le (fun σ H Q h => op2_le hr h) h
theorem sb_chain {op op' : CmpOp} (ho : OpR X (compareOp op) r) (ho' : OpR X (compareOp op') r') (hr : Ok2 X r f) (hr' : Ok2 X r' g) (ha : SE X E a ma) (hb : SE X E b mb) (hc : SE X E c mc)
    (hm : lastMarks [op, op'] [b, c] = false := by with_unfolding_all rfl) : SB X E (.Compare a [op, op'] [b, c] pos) (bOf (eChain f g ma mb mc)) := by
  refine PT.le (pt_chain ho ho' ha hb hc hm) fun σ H Q h => tTest_le (fun σ H Q h => ?_) h
  obtain ⟨F, ι, S, ρ, R, rs, h⟩ := h
  refine ⟨F, ι, S, ρ, R, rs, h.bind.imp fun F1 ι1 H1 x S1 x1 R1 h v rv => ?_⟩
  refine ⟨F1, ι1, S1, ρ, R1, rs.ext x1, h.bind.imp fun F2 ι2 H2 y S2 x2 R2 h u ru => ?_⟩
  refine hr (E σ) F2 ι2 S2 H2 x y v u _ R2 (rv.ext x2) ru (h.bind.imp fun F3 ι3 H3 z S3 x3 R3 h k rk => ?_)
  split at h
  · exact ⟨true, rk.bl_of, iteT ⟨F3, ι3, S3, ρ, R3, (rs.ext x1 |>.ext x2).ext x3, h.bind.imp fun F4 ι4 H4 t S4 x4 R4 h q rq => hr' (E σ) F4 ι4 S4 H4 y t u q Q R4 ((ru.ext x3).ext x4) rq h⟩⟩
  · exact ⟨false, rk.bl_of, iteF (h.ok R3 _ (.d (.bl false)))⟩
  · exact h.elim
theorem sm_par3 {i j l : Nat} {x y z : Str} {ms : AM} {px py pz pt : Pos} {kt k2 pt2} (hc : X.calm = true) (hN : X.N.Nodup) (ha : SA X E [a, b, c] ms) (hij : i ≠ j := by decide) (hil : i ≠ l := by decide) (hjl : j ≠ l := by decide) (hi : X.N[i]? = some x := by rfl) (hj : X.N[j]? = some y := by rfl) (hl : X.N[l]? = some z := by rfl)
    (hx : X.env.scope.names.lookup x = some .local := by rfl) (hy : X.env.scope.names.lookup y = some .local := by rfl) (hz : X.env.scope.names.lookup z = some .local := by rfl)
    (hw : swappedStores [.Tuple [.Name x px, .Name y py, .Name z pz] kt pt] (.Tuple [a, b, c] k2 pt2) X.env = pure (some [x, y, z]) := by rfl)
    (hs : swapsWithSole [.Tuple [.Name x px, .Name y py, .Name z pz] kt pt] (.Tuple [a, b, c] k2 pt2) pos.line X.env = pure false := by rfl) :
    SS X E (.Assign [.Tuple [.Name x px, .Name y py, .Name z pz] kt pt] (.Tuple [a, b, c] k2 pt2) pos) (cPar3 i j l ms) := by
  refine PS.le (ps_par3 hc hN hi hj hl hij hil hjl hx hy hz ha hw hs) fun D σ H h => ?_
  obtain ⟨F, ι, S, ρ, R, rs, h⟩ := h
  refine ⟨F, ι, S, ρ, R, rs, (h.exq rs).imp fun F1 ι1 H1 ws S1 x1 R1 h vs r => ?_⟩
  split at h
  · cases r with | cons r1 r => cases r with | cons r2 r => cases r with | cons r3 r => cases r; exact ⟨_, _, _, rfl, h.ok R1 _ ((((rs.ext x1).set r1 i).set r2 j).set r3 l)⟩
  · exact h.elim

/-! ### a[::-1] -/
theorem tup_rev {prog : Program} {w : World} {A : Around} {Ex : Value → Shared → Prop} {s : Shared} {t sl : Addr} {items : Array Value} {vk : Value} {Q : Value → Shared → Prop} (ht : IsTup s.heap t items) (hs : ∃ os, s.heap.get? sl = some os ∧ os.cls = .type "slice" ∧ os.data = .fields #[.none, .none, vk]) (pk : IsPart vk (some (-1)))
    (h : Q (.ref s.heap.objs.size) { s with heap := s.heap.push { cls := .type "tuple", data := .seq items.toList.reverse.toArray } }) (hsz : items.size ≤ sizeLine) : wpAny (model prog w) A (getItem (.ref t) (.ref sl)) Q Ex s := by
  obtain ⟨os, hos, hcs, hds⟩ := hs
  have hTs : s.TypeIs (.ref sl) "slice" := ⟨os, hos, hcs⟩
  unfold getItem
  try with_reducible refine wpAny_holding ?_
  first | refine wpAny_bind (wpAny_pure ?_) | skip
  refine wpAny_bind (wpAny_sequenceKey ht.typeIs (by decide) ?_)
  refine wpAny_bind (wpAny_callSpecial?_slot (name := Str.ofString "__getitem__") ht.typeIs PyProof.Rows.slot_tuple_getitem
    (wpAny_call_entry PyProof.Rows.slot_tuple_getitem ht.typeIs entry_tuple_getitem ?_ (args_tuple_getitem _ _)))
  show wpAny _ _ (Builtin.Tuple.tupleItemsOf (.ref t) >>= _) _ _ s
  refine wpAny_bind (tupleItemsOf_ ht ?_)
  refine wpAny_bind (wpAny_typeOf hTs ?_)
  rw [if_pos (by decide)]
  have hap : ∀ {Q' : Int × Int × Nat → Shared → Prop}, Q' ((items.size : Int) - 1, -1, items.size) s → wpAny (model prog w) A.in1 (Builtin.Slice.sliceApplied (.ref sl) (pure (items.size : Int))) Q' Ex s := by
    intro Q' hq
    unfold Builtin.Slice.sliceApplied Builtin.Slice.sliceFields
    refine wpAny_bind (wpAny_bind (wpAny_field hos hds (x := .none) rfl (wpAny_bind (wpAny_field hos hds (x := .none) rfl (wpAny_bind (wpAny_field hos hds (x := vk) rfl (wpAny_pure ?_)))))))
    refine wpAny_bind (HT.slicePart_ pk ?_)
    show wpAny _ _ (if ((-1 : Int) == 0) = true then _ else _) _ _ s
    rw [if_neg (by decide)]
    refine wpAny_bind (HT.slicePart_ .none (wpAny_bind (HT.slicePart_ .none (wpAny_bind (wpAny_pure ?_)))))
    have e1 : Builtin.Slice.sliceAdjust none none (-1) (items.size : Int) = ((items.size : Int) - 1, -1) := rfl
    have e2 : Builtin.Slice.slicePlaces ((items.size : Int) - 1) (-1) (-1) = items.size := by
      unfold Builtin.Slice.slicePlaces
      rw [if_neg (by decide)]
      split
      · have : (-(-1) : Int) = 1 := by decide
        rw [this, Int.ediv_one]; omega
      · omega
    show wpAny _ _ (match Builtin.Slice.sliceAdjust none none (-1) (items.size : Int) with | (lo, hi) => pure (lo, (-1 : Int), Builtin.Slice.slicePlaces lo hi (-1))) _ _ s
    rw [e1]
    show wpAny _ _ (pure (((items.size : Int) - 1), (-1 : Int), Builtin.Slice.slicePlaces ((items.size : Int) - 1) (-1) (-1))) _ _ s
    rw [e2]
    exact wpAny_pure hq
  refine wpAny_bind (hap ?_)
  have hno : ¬ (((items.size : Int) - 1 == 0 && (-1 : Int) == 1 && items.size == items.size) = true) := by simp
  show wpAny _ _ (if ((items.size : Int) - 1 == 0 && (-1 : Int) == 1 && items.size == items.size) = true then _ else _) _ _ s
  rw [if_neg hno]
  have hpick : ((List.range items.size).filterMap fun (m : Nat) => items[(((items.size : Int) - 1) + (m : Int) * (-1)).toNat]?).toArray = items.toList.reverse.toArray := by
    congr 1
    have e3 : ∀ m ∈ List.range items.size, items[(((items.size : Int) - 1) + (m : Int) * (-1)).toNat]? = items[items.size - 1 - m]? := fun m hm => by
      have := List.mem_range.mp hm
      congr 1; omega
    rw [fm_congr e3]
    have e4 := PySem.W.krv_range items.size
    have e5 : (List.range items.size).filterMap (fun m => items[items.size - 1 - m]?) = ((List.range items.size).map (fun k => items.size - 1 - k)).filterMap (items[·]?) := by
      rw [List.filterMap_map]; rfl
    rw [e5, e4, List.filterMap_reverse, PySem.W.krv_all]
  rw [hpick]
  have hz : sizeOk (.seq items.toList.reverse.toArray) := by
    show items.toList.reverse.toArray.size ≤ sizeLine
    rw [List.size_toArray, List.length_reverse, Array.length_toList]; exact hsz
  first
    | exact wpAny_bind (m := Builtin.Tuple.tupleExact _) (wpAny_newObj_type (wpAny_pure ⟨_, rfl, wpAny_pure h⟩) hz)
    | exact wpAny_bind (wpAny_bind (m := Builtin.Tuple.tupleExact _) (wpAny_newObj_type (wpAny_pure (wpAny_pure ⟨_, rfl, wpAny_pure h⟩)) hz))
    | exact wpAny_bind (m := Builtin.Tuple.tupleExact _) (wpAny_newObj_type (wpAny_bind (wpAny_pure (wpAny_pure ⟨_, rfl, wpAny_pure h⟩))) hz)
def opRev : Op1 := fun x S => match x with
  | .d (.list xs) => .ok (.d (.list xs.reverse)) S
  | .fl xs => .ok (.d (.list xs.reverse)) S
  | x => match tupOf x with
    | some ws => .ok (mkTup ws.reverse) S
    | none => .bad
theorem RDs.rev {xs : List PyData} {vs : List V} (r : RDs K F H xs vs) : RDs K F H xs.reverse vs.reverse := by
  induction xs generalizing vs with
  | nil => cases r; exact .nil
  | cons x xs ih => cases r with | cons a b => rw [List.reverse_cons, List.reverse_cons]; exact (ih b).append (.cons a .nil)
theorem RWs.rev {xs : List W} {vs : List V} (r : RWs K F ι H xs vs) : RWs K F ι H xs.reverse vs.reverse := by
  induction xs generalizing vs with
  | nil => cases r; exact .nil
  | cons x xs ih => cases r with | cons a b => rw [List.reverse_cons, List.reverse_cons]; exact (ih b).append (.cons a .nil)
def tRevS (K : PySem.W.Frag) (te : TE) : TE := fun σ H Q => te σ H fun x H1 => ∃ a xs, x = .ref a ∧ ((SqL K H1 a xs ∧ ∀ p, H1 p = none → Q (.ref p) (upd H1 p (.lst xs.reverse))) ∨ (SqT K H1 a xs ∧ ∀ p, H1 p = none → Q (.ref p) (upd H1 p (.tup xs.reverse))))
theorem pe_revS {te : TE} {k : Nat} {p1 p2 p3 pos : Pos} (he : PE X e te) : PE X (.Subscript e (.Slice none none (some (.UnaryOp .USub (.Constant (.int 1) k p1) p2)) p3) pos) (tRevS X.K te) := by
  refine ⟨fun pins s σ H Q I h => ?_⟩
  refine Subscript_ (thn (he.run pins s σ H _ I h) fun v s1 ⟨x, H1, I1, r1, q1⟩ => ?_)
  obtain ⟨a, xs, ex, q⟩ := q1
  subst ex
  cases r1
  have hst : PO X (some (.UnaryOp .USub (.Constant (.int 1) k p1) p2)) (tPart (tUn (rU fun i => .int (-i)) (tC (.int 1)))) := po_some (pe_un un_neg pe_int)
  refine wpAny_Slice (thn (po_none.run pins s1 σ H1 (fun o H2 => o = none ∧ H2 = H1) I1 ⟨rfl, rfl⟩) fun vl s2 ⟨l, H2, I2, pl, el, e2⟩ => ?_)
  subst el e2
  refine thn (po_none.run pins s2 σ H2 (fun o H3 => o = none ∧ H3 = H2) I2 ⟨rfl, rfl⟩) fun vu s3 ⟨u, H3, I3, pu, eu, e3⟩ => ?_
  subst eu e3
  refine thn (hst.run pins s3 σ H3 (fun o H4 => o = some (-1) ∧ H4 = H3) I3 ⟨1, rfl, -1, rfl, rfl, rfl⟩) fun vs s4 ⟨o, H4, I4, ps, eo, e4⟩ => ?_
  subst eo e4
  have I5 : Inv X pins σ H4 { s4 with heap := s4.heap.push { cls := .type "slice", data := .fields #[vl, vu, vs] } } := I4.kept (t' := s4.toks) fun b ob q => Heap.get?_push_of_some _ q
  show wpAny (model X.prog X.w) X.A (subscriptTail e (.Slice none none (some (.UnaryOp .USub (.Constant (.int 1) k p1) p2)) p3) (.ref a) (.ref s4.heap.objs.size)) (EP X pins σ Q) X.xe { s4 with heap := s4.heap.push { cls := .type "slice", data := .fields #[vl, vu, vs] } }
  rcases q with ⟨hx, q⟩ | ⟨hx, q⟩
  · obtain ⟨its, r, ht, hz⟩ := I5.list hx
    have hlen := r.length
    refine tail_any (ops := [.ref a, .ref s4.heap.objs.size]) ht.isList.typeIs (PySem.slot_list_getitem.lookup) ?_ (by with_unfolding_all rfl)
    refine wpAny_getItem_list_slice ht.isList (Heap.IsSliceOf.new _ vl vu vs) pl pu ps (by decide) ?_ (by rw [List.size_toArray]; omega)
    rw [PySem.W.krv_pick]
    exact ⟨.ref _, _, I5.laid (t' := s4.toks) (o := .lst xs.reverse) (fun b ob q => Heap.get?_push_of_some _ q) (Nat.le_refl _) ⟨by rw [List.length_reverse]; exact hz, _, 0, r.reverse, Heap.get?_push_size _ rfl⟩, rfl, q _ (I5.hok.fresh (Nat.le_refl _))⟩
  · obtain ⟨its, r, ht, hz⟩ := I5.tuple hx
    have hlen := r.length
    cases pl
    cases pu
    refine tail_any (ops := [.ref a, .ref s4.heap.objs.size]) ht.typeIs PyProof.Rows.slot_tuple_getitem.lookup ?_ (by with_unfolding_all rfl)
    refine tup_rev ht ⟨_, Heap.get?_push_size _ rfl, rfl, rfl⟩ ps ?_ (by rw [List.size_toArray]; omega)
    exact ⟨.ref _, _, I5.laid (t' := s4.toks) (o := .tup xs.reverse) (fun b ob q => Heap.get?_push_of_some _ q) (Nat.le_refl _) ⟨by rw [List.length_reverse]; exact hz, _, r.reverse, IsTup.new _ _⟩, rfl, q _ (I5.hok.fresh (Nat.le_refl _))⟩
theorem s_rev {k : Nat} {p1 p2 p3 pos : Pos} (h : SE X E e m) : SE X E (.Subscript e (.Slice none none (some (.UnaryOp .USub (.Constant (.int 1) k p1) p2)) p3) pos) (eOp1 opRev m) := by
  refine PE.le (pe_revS h) fun σ H Q h => ?_
  obtain ⟨F, ι, S, ρ, R, rs, h⟩ := h
  refine ⟨F, ι, S, ρ, R, rs, h.bind.imp fun F1 ι1 H1 w S1 x1 R1 h v r => ?_⟩
  unfold opRev at h
  split at h
  · obtain ⟨a, vs, rfl, st, rr⟩ := r.lst_of
    refine ⟨a, vs, rfl, .inl ⟨st.now, fun p n => ?_⟩⟩
    obtain ⟨y, R', r'⟩ := new_lst R1 n rr.rev (by rw [List.length_reverse, rr.length]; exact st.1)
    exact h _ _ _ y R' _ r'
  · obtain ⟨a, vs, rfl, st, rr⟩ := r.fl_of
    refine ⟨a, vs, rfl, .inl ⟨st.now, fun p n => ?_⟩⟩
    obtain ⟨y, R', r'⟩ := new_lst R1 n rr.rev (by rw [List.length_reverse, rr.length]; exact st.1)
    exact h _ _ _ y R' _ r'
  · split at h
    · rename_i q
      obtain ⟨a, vs, rfl, st, rr⟩ := r.tup_of q
      refine ⟨a, vs, rfl, .inr ⟨st.now, fun p n => ?_⟩⟩
      obtain ⟨y, R', r'⟩ := new_tup R1 n rr.rev (by rw [List.length_reverse, rr.length]; exact st.1)
      exact h _ _ _ y R' _ r'
    · exact h.elim
end
end Sh
end

section
namespace Sh
open PySem PySem.Spec PyProof.Rows L2
open Classical

theorem blk_by {N : List Str} {sc scope : Scope} {own : List (Str × Nat)} (h : blkC N sc scope own = true) : BlkOk N sc scope own := blkOk_by h
theorem hu65 {A : Around} {k : Nat} (hr : Room k A) : A.units + 65 < cLine := by have := hr.un; omega
theorem alen_kw {π : List Nat} {ms : AM} {n : Nat} (h : ∀ ρ S ws S', ms ρ S = .ok ws S' → ws.length = n) (hp : π.all (· < n) = true := by decide) : ∀ ρ S ws S', aKw π ms ρ S = .ok ws S' → ws.length = π.length := fun ρ S ws S' e => by
  unfold aKw at e
  cases q : ms ρ S with
  | ok us S1 =>
    rw [q] at e
    cases e
    have hl := h _ _ _ _ q
    clear q
    unfold permW
    induction π with
    | nil => rfl
    | cons i π ih =>
      simp only [List.all_cons, Bool.and_eq_true, decide_eq_true_eq] at hp
      rw [List.filterMap_cons, List.getElem?_eq_getElem (by omega : i < us.length)]
      simp only [List.length_cons]
      rw [ih (by simpa using hp.2)]
  | exc _ _ => rw [q] at e; cases e
  | bad => rw [q] at e; cases e
section
variable {P : Program} {w : World} {K : PySem.W.Frag} {mg : Str → Option Value} {base : Heap} {N : List Str} {qual : Str} {scope : Scope} {f : Addr} {cdv : Value} {A : Around} {outer : List Env} {s : Shared} {H : Hp} {E : XK}
theorem tk_body : Tk (cxOf (L2.CX P w) P w K mg base N qual scope f cdv A outer s H E) (fun _ => byN mg E) (fun cls d _ H => E cls d H) :=
  ⟨takes_of rfl rfl rfl rfl, fun n C d σ H hm h => h C hm⟩
theorem po_body : PassesOwn (model P w) (cxOf (L2.CX P w) P w K mg base N qual scope f cdv A outer s H E).A (cxOf (L2.CX P w) P w K mg base N qual scope f cdv A outer s H E).env (cxOf (L2.CX P w) P w K mg base N qual scope f cdv A outer s H E).xe := passes_of (X := cxOf (L2.CX P w) P w K mg base N qual scope f cdv A outer s H E) rfl
end
theorem SqL.same {K : PySem.W.Frag} {H H' : Hp} {a : Addr} {xs : List V} (h : SqL K H a xs) (k : ∀ b o, H b = some o → H' b = some o) : SqL K H' a xs := Same.seq (fun b o e => k b o e) h
theorem cx_end {P : Program} {w : World} {H : Hp} {s : Shared} {e : Value} {s' : Shared} (h : L2.CX P w [] H s (fun _ _ _ => False) e s') : False := by
  obtain ⟨_, _, _, _, _, _, _, _, _, _, _, _, z⟩ := h
  exact z
theorem law_sp {K : PySem.W.Frag} {mg : Str → Option Value} {H : Hp} {a : Addr} {ns : List Int} {m : FM} {Q : VK} {E : XK} {S' : Sto} (hz : ns.length ≤ 63) (hst : ∀ H' : Hp, (∀ b o, H b = some o → H' b = some o) → SqL K H' a (ns.map V.int))
    (h : m [.fl (ns.map .int)] [] = .ok (.d (.bool true)) S') (hq : ∀ H', Q (.bl true) H') : spM K mg 1 m [.ref a] H Q E := by
  have rd : RDs K (fun b => H b ≠ none) H (ns.map .int) (ns.map V.int) := by
    clear hz hst h
    induction ns with
    | nil => exact .nil
    | cons n r ih => exact .cons (.int n) ih
  refine ⟨fun b => H b ≠ none, [], [], [.fl (ns.map .int)], .nil fun a h => h, .cons (.fl ⟨?_, fun H' g => hst H' fun b o e => g b o (by show H b ≠ none; rw [e]; simp) e⟩ rd) .nil, rfl, ?_⟩
  · rw [List.length_map]; exact Nat.le_trans hz (by decide)
  · rw [h]
    intro F' ι' H' x R v r
    obtain rfl := r.bl_of
    exact hq H'
end Sh
end

section
/-! Sh: how the plain functions compute. -/
namespace Sh
open PySem PySem.Spec PyProof.Rows L2
open Classical

/-! ### each construct at a state -/
theorem eVar_ap {i : Nat} {ρ : Rho} {S : Sto} : eVar i ρ S = (match ρ[i]? with
  | some (some w) => .ok w S
  | _ => .bad) := rfl
theorem eK_ap {w : W} {ρ : Rho} {S : Sto} : eK w ρ S = (.ok w S) := rfl
theorem aNil_ap  {ρ : Rho} {S : Sto} : aNil  ρ S = (.ok [] S) := rfl
theorem aCons_ap {m : EM} {ms : AM} {ρ : Rho} {S : Sto} : aCons m ms ρ S = ((m ρ S).bind fun w S1 => (ms ρ S1).bind fun ws S2 => .ok (w :: ws) S2) := rfl
theorem eOp2_ap {f : Op2} {ma mb : EM} {ρ : Rho} {S : Sto} : eOp2 f ma mb ρ S = ((ma ρ S).bind fun x S1 => (mb ρ S1).bind fun y S2 => f x y S2) := rfl
theorem eOp1_ap {f : Op1} {ma : EM} {ρ : Rho} {S : Sto} : eOp1 f ma ρ S = ((ma ρ S).bind fun x S1 => f x S1) := rfl
theorem eChain_ap {f g : Op2} {ma mb mc : EM} {ρ : Rho} {S : Sto} : eChain f g ma mb mc ρ S = ((ma ρ S).bind fun x S1 => (mb ρ S1).bind fun y S2 => (f x y S2).bind fun z S3 => match z with
  | .d (.bool true) => (mc ρ S3).bind fun u S4 => g y u S4
  | .d (.bool false) => .ok (.d (.bool false)) S3
  | _ => .bad) := rfl
theorem bOf_ap {m : EM} {ρ : Rho} {S : Sto} : bOf m ρ S = ((m ρ S).bind fun w S1 => match w with
  | .d (.bool b) => .ok b S1
  | _ => .bad) := rfl
theorem bNot_ap {m : BM} {ρ : Rho} {S : Sto} : bNot m ρ S = ((m ρ S).bind fun b S1 => .ok (!b) S1) := rfl
theorem bAnd_ap {m n : BM} {ρ : Rho} {S : Sto} : bAnd m n ρ S = ((m ρ S).bind fun b S1 => if b = true then n ρ S1 else .ok false S1) := rfl
theorem bOr_ap {m n : BM} {ρ : Rho} {S : Sto} : bOr m n ρ S = ((m ρ S).bind fun b S1 => if b = true then .ok true S1 else n ρ S1) := rfl
theorem eAnd_ap {m n : EM} {ρ : Rho} {S : Sto} : eAnd m n ρ S = ((m ρ S).bind fun w S1 => match w with
  | .d (.bool true) => n ρ S1
  | .d (.bool false) => .ok (.d (.bool false)) S1
  | _ => .bad) := rfl
theorem eOr_ap {m n : EM} {ρ : Rho} {S : Sto} : eOr m n ρ S = ((m ρ S).bind fun w S1 => match w with
  | .d (.bool false) => n ρ S1
  | .d (.bool true) => .ok (.d (.bool true)) S1
  | _ => .bad) := rfl
theorem eNot_ap {m : EM} {ρ : Rho} {S : Sto} : eNot m ρ S = ((m ρ S).bind fun w S1 => match w with
  | .d (.bool b) => .ok (.d (.bool (!b))) S1
  | _ => .bad) := rfl
theorem eIf_ap {c : BM} {m n : EM} {ρ : Rho} {S : Sto} : eIf c m n ρ S = ((c ρ S).bind fun b S1 => if b = true then m ρ S1 else n ρ S1) := rfl
theorem eTup_ap {m : AM} {ρ : Rho} {S : Sto} : eTup m ρ S = ((m ρ S).bind fun ws S1 => if ws.length ≤ sizeLine then .ok (mkTup ws) S1 else .bad) := rfl
theorem eLst_ap {m : AM} {ρ : Rho} {S : Sto} : eLst m ρ S = ((m ρ S).bind fun ws S1 => if ws.length ≤ sizeLine then .ofO S1 ((unD ws).map fun xs => .d (.list xs)) else .bad) := rfl
theorem eLstM_ap {m : AM} {ρ : Rho} {S : Sto} : eLstM m ρ S = ((m ρ S).bind fun ws S1 => newCell ws S1) := rfl
theorem cNop_ap  {ρ : Rho} {S : Sto} : cNop  ρ S = (.ok (.nx ρ) S) := rfl
theorem cBreak_ap  {ρ : Rho} {S : Sto} : cBreak  ρ S = (.ok (.bk ρ) S) := rfl
theorem cCont_ap  {ρ : Rho} {S : Sto} : cCont  ρ S = (.ok (.ct ρ) S) := rfl
theorem cSeq_ap {a b : SM} {ρ : Rho} {S : Sto} : cSeq a b ρ S = ((a ρ S).bind fun fl S1 => match fl with
  | .nx ρ1 => b ρ1 S1
  | o => .ok o S1) := rfl
theorem cExpr_ap {m : EM} {ρ : Rho} {S : Sto} : cExpr m ρ S = (exq ρ (m ρ S) fun _ S1 => .ok (.nx ρ) S1) := rfl
theorem cSet_ap {i : Nat} {m : EM} {ρ : Rho} {S : Sto} : cSet i m ρ S = (exq ρ (m ρ S) fun w S1 => .ok (.nx (ρ.set i (some w))) S1) := rfl
theorem cRet_ap {m : EM} {ρ : Rho} {S : Sto} : cRet m ρ S = (exq ρ (m ρ S) fun w S1 => .ok (.rt w) S1) := rfl
theorem cRetN_ap  {ρ : Rho} {S : Sto} : cRetN  ρ S = (.ok (.rt (.d .none)) S) := rfl
theorem cIf_ap {c : BM} {a b : SM} {ρ : Rho} {S : Sto} : cIf c a b ρ S = (exq ρ (c ρ S) fun t S1 => if t = true then a ρ S1 else b ρ S1) := rfl
theorem cAsg_ap {m : EM} {g : GM} {ρ : Rho} {S : Sto} : cAsg m g ρ S = (exq ρ (m ρ S) fun w S1 => exq ρ (g w ρ S1) fun ρ1 S2 => .ok (.nx ρ1) S2) := rfl
theorem cPar2_ap {i j : Nat} {m : AM} {ρ : Rho} {S : Sto} : cPar2 i j m ρ S = (exq ρ (m ρ S) fun ws S1 => match ws with
  | [u, v] => .ok (.nx ((ρ.set i (some u)).set j (some v))) S1
  | _ => .bad) := rfl
theorem cPar3_ap {i j l : Nat} {m : AM} {ρ : Rho} {S : Sto} : cPar3 i j l m ρ S = (exq ρ (m ρ S) fun ws S1 => match ws with
  | [u, v, w] => .ok (.nx (((ρ.set i (some u)).set j (some v)).set l (some w))) S1
  | _ => .bad) := rfl
theorem bYes_ap  {ρ : Rho} {S : Sto} : bYes  ρ S = (.ok true S) := rfl
theorem eCall_ap {f : List W → Sto → Out W} {ms : AM} {ρ : Rho} {S : Sto} : eCall f ms ρ S = ((ms ρ S).bind fun ws S1 => f ws S1) := rfl
theorem oNone_ap  {ρ : Rho} {S : Sto} : oNone  ρ S = (.ok none S) := rfl
theorem oSome_ap {m : EM} {ρ : Rho} {S : Sto} : oSome m ρ S = ((m ρ S).bind fun w S1 => match w with
  | .d (.int i) => .ok (some i) S1
  | _ => .bad) := rfl
theorem eSl_ap {m : EM} {lo hi : OM} {ρ : Rho} {S : Sto} : eSl m lo hi ρ S = ((m ρ S).bind fun x S1 => (lo ρ S1).bind fun l S2 => (hi ρ S2).bind fun u S3 => opSl x l u S3) := rfl
theorem cFor_ap {im : IM} {g : GM} {body : SM} {ρ : Rho} {S : Sto} : cFor im g body ρ S = (exq ρ (im ρ S) fun its S1 => forL its.grd g body its.items ρ S1) := rfl
theorem eMtL_ap {f : MF} {mo : EM} {ms : AM} {ρ : Rho} {S : Sto} : eMtL f mo ms ρ S = ((mo ρ S).bind fun o S1 => if isL S1 o = true then (ms ρ S1).bind fun ws S2 => f o ws S2 else .bad) := rfl
theorem aKw_ap {π : List Nat} {ms : AM} {ρ : Rho} {S : Sto} : aKw π ms ρ S = ((ms ρ S).bind fun ws S1 => .ok (permW π ws) S1) := rfl
theorem gNm_ap {i : Nat} {w : W} {ρ : Rho} {S : Sto} : gNm i w ρ S = (.ok (ρ.set i (some w)) S) := rfl
theorem gTp_ap {n : Nat} {gs : GMs} {w : W} {ρ : Rho} {S : Sto} : gTp n gs w ρ S = (match tupOf w with
  | some ws => if ws.length = n then (match gs ws ρ S with | .ok ρ1 S1 => .ok ρ1 S1 | _ => .bad) else .bad
  | none => .bad) := rfl
theorem gSb_ap {f : Op3} {mo mi : EM} {w : W} {ρ : Rho} {S : Sto} : gSb f mo mi w ρ S = ((mo ρ S).bind fun o S1 => (mi ρ S1).bind fun i S2 => (f o i w S2).bind fun _ S3 => .ok ρ S3) := rfl
theorem gsNil_ap  {ws : List W} {ρ : Rho} {S : Sto} : gsNil  ws ρ S = (match ws with
  | [] => .ok ρ S
  | _ => .bad) := rfl
theorem gsCons_ap {g : GM} {gs : GMs} {ws : List W} {ρ : Rho} {S : Sto} : gsCons g gs ws ρ S = (match ws with
  | w :: r => match g w ρ S with
    | .ok ρ1 S1 => gs r ρ1 S1
    | _ => .bad
  | [] => .bad) := rfl
theorem sz1 : 1 ≤ sizeLine := by decide
theorem sz2 : 2 ≤ sizeLine := by decide
theorem sz3 : 3 ≤ sizeLine := by decide
theorem sz4 : 4 ≤ sizeLine := by decide
theorem sz5 : 5 ≤ sizeLine := by decide
theorem sz6 : 6 ≤ sizeLine := by decide
theorem sz7 : 7 ≤ sizeLine := by decide
theorem sz8 : 8 ≤ sizeLine := by decide
theorem sz9 : 9 ≤ sizeLine := by decide
theorem sz10 : 10 ≤ sizeLine := by decide
theorem sz11 : 11 ≤ sizeLine := by decide
theorem sz12 : 12 ≤ sizeLine := by decide
theorem sz13 : 13 ≤ sizeLine := by decide
theorem sz14 : 14 ≤ sizeLine := by decide
theorem sz15 : 15 ≤ sizeLine := by decide
theorem sz16 : 16 ≤ sizeLine := by decide
theorem callE_ap {f : FM} {ws : List W} {S : Sto} : callE f ws S = f ws S := rfl
/-- targets of two and three names -/
theorem gTp2 {ρ : Rho} {S : Sto} {i j : Nat} {a b : PyData} : gTp 2 (gsCons (gNm i) (gsCons (gNm j) gsNil)) (.d (.tuple [a, b])) ρ S = .ok ((ρ.set i (some (.d a))).set j (some (.d b))) S := rfl
theorem gTp3 {ρ : Rho} {S : Sto} {i j k : Nat} {a b c : PyData} : gTp 3 (gsCons (gNm i) (gsCons (gNm j) (gsCons (gNm k) gsNil))) (.d (.tuple [a, b, c])) ρ S = .ok (((ρ.set i (some (.d a))).set j (some (.d b))).set k (some (.d c))) S := rfl

/-! ### data of small depth and length -/
def leafOk : PyData → Bool
  | .none | .bool _ | .int _ => true
  | .str x => PyData.strOk x && decide (x.length ≤ 1000)
  | _ => false
def sm : Nat → PyData → Bool
  | 0, x => leafOk x
  | n + 1, .list xs => decide (xs.length ≤ 1000) && xs.all (sm n)
  | n + 1, .tuple xs => decide (xs.length ≤ 1000) && xs.all (sm n)
  | _ + 1, x => leafOk x
theorem sm_leaf {n : Nat} {x : PyData} (h : leafOk x = true) : sm n x = true := by
  cases n with
  | zero => exact h
  | succ n => cases x <;> first | exact h | cases h
theorem sm_tup {n : Nat} {xs : List PyData} : sm (n + 1) (.tuple xs) = true ↔ xs.length ≤ 1000 ∧ ∀ x ∈ xs, sm n x = true := by simp [sm]
theorem sm_list {n : Nat} {xs : List PyData} : sm (n + 1) (.list xs) = true ↔ xs.length ≤ 1000 ∧ ∀ x ∈ xs, sm n x = true := by simp [sm]
theorem canLayAll_iff : ∀ {xs : List PyData}, PyData.canLayAll0 xs = true ↔ ∀ x ∈ xs, x.canLay0 = true
  | [] => by simp [PyData.canLayAll0]
  | x :: xs => by simp [PyData.canLayAll0, canLayAll_iff (xs := xs)]
theorem depthAll_le {n : Nat} : ∀ {xs : List PyData}, (∀ x ∈ xs, x.depth ≤ n) → PyData.depthAll xs ≤ n
  | [], _ => by simp [PyData.depthAll]
  | x :: xs, h => by
    simp only [PyData.depthAll]
    exact Nat.max_le.2 ⟨h x (by simp), depthAll_le fun y hy => h y (by simp [hy])⟩
theorem leaf_shape {x : PyData} (h : leafOk x = true) : x.canLay0 = true ∧ x.depth = 0 := by
  cases x <;> simp [leafOk, PyData.canLay0, PyData.depth] at h ⊢
  exact h.1
theorem sm_shape : ∀ {n : Nat} {x : PyData}, sm n x = true → x.canLay0 = true ∧ x.depth ≤ n
  | 0, x, h => by have := leaf_shape h; exact ⟨this.1, by omega⟩
  | n + 1, .list xs, h => by
    have h := (sm_list.1 h).2
    simp only [PyData.canLay0, PyData.depth, canLayAll_iff]
    exact ⟨fun x hx => (sm_shape (h x hx)).1, Nat.succ_le_succ (depthAll_le fun x hx => (sm_shape (h x hx)).2)⟩
  | n + 1, .tuple xs, h => by
    have h := (sm_tup.1 h).2
    simp only [PyData.canLay0, PyData.depth, canLayAll_iff]
    exact ⟨fun x hx => (sm_shape (h x hx)).1, Nat.succ_le_succ (depthAll_le fun x hx => (sm_shape (h x hx)).2)⟩
  | n + 1, .none, _ => ⟨rfl, Nat.zero_le _⟩
  | n + 1, .bool _, _ => ⟨rfl, Nat.zero_le _⟩
  | n + 1, .int _, _ => ⟨rfl, Nat.zero_le _⟩
  | n + 1, .str _, h => by have := leaf_shape (x := .str _) h; exact ⟨this.1, by omega⟩
  | n + 1, .dict _, h => by cases h
theorem sm_shaped {n : Nat} {x : PyData} (h : sm n x = true) (hn : n ≤ 64 := by decide) : SeqAt.shaped x = true := by
  have := sm_shape h
  simp only [SeqAt.shaped, this.1, Bool.true_and, decide_eq_true_eq]
  omega
theorem sm_mono : ∀ {n m : Nat} {x : PyData}, sm n x = true → n ≤ m → sm m x = true
  | 0, m, x, h, _ => sm_leaf h
  | n + 1, 0, x, h, g => absurd g (by omega)
  | n + 1, m + 1, .list xs, h, g => by
    have h := sm_list.1 h
    exact sm_list.2 ⟨h.1, fun x hx => sm_mono (h.2 x hx) (by omega)⟩
  | n + 1, m + 1, .tuple xs, h, g => by
    have h := sm_tup.1 h
    exact sm_tup.2 ⟨h.1, fun x hx => sm_mono (h.2 x hx) (by omega)⟩
  | n + 1, m + 1, .none, _, _ => rfl
  | n + 1, m + 1, .bool _, _, _ => rfl
  | n + 1, m + 1, .int _, _, _ => rfl
  | n + 1, m + 1, .str _, h, _ => h
  | n + 1, m + 1, .dict _, h, _ => by cases h

/-! ### equality -/
theorem eqvAll_nil_r : ∀ {xs : List PyData}, PyData.eqvAll xs [] = xs.isEmpty
  | [] => rfl
  | _ :: _ => rfl

/-! ### operators at their kinds -/
section
variable {S : Sto} {a b i j k : Int} {x y : PyData} {xs ys : List PyData} {z u : Str} {p q : Bool}
theorem opAdd_int : opAdd (.d (.int a)) (.d (.int b)) S = .ok (.d (.int (a + b))) S := rfl
theorem opAdd_str : opAdd (.d (.str z)) (.d (.str u)) S = if z.length + u.length ≤ sizeLine then .ok (.d (.str (z ++ u))) S else .bad := rfl
theorem opAdd_list : opAdd (.d (.list xs)) (.d (.list ys)) S = if xs.length + ys.length ≤ sizeLine then .ok (.d (.list (xs ++ ys))) S else .bad := rfl
theorem opAdd_tup : opAdd (.d (.tuple xs)) (.d (.tuple ys)) S = if xs.length + ys.length ≤ sizeLine then .ok (.d (.tuple (xs ++ ys))) S else .bad := by
  simp only [opAdd, tupOf, List.length_map]
  rw [← List.map_append, mkTup_d]
theorem opSub_int : opSub (.d (.int a)) (.d (.int b)) S = .ok (.d (.int (a - b))) S := rfl
theorem opMul_int (h : CMul a b) : opMul (.d (.int a)) (.d (.int b)) S = .ok (.d (.int (a * b))) S := if_pos (.inl h)
theorem opMul_list (h : In63 k ∧ xs.length * k.toNat ≤ sizeLine) : opMul (.d (.list xs)) (.d (.int k)) S = .ok (.d (.list (List.replicate k.toNat xs).flatten)) S := if_pos h
theorem opMul_tup (h : xs ≠ [] ∧ 2 ≤ k ∧ k ≤ 1000 ∧ xs.length ≤ 1000) : opMul (.d (.tuple xs)) (.d (.int k)) S = .ok (.d (.tuple (List.replicate k.toNat xs).flatten)) S := if_pos h
theorem opDiv_int (h : CDivW a b) : opDiv (.d (.int a)) (.d (.int b)) S = .ok (.d (.int (a / b))) S := if_pos h
theorem opMod_int (h : 0 < b) : opMod (.d (.int a)) (.d (.int b)) S = .ok (.d (.int (a % b))) S := if_pos h
theorem opPow_int (h : CPow a b) : opPow (.d (.int a)) (.d (.int b)) S = .ok (.d (.int (a ^ b.toNat))) S := if_pos h
theorem opNeg_int : opNeg (.d (.int a)) S = .ok (.d (.int (-a))) S := rfl
theorem opEq_int : opEq (.d (.int a)) (.d (.int b)) S = .ok (.d (.bool (a == b))) S := if_pos ⟨rfl, rfl⟩
theorem opNe_int : opNe (.d (.int a)) (.d (.int b)) S = .ok (.d (.bool (!(a == b)))) S := if_pos ⟨rfl, rfl⟩
theorem opEq_sm (hx : SeqAt.shaped x = true) (hy : SeqAt.shaped y = true) : opEq (.d x) (.d y) S = .ok (.d (.bool (PyData.eqv x y))) S := if_pos ⟨hx, hy⟩
theorem opNe_sm (hx : SeqAt.shaped x = true) (hy : SeqAt.shaped y = true) : opNe (.d x) (.d y) S = .ok (.d (.bool (!PyData.eqv x y))) S := if_pos ⟨hx, hy⟩
theorem opLt_int : opLt (.d (.int a)) (.d (.int b)) S = .ok (.d (.bool (decide (a < b)))) S := rfl
theorem opLt_str : opLt (.d (.str z)) (.d (.str u)) S = .ok (.d (.bool (decide (z.cps.toList < u.cps.toList)))) S := rfl
theorem opInt_int {f : Int → Int → Bool} : opInt f (.d (.int a)) (.d (.int b)) S = .ok (.d (.bool (f a b))) S := rfl
theorem opIsB_b : opIsB (.d (.bool p)) (.d (.bool q)) S = .ok (.d (.bool (p == q))) S := rfl
theorem opNotB_b : opNotB (.d (.bool p)) (.d (.bool q)) S = .ok (.d (.bool (!(p == q)))) S := rfl
theorem opIsi_d {T : String} : opIsi T (.d x) S = .ok (.d (.bool (isiT (tyD x) T))) S := rfl
theorem bLen_list : bLen [.d (.list xs)] S = .ok (.d (.int xs.length)) S := rfl
theorem bLen_tup : bLen [.d (.tuple xs)] S = .ok (.d (.int xs.length)) S := rfl
theorem bLen_fl : bLen [.fl xs] S = .ok (.d (.int xs.length)) S := rfl
theorem bLen_str (h : z.length ≤ sizeLine) : bLen [.d (.str z)] S = .ok (.d (.int z.length)) S := if_pos h
theorem bAll_map {α : Type} {l : List α} {f : α → Bool} : bAll [.d (.list (l.map fun x => .bool (f x)))] S = .ok (.d (.bool (l.all f))) S := by
  have : (l.map fun x => PyData.bool (f x)) = (l.map f).map .bool := by simp
  rw [this, bAll]; simp only [bools_map]; simp [List.all_map]
theorem bAny_map {α : Type} {l : List α} {f : α → Bool} : bAny [.d (.list (l.map fun x => .bool (f x)))] S = .ok (.d (.bool (l.any f))) S := by
  have : (l.map fun x => PyData.bool (f x)) = (l.map f).map .bool := by simp
  rw [this, bAny]; simp only [bools_map]; simp [List.any_map]
theorem bTuple_list : bTuple [.d (.list xs)] S = .ok (.d (.tuple xs)) S := rfl
theorem bTuple_tup : bTuple [.d (.tuple xs)] S = .ok (.d (.tuple xs)) S := rfl
theorem bTuple_ref {n : Nat} (h : S[n]? = some (.lst (xs.map .d))) : bTuple [.ref n] S = .ok (.d (.tuple xs)) S := by simp [bTuple, h]
theorem bList_list : bList [.d (.list xs)] S = .ok (.d (.list xs)) S := rfl
theorem bList_tup : bList [.d (.tuple xs)] S = .ok (.d (.list xs)) S := rfl
theorem bInt_int : bInt [.d (.int a)] S = .ok (.d (.int a)) S := rfl
theorem bInt_bool : bInt [.d (.bool p)] S = .ok (.d (.int (if p = true then 1 else 0))) S := rfl
theorem bAbs_int : bAbs [.d (.int a)] S = .ok (.d (.int (if a < 0 then -a else a))) S := rfl
theorem bMin2_int : bMin2 [.d (.int i), .d (.int j)] S = .ok (.d (.int (if j < i then j else i))) S := rfl
theorem atI_nat {α : Type} {l : List α} {n : Nat} {w : α} (h : l[n]? = some w) : atI l (n : Int) = some w := by
  have hn : n < l.length := by
    rcases Nat.lt_or_ge n l.length with g | g
    · exact g
    · rw [List.getElem?_eq_none g] at h; cases h
  simp only [atI, ixN, Int.natCast_nonneg, if_true, Int.ofNat_lt, hn, Option.bind_some, Int.toNat_natCast, h]
theorem opIx_list {d : PyData} (h : atI xs i = some d) : opIx (.d (.list xs)) (.d (.int i)) S = .ok (.d d) S := by simp [opIx, h]
theorem opIx_fl {d : PyData} (h : atI xs i = some d) : opIx (.fl xs) (.d (.int i)) S = .ok (.d d) S := by simp [opIx, h]
theorem opIx_tup {d : PyData} (h : atI xs i = some d) : opIx (.d (.tuple xs)) (.d (.int i)) S = .ok (.d d) S := by simp [opIx, tupOf, atI_map, h]
theorem opIx_ref {n : Nat} {ws : List W} {w : W} (h : S[n]? = some (.lst ws)) (h2 : atI ws i = some w) : opIx (.ref n) (.d (.int i)) S = .ok w S := by simp [opIx, h, h2]
theorem opIx_str {c : Nat} (hz : z.length ≤ sizeLine) (h : atI z.cps.toList i = some c) : opIx (.d (.str z)) (.d (.int i)) S = .ok (.d (.str ⟨#[c]⟩)) S := by simp [opIx, hz, h]
theorem opSl_list {lo hi : Option Int} : opSl (.d (.list xs)) lo hi S = .ok (.d (.list (cut xs lo hi))) S := rfl
theorem opSl_fl {lo hi : Option Int} : opSl (.fl xs) lo hi S = .ok (.d (.list (cut xs lo hi))) S := rfl
theorem opSl_tup {lo hi : Option Int} : opSl (.d (.tuple xs)) lo hi S = .ok (.d (.tuple (cut xs lo hi))) S := by
  simp only [opSl, tupOf, cut_map, mkTup_d]
theorem opRev_tup : opRev (.d (.tuple xs)) S = .ok (.d (.tuple xs.reverse)) S := by
  simp [opRev, tupOf, ← List.map_reverse]
theorem callP_d {f : FM} {ws : List W} {x : PyData} {S' : Sto} (h : f ws [] = .ok (.d x) S') (hw : ws.all isD = true := by rfl) : callP f ws S = .ok (.d x) S := by
  simp [callP, hw, h, frzW]
theorem mkTup_of {ws : List W} (h : ws = xs.map .d) : mkTup ws = .d (.tuple xs) := by rw [h, mkTup_d]
theorem mkTup1 : mkTup [.d x] = .d (.tuple [x]) := rfl
end

/-! ### comprehensions -/
section
variable {S : Sto} {ρ : Rho} {im : IM} {g : GM} {tt : BM} {elt : EM} {vs : List Nat}
theorem lcL_d {grd : Sto → Prop} {ρ0 : Rho} {α : Type} (mk : α → W) (f : α → PyData) (t : α → Bool) (hg : grd S) : ∀ (l : List α),
    (∀ x ∈ l, ∃ ρ', g (mk x) ρ0 S = .ok ρ' S ∧ tt ρ' S = .ok (t x) S ∧ (t x = true → elt ρ' S = .ok (.d (f x)) S)) → lcL grd g tt elt ρ0 (l.map mk) S = .ok (((l.filter t).map f).map W.d) S
  | [], _ => by simp [lcL, hg]
  | x :: l, h => by
    obtain ⟨ρ', e1, e2, e3⟩ := h x (by simp)
    have ih := lcL_d mk f t hg l fun y hy => h y (by simp [hy])
    simp only [List.map_cons, lcL, hg, if_true, e1, Out.bindB, e2]
    cases ht : t x with
    | true => simp only [e3 ht, ih, Out.bindB, if_true, List.filter_cons, ht, List.map_cons]
    | false => simp [ih, List.filter_cons, ht]
theorem eLc_d {α : Type} (l : List α) (mk : α → W) (f : α → PyData) (t : α → Bool) {grd : Sto → Prop} (him : im ρ S = .ok ⟨l.map mk, grd⟩ S) (hg : grd S) (hz : l.length ≤ sizeLine)
    (h : ∀ x ∈ l, ∃ ρ', g (mk x) (wipeR ρ vs) S = .ok ρ' S ∧ tt ρ' S = .ok (t x) S ∧ (t x = true → elt ρ' S = .ok (.d (f x)) S)) : eLc im g tt elt vs ρ S = .ok (.d (.list ((l.filter t).map f))) S := by
  simp only [eLc, him, Out.bind, List.length_map, hz, if_true, lcL_d mk f t hg l h, Out.bindB, unD_map, Option.map_some, Out.ofO]
theorem eLc_y {α : Type} (l : List α) (mk : α → W) (f : α → PyData) {grd : Sto → Prop} (him : im ρ S = .ok ⟨l.map mk, grd⟩ S) (hg : grd S) (hz : l.length ≤ sizeLine)
    (h : ∀ x ∈ l, ∃ ρ', g (mk x) (wipeR ρ vs) S = .ok ρ' S ∧ elt ρ' S = .ok (.d (f x)) S) : eLc im g bYes elt vs ρ S = .ok (.d (.list (l.map f))) S := by
  rw [eLc_d l mk f (fun _ => true) him hg hz fun x hx => ?_]
  · rw [List.filter_eq_self.2 fun _ _ => rfl]
  · obtain ⟨ρ', e1, e2⟩ := h x hx; exact ⟨ρ', e1, rfl, fun _ => e2⟩
theorem iSq_tup {m : EM} {xs : List PyData} (h : m ρ S = .ok (.d (.tuple xs)) S) : iSq m ρ S = .ok ⟨xs.map .d, fun _ => True⟩ S := by simp [iSq, h, Out.bind, tupOf]
theorem iSq_list {m : EM} {xs : List PyData} (h : m ρ S = .ok (.d (.list xs)) S) : iSq m ρ S = .ok ⟨xs.map .d, fun _ => True⟩ S := by simp [iSq, h, Out.bind]
theorem iSq_fl {m : EM} {xs : List PyData} (h : m ρ S = .ok (.fl xs) S) : iSq m ρ S = .ok ⟨xs.map .d, fun _ => True⟩ S := by simp [iSq, h, Out.bind]
theorem iSq_str {m : EM} {z : Str} (h : m ρ S = .ok (.d (.str z)) S) : iSq m ρ S = .ok ⟨z.cps.toList.map fun c => W.d (.str ⟨#[c]⟩), fun _ => True⟩ S := by simp [iSq, h, Out.bind]
theorem iRg1_at {m : EM} {j : Int} (h : m ρ S = .ok (.d (.int j)) S) (hj : -(2 ^ 62) ≤ j ∧ j < 2 ^ 62) : iRg1 m ρ S = .ok ⟨(List.range j.toNat).map fun (k : Nat) => W.d (.int (k : Int)), fun _ => True⟩ S := by simp only [iRg1, h, Out.bind]; exact if_pos hj
theorem iRg1_nat {m : EM} {j : Nat} (h : m ρ S = .ok (.d (.int j)) S) (hj : j < 2 ^ 62) : iRg1 m ρ S = .ok ⟨(List.range j).map fun (k : Nat) => W.d (.int (k : Int)), fun _ => True⟩ S := by
  rw [iRg1_at h ⟨by omega, by omega⟩]; simp
end
end Sh
end

section
/-! Sh: the well of the laws, and what is drawn from it. -/
namespace Sh
open PySem PySem.Spec PyProof.Rows L2
open Classical

noncomputable def bWell : SM := cRet (eLstM (aCons (eLc (iSq (eSl (eVar 0) oNone (oSome (eInt 63)))) (gNm 1) (bYes) (eCall bInt (aCons (eVar 1) aNil)) [1]) (aCons (eInt 0) (aCons (eInt 40507) aNil))))
noncomputable def mWell : FM := defM 2 1 bWell
noncomputable def bDrawA : SM := cIf (bAnd (bOf (eOp2 (opLt) (eOp2 opIx (eVar 0) (eInt 1)) (eOp2 opPow (eInt 10) (eInt 9)))) (bOf (eOp2 (opNe) (eOp2 opIx (eVar 0) (eInt 0)) (eLst aNil)))) (cSeq (cSet 2 (eOp2 opIx (eOp2 opIx (eVar 0) (eInt 0)) (eInt 0))) (cSeq (cAsg (eSl (eOp2 opIx (eVar 0) (eInt 0)) (oSome (eInt 1)) oNone) (gSb setIx (eVar 0) (eInt 0))) (cSeq (cSet 3 (eOp2 opAdd (eOp2 opMul (eInt 2) (eCall bAbs (aCons (eVar 2) aNil))) (eCall bInt (aCons (eOp2 (opLt) (eVar 2) (eInt 0)) aNil)))) (cIf (bOf (eOp2 (opGe) (eVar 3) (eOp2 opPow (eInt 10) (eInt 18)))) (cAsg (eVar 3) (gSb setIx (eVar 0) (eInt 1))) (cAsg (eOp2 opMod (eCall bInt (aCons (eOp2 opAdd (eOp2 opAdd (eOp2 opMul (eOp2 opIx (eVar 0) (eInt 2)) (eInt 48271)) (eOp2 opMul (eVar 3) (eInt 69621))) (eInt 17)) aNil)) (eInt 2147483647)) (gSb setIx (eVar 0) (eInt 2))))))) (cNop)
noncomputable def bDrawB : SM := cSeq (cIf (bOf (eOp2 (opGe) (eOp2 opIx (eVar 0) (eInt 1)) (eOp2 opPow (eInt 10) (eInt 9)))) (cSeq (cSet 4 (eOp2 opMod (eCall bInt (aCons (eOp2 opIx (eVar 0) (eInt 1)) aNil)) (eVar 1))) (cSeq (cAsg (eOp2 opDiv (eOp2 opIx (eVar 0) (eInt 1)) (eVar 1)) (gSb setIx (eVar 0) (eInt 1))) (cRet (eVar 4)))) (cNop)) (cSeq (cAsg (eOp2 opMod (eCall bInt (aCons (eOp2 opAdd (eOp2 opMul (eOp2 opIx (eVar 0) (eInt 2)) (eInt 39373)) (eInt 101)) aNil)) (eInt 2147483647)) (gSb setIx (eVar 0) (eInt 2))) (cRet (eOp2 opMod (eCall bInt (aCons (eOp2 opDiv (eOp2 opIx (eVar 0) (eInt 2)) (eInt 89)) aNil)) (eVar 1))))
noncomputable def bDraw : SM := cSeq bDrawA bDrawB
noncomputable def mDraw : FM := defM 5 2 bDraw

def wellOb (cells : List Int) (a b : Int) : Ob := .lst [.d (.list (cells.map .int)), .d (.int a), .d (.int b)]
/-- a well lies in cell n -/
def Well (S : Sto) (n : Nat) : Prop := ∃ cells a b, S[n]? = some (wellOb cells a b) ∧ cells.length ≤ 63 ∧ 0 ≤ b ∧ b < 2147483647
theorem set_at {S : Sto} {n : Nat} {o o' : Ob} (h : S[n]? = some o) : (S.set n o')[n]? = some o' := by
  have : n < S.length := by
    rcases Nat.lt_or_ge n S.length with g | g
    · exact g
    · rw [List.getElem?_eq_none g] at h; cases h
  simp [this]
section
variable {S : Sto} {n : Nat} {cells : List Int} {a b : Int}
theorem well0 (h : S[n]? = some (wellOb cells a b)) : opIx (.ref n) (.d (.int 0)) S = .ok (.d (.list (cells.map .int))) S := opIx_ref h rfl
theorem well1 (h : S[n]? = some (wellOb cells a b)) : opIx (.ref n) (.d (.int 1)) S = .ok (.d (.int a)) S := opIx_ref h rfl
theorem well2 (h : S[n]? = some (wellOb cells a b)) : opIx (.ref n) (.d (.int 2)) S = .ok (.d (.int b)) S := opIx_ref h rfl
theorem wset0 {c2 : List Int} (h : S[n]? = some (wellOb cells a b)) : setIx (.ref n) (.d (.int 0)) (.d (.list (c2.map .int))) S = .ok () (S.set n (wellOb c2 a b)) := by simp only [setIx, h, wellOb]; rfl
theorem wset1 {a2 : Int} (h : S[n]? = some (wellOb cells a b)) : setIx (.ref n) (.d (.int 1)) (.d (.int a2)) S = .ok () (S.set n (wellOb cells a2 b)) := by simp only [setIx, h, wellOb]; rfl
theorem wset2 {b2 : Int} (h : S[n]? = some (wellOb cells a b)) : setIx (.ref n) (.d (.int 2)) (.d (.int b2)) S = .ok () (S.set n (wellOb cells a b2)) := by simp only [setIx, h, wellOb]; rfl
theorem shaped_ints {l : List Int} : SeqAt.shaped (.list (l.map .int)) = true := by
  have h : PyData.canLayAll0 (l.map .int) = true := canLayAll_iff.2 fun x hx => by
    obtain ⟨i, _, rfl⟩ := List.mem_map.1 hx; rfl
  have h2 : PyData.depthAll (l.map .int) ≤ 0 := depthAll_le fun x hx => by
    obtain ⟨i, _, rfl⟩ := List.mem_map.1 hx; exact Nat.le_refl 0
  simp only [SeqAt.shaped, PyData.canLay0, h, PyData.depth, Bool.true_and, decide_eq_true_eq]
  exact decide_eq_true (Nat.le_trans (Nat.succ_le_succ h2) (by decide : 1 ≤ 64))
theorem pow9 : opPow (.d (.int 10)) (.d (.int 9)) S = .ok (.d (.int 1000000000)) S := by
  rw [opPow_int ⟨by decide, by decide, by decide⟩]; rfl
theorem pow18 : opPow (.d (.int 10)) (.d (.int 18)) S = .ok (.d (.int 1000000000000000000)) S := by
  rw [opPow_int ⟨by decide, by decide, by decide⟩]; rfl
theorem cut1 {α : Type} (l : List α) : cut l (some 1) none = l.drop 1 := by
  have e : HT.sIx l.length 0 (some 1) = min 1 l.length := HT.sIx_nat _ _ 1
  simp only [cut, e, HT.sIx_none]
  rcases l with _ | ⟨x, l⟩
  · rfl
  · simp
theorem cutTo {α : Type} (l : List α) (k : Nat) : cut l none (some (k : Int)) = l.take k := by
  simp only [cut, HT.sIx_none, HT.sIx_nat, Nat.sub_zero, List.drop_zero]
  rcases Nat.le_total k l.length with h | h
  · rw [Nat.min_eq_left h]
  · rw [Nat.min_eq_right h, List.take_of_length_le h, List.take_of_length_le (Nat.le_refl _)]
theorem cutFrom {α : Type} (l : List α) (k : Nat) : cut l (some (k : Int)) none = l.drop k := by
  simp only [cut, HT.sIx_none, HT.sIx_nat]
  rw [List.take_of_length_le (by simp)]
  rcases Nat.le_total k l.length with h | h
  · rw [Nat.min_eq_left h]
  · rw [Nat.min_eq_right h, List.drop_of_length_le (Nat.le_refl _), List.drop_of_length_le h]
theorem set_self {S : Sto} {n : Nat} {o : Ob} (h : S[n]? = some o) : S.set n o = S := by
  apply List.ext_getElem?
  intro i
  rw [List.getElem?_set]
  split
  · rename_i e; subst e
    split
    · exact h.symm
    · rename_i g; rw [List.getElem?_eq_none (by omega)]
  · rfl
theorem drawA (h : S[n]? = some (wellOb cells a b)) (hc : cells.length ≤ 63) (hb0 : 0 ≤ b) (hb1 : b < 2147483647) {many : Int} : ∃ (c2 : List Int) (a2 b2 : Int) (w2 w3 : Option W), bDrawA [some (.ref n), some (.d (.int many)), none, none, none] S = .ok (.nx [some (.ref n), some (.d (.int many)), w2, w3, none]) (S.set n (wellOb c2 a2 b2)) ∧ c2.length ≤ 63 ∧ 0 ≤ b2 ∧ b2 < 2147483647 := by
  unfold bDrawA
  by_cases ha : a < 1000000000
  · cases cells with
    | nil =>
      refine ⟨[], a, b, none, none, ?_, hc, hb0, hb1⟩
      rw [set_self h]
      simp only [eVar_ap, eK_ap, aNil_ap, aCons_ap, eOp2_ap, eOp1_ap, eChain_ap, bOf_ap, bNot_ap, bAnd_ap, bOr_ap, eAnd_ap, eOr_ap, eNot_ap, eIf_ap, eTup_ap, eLst_ap, eLstM_ap, cNop_ap, cBreak_ap, cCont_ap, cSeq_ap, cExpr_ap, cSet_ap, cRet_ap, cRetN_ap, cIf_ap, cAsg_ap, cPar2_ap, cPar3_ap, bYes_ap, eCall_ap, oNone_ap, oSome_ap, eSl_ap, cFor_ap, eMtL_ap, aKw_ap, gNm_ap, gTp2, gTp3, gSb_ap, Out.bind, Out.ofO, exq, fin, callE_ap, List.getElem?_cons_succ, List.getElem?_cons_zero, List.set_cons_succ, List.set_cons_zero, List.map_cons, List.map_nil, List.replicate, List.cons_append, List.nil_append, List.length_cons, List.length_nil, Bool.not_true, Bool.not_false, if_true, if_false, ite_true, ite_false, reduceIte, Bool.false_eq_true, Bool.true_eq_false, Nat.reduceAdd, unD, Option.map_some, Nat.zero_le, sz1, sz2, sz3, sz4, sz5, sz6, sz7, sz8, sz9, sz10, sz11, sz12, sz13, sz14, sz15, sz16, Nat.reduceSub, Nat.reduceLeDiff, reduceCtorEq, Bool.and_true, Bool.true_and, Bool.and_false, Bool.false_and, Bool.or_true, Bool.or_false, Bool.true_or, Bool.false_or, well0 h, well1 h, pow9, opLt_int, ha, decide_true, opNe_sm (x := .list []) (y := .list []) rfl rfl, unD, Option.map_some, Nat.zero_le, show PyData.eqv (.list []) (.list []) = true from rfl]
    | cons c0 cr =>
      have e0 : atI (PyData.int c0 :: cr.map .int) 0 = some (.int c0) := atI_nat (n := 0) rfl
      have e1 : cut (PyData.int c0 :: cr.map .int) (some 1) none = cr.map .int := by rw [cut1]; rfl
      have h2 := set_at (o' := wellOb cr a b) h
      have m1 : CMul b 48271 := .inr ⟨by decide, by decide⟩
      have m2 : ∀ x, CMul x 69621 := fun x => .inr ⟨by decide, by decide⟩
      have m3 : ∀ x, CMul 2 x := fun x => .inl ⟨by decide, by decide⟩
      have sh := shaped_ints (l := c0 :: cr)
      have hl : cr.length ≤ 63 := by simp only [List.length_cons] at hc; omega
      by_cases hw : (1000000000000000000 : Int) ≤ 2 * (if c0 < 0 then -c0 else c0) + (if decide (c0 < 0) = true then 1 else 0)
      · refine ⟨cr, 2 * (if c0 < 0 then -c0 else c0) + (if decide (c0 < 0) = true then 1 else 0), b, some (.d (.int c0)), some (.d (.int (2 * (if c0 < 0 then -c0 else c0) + (if decide (c0 < 0) = true then 1 else 0)))), ?_, hl, hb0, hb1⟩
        rw [← List.set_set (a := wellOb cr a b)]
        simp only [eVar_ap, eK_ap, aNil_ap, aCons_ap, eOp2_ap, eOp1_ap, eChain_ap, bOf_ap, bNot_ap, bAnd_ap, bOr_ap, eAnd_ap, eOr_ap, eNot_ap, eIf_ap, eTup_ap, eLst_ap, eLstM_ap, cNop_ap, cBreak_ap, cCont_ap, cSeq_ap, cExpr_ap, cSet_ap, cRet_ap, cRetN_ap, cIf_ap, cAsg_ap, cPar2_ap, cPar3_ap, bYes_ap, eCall_ap, oNone_ap, oSome_ap, eSl_ap, cFor_ap, eMtL_ap, aKw_ap, gNm_ap, gTp2, gTp3, gSb_ap, Out.bind, Out.ofO, exq, fin, callE_ap, List.getElem?_cons_succ, List.getElem?_cons_zero, List.set_cons_succ, List.set_cons_zero, List.map_cons, List.map_nil, List.replicate, List.cons_append, List.nil_append, List.length_cons, List.length_nil, Bool.not_true, Bool.not_false, if_true, if_false, ite_true, ite_false, reduceIte, Bool.false_eq_true, Bool.true_eq_false, Nat.reduceAdd, unD, Option.map_some, Nat.zero_le, sz1, sz2, sz3, sz4, sz5, sz6, sz7, sz8, sz9, sz10, sz11, sz12, sz13, sz14, sz15, sz16, Nat.reduceSub, Nat.reduceLeDiff, reduceCtorEq, Bool.and_true, Bool.true_and, Bool.and_false, Bool.false_and, Bool.or_true, Bool.or_false, Bool.true_or, Bool.false_or, well0 h, well1 h, pow9, pow18, opLt_int, ha, decide_true, opNe_sm (x := .list (.int c0 :: cr.map .int)) (y := .list []) sh rfl, unD, Option.map_some, Nat.zero_le, show PyData.eqv (.list (PyData.int c0 :: cr.map .int)) (.list []) = false from rfl, opIx_list e0, opSl_list, e1, wset0 h,
          bAbs_int, opMul_int (m3 _), bInt_bool, opAdd_int, opInt_int, hw, wset1 h2]
      · refine ⟨cr, a, (b * 48271 + (2 * (if c0 < 0 then -c0 else c0) + (if decide (c0 < 0) = true then 1 else 0)) * 69621 + 17) % 2147483647, some (.d (.int c0)), some (.d (.int (2 * (if c0 < 0 then -c0 else c0) + (if decide (c0 < 0) = true then 1 else 0)))), ?_, hl, Int.emod_nonneg _ (by decide), Int.emod_lt_of_pos _ (by decide)⟩
        rw [← List.set_set (a := wellOb cr a b)]
        simp only [eVar_ap, eK_ap, aNil_ap, aCons_ap, eOp2_ap, eOp1_ap, eChain_ap, bOf_ap, bNot_ap, bAnd_ap, bOr_ap, eAnd_ap, eOr_ap, eNot_ap, eIf_ap, eTup_ap, eLst_ap, eLstM_ap, cNop_ap, cBreak_ap, cCont_ap, cSeq_ap, cExpr_ap, cSet_ap, cRet_ap, cRetN_ap, cIf_ap, cAsg_ap, cPar2_ap, cPar3_ap, bYes_ap, eCall_ap, oNone_ap, oSome_ap, eSl_ap, cFor_ap, eMtL_ap, aKw_ap, gNm_ap, gTp2, gTp3, gSb_ap, Out.bind, Out.ofO, exq, fin, callE_ap, List.getElem?_cons_succ, List.getElem?_cons_zero, List.set_cons_succ, List.set_cons_zero, List.map_cons, List.map_nil, List.replicate, List.cons_append, List.nil_append, List.length_cons, List.length_nil, Bool.not_true, Bool.not_false, if_true, if_false, ite_true, ite_false, reduceIte, Bool.false_eq_true, Bool.true_eq_false, Nat.reduceAdd, unD, Option.map_some, Nat.zero_le, sz1, sz2, sz3, sz4, sz5, sz6, sz7, sz8, sz9, sz10, sz11, sz12, sz13, sz14, sz15, sz16, Nat.reduceSub, Nat.reduceLeDiff, reduceCtorEq, Bool.and_true, Bool.true_and, Bool.and_false, Bool.false_and, Bool.or_true, Bool.or_false, Bool.true_or, Bool.false_or, well0 h, well1 h, pow9, pow18, opLt_int, ha, decide_true, decide_false, opNe_sm (x := .list (.int c0 :: cr.map .int)) (y := .list []) sh rfl, unD, Option.map_some, Nat.zero_le, show PyData.eqv (.list (PyData.int c0 :: cr.map .int)) (.list []) = false from rfl, opIx_list e0, opSl_list, e1, wset0 h,
          bAbs_int, opMul_int (m3 _), bInt_bool, bInt_int, opAdd_int, opInt_int, hw, well2 h2, opMul_int m1, opMul_int (m2 _), opMod_int (show (0 : Int) < 2147483647 by decide), wset2 h2]
  · refine ⟨cells, a, b, none, none, ?_, hc, hb0, hb1⟩
    rw [set_self h]
    simp only [eVar_ap, eK_ap, aNil_ap, aCons_ap, eOp2_ap, eOp1_ap, eChain_ap, bOf_ap, bNot_ap, bAnd_ap, bOr_ap, eAnd_ap, eOr_ap, eNot_ap, eIf_ap, eTup_ap, eLst_ap, eLstM_ap, cNop_ap, cBreak_ap, cCont_ap, cSeq_ap, cExpr_ap, cSet_ap, cRet_ap, cRetN_ap, cIf_ap, cAsg_ap, cPar2_ap, cPar3_ap, bYes_ap, eCall_ap, oNone_ap, oSome_ap, eSl_ap, cFor_ap, eMtL_ap, aKw_ap, gNm_ap, gTp2, gTp3, gSb_ap, Out.bind, Out.ofO, exq, fin, callE_ap, List.getElem?_cons_succ, List.getElem?_cons_zero, List.set_cons_succ, List.set_cons_zero, List.map_cons, List.map_nil, List.replicate, List.cons_append, List.nil_append, List.length_cons, List.length_nil, Bool.not_true, Bool.not_false, if_true, if_false, ite_true, ite_false, reduceIte, Bool.false_eq_true, Bool.true_eq_false, Nat.reduceAdd, unD, Option.map_some, Nat.zero_le, sz1, sz2, sz3, sz4, sz5, sz6, sz7, sz8, sz9, sz10, sz11, sz12, sz13, sz14, sz15, sz16, Nat.reduceSub, Nat.reduceLeDiff, reduceCtorEq, Bool.and_true, Bool.true_and, Bool.and_false, Bool.false_and, Bool.or_true, Bool.or_false, Bool.true_or, Bool.false_or, well0 h, well1 h, pow9, opLt_int, ha, decide_false]
/-- what a draw hands back, and what it leaves -/
theorem draw_ok {many : Int} (hW : Well S n) (h0 : 0 < many) (h1 : many < 2 ^ 62) : ∃ (k : Nat) (o : Ob), mDraw [.ref n, .d (.int many)] S = .ok (.d (.int k)) (S.set n o) ∧ (k : Int) < many ∧ Well (S.set n o) n := by
  obtain ⟨cells, a, b, h, hc, hb0, hb1⟩ := hW
  obtain ⟨c1, a1, b1, w2, w3, eA, hc1, hb0, hb1⟩ := drawA h hc hb0 hb1 (many := many)
  have h1' := set_at (o' := wellOb c1 a1 b1) h
  unfold mDraw defM bDraw
  have e2 : ([W.ref n, W.d (PyData.int many)].map some ++ List.replicate (5 - 2) none) = [some (W.ref n), some (.d (.int many)), none, none, none] := rfl
  rw [e2]
  obtain ⟨S1, hS1⟩ : ∃ S1, S1 = S.set n (wellOb c1 a1 b1) := ⟨_, rfl⟩
  have key : ∀ o, S.set n o = S1.set n o := fun o => by rw [hS1, List.set_set]
  rw [← hS1] at eA h1'
  simp only [List.length_cons, List.length_nil, if_true, cSeq, eA, Out.bind, bDrawB, key]
  by_cases ha : (1000000000 : Int) ≤ a1
  · have hd : CDivW a1 many := ⟨h0, by
      have : many.natAbs < 2 ^ 62 := by omega
      have := Nat.log2_lt (n := many.natAbs) (k := 62) (by omega) |>.2 this
      omega⟩
    have e : 0 ≤ a1 % many := Int.emod_nonneg _ (by omega)
    refine ⟨(a1 % many).toNat, wellOb c1 (a1 / many) b1, ?_, ?_, c1, _, _, set_at h1', hc1, hb0, hb1⟩
    · skip
      simp only [eVar_ap, eK_ap, aNil_ap, aCons_ap, eOp2_ap, eOp1_ap, eChain_ap, bOf_ap, bNot_ap, bAnd_ap, bOr_ap, eAnd_ap, eOr_ap, eNot_ap, eIf_ap, eTup_ap, eLst_ap, eLstM_ap, cNop_ap, cBreak_ap, cCont_ap, cSeq_ap, cExpr_ap, cSet_ap, cRet_ap, cRetN_ap, cIf_ap, cAsg_ap, cPar2_ap, cPar3_ap, bYes_ap, eCall_ap, oNone_ap, oSome_ap, eSl_ap, cFor_ap, eMtL_ap, aKw_ap, gNm_ap, gTp2, gTp3, gSb_ap, Out.bind, Out.ofO, exq, fin, callE_ap, List.getElem?_cons_succ, List.getElem?_cons_zero, List.set_cons_succ, List.set_cons_zero, List.map_cons, List.map_nil, List.replicate, List.cons_append, List.nil_append, List.length_cons, List.length_nil, Bool.not_true, Bool.not_false, if_true, if_false, ite_true, ite_false, reduceIte, Bool.false_eq_true, Bool.true_eq_false, Nat.reduceAdd, unD, Option.map_some, Nat.zero_le, sz1, sz2, sz3, sz4, sz5, sz6, sz7, sz8, sz9, sz10, sz11, sz12, sz13, sz14, sz15, sz16, Nat.reduceSub, Nat.reduceLeDiff, reduceCtorEq, Bool.and_true, Bool.true_and, Bool.and_false, Bool.false_and, Bool.or_true, Bool.or_false, Bool.true_or, Bool.false_or, well1 h1', pow9, opInt_int, ha, decide_true, bInt_int, opMod_int h0, opDiv_int hd, wset1 h1']
      rw [Int.toNat_of_nonneg e]
    · rw [Int.toNat_of_nonneg e]; exact Int.emod_lt_of_pos _ h0
  · have m1 : CMul b1 39373 := .inr ⟨by decide, by decide⟩
    have hd : CDivW ((b1 * 39373 + 101) % 2147483647) 89 := ⟨by decide, by decide⟩
    have e : 0 ≤ (b1 * 39373 + 101) % 2147483647 / 89 % many := Int.emod_nonneg _ (by omega)
    have hs := set_at (o' := wellOb c1 a1 ((b1 * 39373 + 101) % 2147483647)) h1'
    refine ⟨((b1 * 39373 + 101) % 2147483647 / 89 % many).toNat, wellOb c1 a1 ((b1 * 39373 + 101) % 2147483647), ?_, ?_, c1, _, _, set_at h1', hc1, Int.emod_nonneg _ (by decide), Int.emod_lt_of_pos _ (by decide)⟩
    · skip
      simp only [eVar_ap, eK_ap, aNil_ap, aCons_ap, eOp2_ap, eOp1_ap, eChain_ap, bOf_ap, bNot_ap, bAnd_ap, bOr_ap, eAnd_ap, eOr_ap, eNot_ap, eIf_ap, eTup_ap, eLst_ap, eLstM_ap, cNop_ap, cBreak_ap, cCont_ap, cSeq_ap, cExpr_ap, cSet_ap, cRet_ap, cRetN_ap, cIf_ap, cAsg_ap, cPar2_ap, cPar3_ap, bYes_ap, eCall_ap, oNone_ap, oSome_ap, eSl_ap, cFor_ap, eMtL_ap, aKw_ap, gNm_ap, gTp2, gTp3, gSb_ap, Out.bind, Out.ofO, exq, fin, callE_ap, List.getElem?_cons_succ, List.getElem?_cons_zero, List.set_cons_succ, List.set_cons_zero, List.map_cons, List.map_nil, List.replicate, List.cons_append, List.nil_append, List.length_cons, List.length_nil, Bool.not_true, Bool.not_false, if_true, if_false, ite_true, ite_false, reduceIte, Bool.false_eq_true, Bool.true_eq_false, Nat.reduceAdd, unD, Option.map_some, Nat.zero_le, sz1, sz2, sz3, sz4, sz5, sz6, sz7, sz8, sz9, sz10, sz11, sz12, sz13, sz14, sz15, sz16, Nat.reduceSub, Nat.reduceLeDiff, reduceCtorEq, Bool.and_true, Bool.true_and, Bool.and_false, Bool.false_and, Bool.or_true, Bool.or_false, Bool.true_or, Bool.false_or, well1 h1', pow9, opInt_int, ha, decide_false, bInt_int, well2 h1', opMul_int m1, opAdd_int, opMod_int (show (0 : Int) < 2147483647 by decide), wset2 h1', well2 hs, opDiv_int hd, opMod_int h0]
      rw [Int.toNat_of_nonneg e]
    · rw [Int.toNat_of_nonneg e]; exact Int.emod_lt_of_pos _ h0
theorem well_ok {ns : List Int} (hl : ns.length ≤ 63) : mWell [.fl (ns.map .int)] S = .ok (.ref S.length) (S ++ [wellOb ns 0 40507]) ∧ Well (S ++ [wellOb ns 0 40507]) S.length := by
  refine ⟨?_, ns, 0, 40507, by simp, hl, by decide, by decide⟩
  have e1 : cut (ns.map PyData.int) none (some 63) = ns.map .int := by
    rw [show (63 : Int) = ((63 : Nat) : Int) from rfl, cutTo, List.take_of_length_le (by simpa using hl)]
  unfold mWell defM bWell
  simp only [eVar_ap, eK_ap, aNil_ap, aCons_ap, eOp2_ap, eOp1_ap, eChain_ap, bOf_ap, bNot_ap, bAnd_ap, bOr_ap, eAnd_ap, eOr_ap, eNot_ap, eIf_ap, eTup_ap, eLst_ap, eLstM_ap, cNop_ap, cBreak_ap, cCont_ap, cSeq_ap, cExpr_ap, cSet_ap, cRet_ap, cRetN_ap, cIf_ap, cAsg_ap, cPar2_ap, cPar3_ap, bYes_ap, eCall_ap, oNone_ap, oSome_ap, eSl_ap, cFor_ap, eMtL_ap, aKw_ap, gNm_ap, gTp2, gTp3, gSb_ap, Out.bind, Out.ofO, exq, fin, callE_ap, List.getElem?_cons_succ, List.getElem?_cons_zero, List.set_cons_succ, List.set_cons_zero, List.map_cons, List.map_nil, List.replicate, List.cons_append, List.nil_append, List.length_cons, List.length_nil, Bool.not_true, Bool.not_false, if_true, if_false, ite_true, ite_false, reduceIte, Bool.false_eq_true, Bool.true_eq_false, Nat.reduceAdd, unD, Option.map_some, Nat.zero_le, sz1, sz2, sz3, sz4, sz5, sz6, sz7, sz8, sz9, sz10, sz11, sz12, sz13, sz14, sz15, sz16, Nat.reduceSub, Nat.reduceLeDiff, reduceCtorEq, Bool.and_true, Bool.true_and, Bool.and_false, Bool.false_and, Bool.or_true, Bool.or_false, Bool.true_or, Bool.false_or]
  rw [eLc_y ns (fun i => .d (.int i)) (fun i => .int i) (grd := fun _ => True) ?_ trivial (Nat.le_trans hl (by decide)) fun i _ => ?_]
  · simp only [eVar_ap, eK_ap, aNil_ap, aCons_ap, eOp2_ap, eOp1_ap, eChain_ap, bOf_ap, bNot_ap, bAnd_ap, bOr_ap, eAnd_ap, eOr_ap, eNot_ap, eIf_ap, eTup_ap, eLst_ap, eLstM_ap, cNop_ap, cBreak_ap, cCont_ap, cSeq_ap, cExpr_ap, cSet_ap, cRet_ap, cRetN_ap, cIf_ap, cAsg_ap, cPar2_ap, cPar3_ap, bYes_ap, eCall_ap, oNone_ap, oSome_ap, eSl_ap, cFor_ap, eMtL_ap, aKw_ap, gNm_ap, gTp2, gTp3, gSb_ap, Out.bind, Out.ofO, exq, fin, callE_ap, List.getElem?_cons_succ, List.getElem?_cons_zero, List.set_cons_succ, List.set_cons_zero, List.map_cons, List.map_nil, List.replicate, List.cons_append, List.nil_append, List.length_cons, List.length_nil, Bool.not_true, Bool.not_false, if_true, if_false, ite_true, ite_false, reduceIte, Bool.false_eq_true, Bool.true_eq_false, Nat.reduceAdd, unD, Option.map_some, Nat.zero_le, sz1, sz2, sz3, sz4, sz5, sz6, sz7, sz8, sz9, sz10, sz11, sz12, sz13, sz14, sz15, sz16, Nat.reduceSub, Nat.reduceLeDiff, reduceCtorEq, Bool.and_true, Bool.true_and, Bool.and_false, Bool.false_and, Bool.or_true, Bool.or_false, Bool.true_or, Bool.false_or, newCell, show 1 + 1 + 1 ≤ sizeLine from by decide]; rfl
  · rw [iSq_list (xs := ns.map .int)]
    · simp
    · simp only [eVar_ap, eK_ap, aNil_ap, aCons_ap, eOp2_ap, eOp1_ap, eChain_ap, bOf_ap, bNot_ap, bAnd_ap, bOr_ap, eAnd_ap, eOr_ap, eNot_ap, eIf_ap, eTup_ap, eLst_ap, eLstM_ap, cNop_ap, cBreak_ap, cCont_ap, cSeq_ap, cExpr_ap, cSet_ap, cRet_ap, cRetN_ap, cIf_ap, cAsg_ap, cPar2_ap, cPar3_ap, bYes_ap, eCall_ap, oNone_ap, oSome_ap, eSl_ap, cFor_ap, eMtL_ap, aKw_ap, gNm_ap, gTp2, gTp3, gSb_ap, Out.bind, Out.ofO, exq, fin, callE_ap, List.getElem?_cons_succ, List.getElem?_cons_zero, List.set_cons_succ, List.set_cons_zero, List.map_cons, List.map_nil, List.replicate, List.cons_append, List.nil_append, List.length_cons, List.length_nil, Bool.not_true, Bool.not_false, if_true, if_false, ite_true, ite_false, reduceIte, Bool.false_eq_true, Bool.true_eq_false, Nat.reduceAdd, unD, Option.map_some, Nat.zero_le, sz1, sz2, sz3, sz4, sz5, sz6, sz7, sz8, sz9, sz10, sz11, sz12, sz13, sz14, sz15, sz16, Nat.reduceSub, Nat.reduceLeDiff, reduceCtorEq, Bool.and_true, Bool.true_and, Bool.and_false, Bool.false_and, Bool.or_true, Bool.or_false, Bool.true_or, Bool.false_or, opSl_fl, e1]
  · exact ⟨[some (.fl (ns.map .int)), some (.d (.int i))], rfl, rfl⟩
end
end Sh
end

section
/-! Sh: more of how the plain functions compute: pairs, kinds, orders. -/
namespace Sh
open PySem PySem.Spec PyProof.Rows L2
open Classical

section
variable {S : Sto} {ρ : Rho} {xs ys : List PyData}
theorem zipW_map : zipW (xs.map .d) (ys.map .d) = (xs.zip ys).map fun p => W.d (.tuple [p.1, p.2]) := by
  unfold zipW
  rw [List.zipWith_map, List.zip, List.map_zipWith]
  rfl
theorem enumW_map : enumW (xs.map .d) = xs.zipIdx.map fun p => W.d (.tuple [.int (p.2 : Int), p.1]) := by
  apply List.ext_getElem?
  intro i
  unfold enumW
  rw [List.getElem?_zipWith, List.length_map, List.getElem?_map, List.getElem?_map, List.getElem?_zipIdx]
  by_cases h : i < xs.length
  · rw [List.getElem?_range h, List.getElem?_eq_getElem h]
    simp [mkTup, unD]
  · rw [List.getElem?_eq_none (l := List.range xs.length) (by simpa using h), List.getElem?_eq_none (l := xs) (by omega)]; rfl
theorem iZp_tt {ms : AM} (h : ms ρ S = .ok [.d (.tuple xs), .d (.tuple ys)] S) : iZp ms ρ S = .ok ⟨(xs.zip ys).map fun p => W.d (.tuple [p.1, p.2]), fun _ => True⟩ S := by
  simp only [iZp, h, Out.bind, plL, tupOf, zipW_map]
theorem iZp_ll {ms : AM} (h : ms ρ S = .ok [.d (.list xs), .d (.list ys)] S) : iZp ms ρ S = .ok ⟨(xs.zip ys).map fun p => W.d (.tuple [p.1, p.2]), fun _ => True⟩ S := by
  simp only [iZp, h, Out.bind, plL, zipW_map]
theorem iEn_tup {ms : AM} (h : ms ρ S = .ok [.d (.tuple xs)] S) : iEn ms ρ S = .ok ⟨xs.zipIdx.map fun p => W.d (.tuple [.int (p.2 : Int), p.1]), fun _ => True⟩ S := by
  simp only [iEn, h, Out.bind, tupOf, enumW_map]
theorem iEn_list {ms : AM} (h : ms ρ S = .ok [.d (.list xs)] S) : iEn ms ρ S = .ok ⟨xs.zipIdx.map fun p => W.d (.tuple [.int (p.2 : Int), p.1]), fun _ => True⟩ S := by
  simp only [iEn, h, Out.bind, enumW_map]
end

/-! ### kinds -/
def isI : PyData → Bool
  | .int _ => true
  | _ => false
def isS : PyData → Bool
  | .str _ => true
  | _ => false
def isT : PyData → Bool
  | .tuple _ => true
  | _ => false
theorem isiInt (x : PyData) : (isiT (tyD x) "int" && !isiT (tyD x) "bool") = isI x := by cases x <;> rfl
theorem isiStr (x : PyData) : isiT (tyD x) "str" = isS x := by cases x <;> rfl
theorem isiTup (x : PyData) : isiT (tyD x) "tuple" = isT x := by cases x <;> rfl
theorem isI_iff {x : PyData} : isI x = true ↔ ∃ i, x = .int i := by cases x <;> simp [isI]
theorem isS_iff {x : PyData} : isS x = true ↔ ∃ i, x = .str i := by cases x <;> simp [isS]
theorem isT_iff {x : PyData} : isT x = true ↔ ∃ i, x = .tuple i := by cases x <;> simp [isT]
theorem opEq_sh {S : Sto} {n m : Nat} {x y : PyData} (hx : sm n x = true) (hy : sm m y = true) (hn : n ≤ 64 := by decide) (hm : m ≤ 64 := by decide) : opEq (.d x) (.d y) S = .ok (.d (.bool (PyData.eqv x y))) S := opEq_sm (sm_shaped hx hn) (sm_shaped hy hm)
theorem opNe_sh {S : Sto} {n m : Nat} {x y : PyData} (hx : sm n x = true) (hy : sm m y = true) (hn : n ≤ 64 := by decide) (hm : m ≤ 64 := by decide) : opNe (.d x) (.d y) S = .ok (.d (.bool (!PyData.eqv x y))) S := opNe_sm (sm_shaped hx hn) (sm_shaped hy hm)
theorem eqv_tnil {xs : List PyData} : PyData.eqv (.tuple xs) (.tuple []) = xs.isEmpty := by cases xs <;> rfl
theorem eqv_lnil {xs : List PyData} : PyData.eqv (.list xs) (.list []) = xs.isEmpty := by cases xs <;> rfl

/-! ### orders -/
def ltD : PyData → PyData → Bool
  | .int a, .int b => decide (a < b)
  | .str a, .str b => decide (a.cps.toList < b.cps.toList)
  | _, _ => false
def OneKind (xs : List PyData) : Prop := (∀ x ∈ xs, isS x = true) ∨ ∀ x ∈ xs, isI x = true
theorem opLt_D {S : Sto} {xs : List PyData} {x y : PyData} (h : OneKind xs) (hx : x ∈ xs) (hy : y ∈ xs) : opLt (.d x) (.d y) S = .ok (.d (.bool (ltD x y))) S := by
  rcases h with h | h
  · obtain ⟨a, rfl⟩ := isS_iff.1 (h x hx); obtain ⟨b, rfl⟩ := isS_iff.1 (h y hy); rfl
  · obtain ⟨a, rfl⟩ := isI_iff.1 (h x hx); obtain ⟨b, rfl⟩ := isI_iff.1 (h y hy); rfl
/-- each before the next one -/
def ascD (xs : List PyData) : Bool := (xs.zip xs.tail).all fun p => ltD p.1 p.2
theorem zip_tail {xs : List PyData} : xs.zip xs.tail = (List.range (xs.length - 1)).map fun k => (xs.getD k .none, xs.getD (k + 1) .none) := by
  apply List.ext_getElem
  · simp
  · intro i h1 h2
    simp only [List.length_zip, List.length_tail] at h1
    have e1 : i < xs.length := by omega
    have e2 : i + 1 < xs.length := by omega
    simp [List.getElem_zip, e1, e2]
theorem ascD_range {xs : List PyData} : ascD xs = (List.range (xs.length - 1)).all fun k => ltD (xs.getD k .none) (xs.getD (k + 1) .none) := by
  unfold ascD
  rw [zip_tail, List.all_map]
  rfl
theorem getD_mem {xs : List PyData} {k : Nat} (h : k < xs.length) : xs.getD k .none ∈ xs := by simp [h]
theorem atI_getD {xs : List PyData} {k : Nat} (h : k < xs.length) : atI xs (k : Int) = some (xs.getD k .none) := atI_nat (by simp [h])
theorem atI_getD' {xs : List PyData} {k : Nat} {i : Int} (e : i = (k : Int)) (h : k < xs.length) : atI xs i = some (xs.getD k .none) := e ▸ atI_getD h
/-- a sign in a text -/
def inS (c z : Str) : Bool := !(Builtin.Str.occurrences z c 0 z.length 1).isEmpty
theorem opIn_s {S : Sto} {c z : Str} : opIn false (.d (.str c)) (.d (.str z)) S = .ok (.d (.bool (inS c z))) S := by simp [opIn, inS]
theorem opNotIn_s {S : Sto} {c z : Str} : opIn true (.d (.str c)) (.d (.str z)) S = .ok (.d (.bool (!inS c z))) S := by simp [opIn, inS]
abbrev one (c : Nat) : Str := ⟨#[c]⟩
theorem len_le (h : n ≤ 1000) : n ≤ sizeLine := Nat.le_trans h (by decide)
theorem zipIdx_range {xs : List PyData} : xs.zipIdx = (List.range xs.length).map fun k => (xs.getD k .none, k) := by
  apply List.ext_getElem
  · simp
  · intro i h1 h2
    simp only [List.length_zipIdx] at h1
    simp [h1]

/-! ### loops -/
section
variable {α : Type} {mk : α → W} {grd : Sto → Prop} {g : GM} {body : SM} {tt : BM} {elt : EM} {ρ0 : Rho} {im : IM} {vs : List Nat}
/-- a walk that stops with an answer at the first that fails -/
theorem forL_all {S : Sto} {t : α → Bool} {w0 : W} {P : Rho → Prop} (hg : grd S) : ∀ (l : List α), (∀ x ∈ l, ∀ ρ, P ρ → ∃ ρ1, g (mk x) ρ S = .ok ρ1 S ∧ (t x = true → ∃ ρ2, (body ρ1 S = .ok (.nx ρ2) S ∨ body ρ1 S = .ok (.ct ρ2) S) ∧ P ρ2) ∧ (t x = false → body ρ1 S = .ok (.rt w0) S)) →
    ∀ ρ, P ρ → (l.all t = true → ∃ ρ', P ρ' ∧ forL grd g body (l.map mk) ρ S = .ok (.nx ρ') S) ∧ (l.all t = false → forL grd g body (l.map mk) ρ S = .ok (.rt w0) S)
  | [], _, ρ, hp => ⟨fun _ => ⟨ρ, hp, by simp [forL, hg]⟩, fun h => by simp at h⟩
  | x :: l, h, ρ, hp => by
    obtain ⟨ρ1, e1, ht, hf⟩ := h x (by simp) ρ hp
    have ih := forL_all hg l fun y hy => h y (by simp [hy])
    simp only [List.map_cons, forL, hg, if_true, e1, exq, Out.bind, List.all_cons]
    cases q : t x with
    | true =>
      obtain ⟨ρ2, e2, hp2⟩ := ht q
      simp only [Bool.true_and]
      rcases e2 with e2 | e2 <;> simp only [e2] <;> exact ih ρ2 hp2
    | false => simp only [hf q, Bool.false_and]; exact ⟨fun h => (nomatch h), fun _ => trivial⟩
/-- a walk that keeps to an invariant -/
theorem forL_inv {Inv : Rho → Sto → Prop} (hg : ∀ ρ S, Inv ρ S → grd S) : ∀ (l : List α), (∀ x ∈ l, ∀ ρ S, Inv ρ S → ∃ ρ1 S1, g (mk x) ρ S = .ok ρ1 S1 ∧ ∃ ρ2 S2, (body ρ1 S1 = .ok (.nx ρ2) S2 ∨ body ρ1 S1 = .ok (.ct ρ2) S2) ∧ Inv ρ2 S2) →
    ∀ ρ S, Inv ρ S → ∃ ρ' S', forL grd g body (l.map mk) ρ S = .ok (.nx ρ') S' ∧ Inv ρ' S'
  | [], _, ρ, S, hp => ⟨ρ, S, by simp [forL, hg ρ S hp], hp⟩
  | x :: l, h, ρ, S, hp => by
    obtain ⟨ρ1, S1, e1, ρ2, S2, e2, hp2⟩ := h x (by simp) ρ S hp
    obtain ⟨ρ', S', e3, hp3⟩ := forL_inv hg l (fun y hy => h y (by simp [hy])) ρ2 S2 hp2
    refine ⟨ρ', S', ?_, hp3⟩
    simp only [List.map_cons, forL, hg ρ S hp, if_true, e1, exq, Out.bind]
    rcases e2 with e2 | e2 <;> simp only [e2] <;> exact e3
/-- a list of what is made, the store changing -/
theorem lcL_inv {Inv : Sto → Prop} {Pe : PyData → Prop} (hg : ∀ S, Inv S → grd S) : ∀ (l : List α), (∀ x ∈ l, ∀ S, Inv S → ∃ ρ' S1, g (mk x) ρ0 S = .ok ρ' S1 ∧ ∃ y S3, elt ρ' S1 = .ok (.d y) S3 ∧ Pe y ∧ Inv S3) →
    ∀ S, Inv S → ∃ (ys : List PyData) (S' : Sto), lcL grd g bYes elt ρ0 (l.map mk) S = .ok (ys.map .d) S' ∧ Inv S' ∧ ys.length = l.length ∧ ∀ y ∈ ys, Pe y
  | [], _, S, hp => ⟨[], S, by simp [lcL, hg S hp], hp, rfl, fun _ h => nomatch h⟩
  | x :: l, h, S, hp => by
    obtain ⟨ρ', S1, e1, y, S3, e2, hy, hp2⟩ := h x (by simp) S hp
    obtain ⟨ys, S', e3, hp3, hl, ha⟩ := lcL_inv hg l (fun y hy => h y (by simp [hy])) S3 hp2
    refine ⟨y :: ys, S', ?_, hp3, by simp [hl], ?_⟩
    · simp only [List.map_cons, lcL, hg S hp, if_true, e1, Out.bindB, bYes, e2, e3]
    · intro z hz
      rcases List.mem_cons.1 hz with rfl | hz
      · exact hy
      · exact ha z hz
/-- a list of what is chosen, the store changing -/
theorem lcL_flt {Inv : Sto → Prop} (f : α → PyData) (hg : ∀ S, Inv S → grd S) : ∀ (l : List α), (∀ x ∈ l, ∀ S, Inv S → ∃ ρ' S1, g (mk x) ρ0 S = .ok ρ' S1 ∧ ∃ b S2, tt ρ' S1 = .ok b S2 ∧ Inv S2 ∧ (b = true → elt ρ' S2 = .ok (.d (f x)) S2)) →
    ∀ S, Inv S → ∃ (l' : List α) (S' : Sto), l'.Sublist l ∧ lcL grd g tt elt ρ0 (l.map mk) S = .ok ((l'.map f).map .d) S' ∧ Inv S'
  | [], _, S, hp => ⟨[], S, .slnil, by simp [lcL, hg S hp], hp⟩
  | x :: l, h, S, hp => by
    obtain ⟨ρ', S1, e1, b, S2, e2, hp2, hb⟩ := h x (by simp) S hp
    obtain ⟨l', S', hs, e3, hp3⟩ := lcL_flt f hg l (fun y hy => h y (by simp [hy])) S2 hp2
    cases b with
    | true => exact ⟨x :: l', S', hs.cons₂ x, by simp only [List.map_cons, lcL, hg S hp, if_true, e1, Out.bindB, e2, hb rfl, e3], hp3⟩
    | false => exact ⟨l', S', hs.cons x, by simp only [List.map_cons, lcL, hg S hp, if_true, e1, Out.bindB, e2, Bool.false_eq_true, if_false, e3], hp3⟩
theorem eLc_inv {Inv : Sto → Prop} {Pe : PyData → Prop} {ρ : Rho} {S S1 : Sto} (l : List α) (him : im ρ S = .ok ⟨l.map mk, grd⟩ S1) (hz : l.length ≤ sizeLine) (hp : Inv S1) (hg : ∀ S, Inv S → grd S)
    (h : ∀ x ∈ l, ∀ S, Inv S → ∃ ρ' S1, g (mk x) (wipeR ρ vs) S = .ok ρ' S1 ∧ ∃ y S3, elt ρ' S1 = .ok (.d y) S3 ∧ Pe y ∧ Inv S3) : ∃ (ys : List PyData) (S' : Sto), eLc im g bYes elt vs ρ S = .ok (.d (.list ys)) S' ∧ Inv S' ∧ ys.length = l.length ∧ ∀ y ∈ ys, Pe y := by
  obtain ⟨ys, S', e, hp', hl, ha⟩ := lcL_inv hg l h S1 hp
  exact ⟨ys, S', by simp only [eLc, him, Out.bind, List.length_map, hz, if_true, e, Out.bindB, unD_map, Option.map_some, Out.ofO], hp', hl, ha⟩
theorem eLc_flt {Inv : Sto → Prop} {ρ : Rho} {S S1 : Sto} (f : α → PyData) (l : List α) (him : im ρ S = .ok ⟨l.map mk, grd⟩ S1) (hz : l.length ≤ sizeLine) (hp : Inv S1) (hg : ∀ S, Inv S → grd S)
    (h : ∀ x ∈ l, ∀ S, Inv S → ∃ ρ' S1, g (mk x) (wipeR ρ vs) S = .ok ρ' S1 ∧ ∃ b S2, tt ρ' S1 = .ok b S2 ∧ Inv S2 ∧ (b = true → elt ρ' S2 = .ok (.d (f x)) S2)) : ∃ (l' : List α) (S' : Sto), l'.Sublist l ∧ eLc im g tt elt vs ρ S = .ok (.d (.list (l'.map f))) S' ∧ Inv S' := by
  obtain ⟨l', S', hs, e, hp'⟩ := lcL_flt f hg l h S1 hp
  exact ⟨l', S', hs, by simp only [eLc, him, Out.bind, List.length_map (as := l), hz, if_true, e, Out.bindB, unD_map, Option.map_some, Out.ofO], hp'⟩
end
theorem forL_invN {α : Type} {mk : α → W} {grd : Sto → Prop} {g : GM} {body : SM} {Inv : Nat → Rho → Sto → Prop} (hg : ∀ k ρ S, Inv k ρ S → grd S) : ∀ (l : List α) (k : Nat), (∀ x ∈ l, ∀ j ρ S, j < k + l.length → Inv j ρ S → ∃ ρ1 S1, g (mk x) ρ S = .ok ρ1 S1 ∧ ∃ ρ2 S2, (body ρ1 S1 = .ok (.nx ρ2) S2 ∨ body ρ1 S1 = .ok (.ct ρ2) S2) ∧ Inv (j + 1) ρ2 S2) →
    ∀ ρ S, Inv k ρ S → ∃ ρ' S', forL grd g body (l.map mk) ρ S = .ok (.nx ρ') S' ∧ Inv (k + l.length) ρ' S'
  | [], k, _, ρ, S, hp => ⟨ρ, S, by simp [forL, hg k ρ S hp], hp⟩
  | x :: l, k, h, ρ, S, hp => by
    obtain ⟨ρ1, S1, e1, ρ2, S2, e2, hp2⟩ := h x (by simp) k ρ S (by simp) hp
    have el : k + (x :: l).length = k + 1 + l.length := by rw [List.length_cons, Nat.add_comm l.length, ← Nat.add_assoc]
    obtain ⟨ρ', S', e3, hp3⟩ := forL_invN hg l (k + 1) (fun y hy j ρ S hj => h y (by simp [hy]) j ρ S (by rw [el]; exact hj)) ρ2 S2 hp2
    refine ⟨ρ', S', ?_, by rw [el]; exact hp3⟩
    simp only [List.map_cons, forL, hg k ρ S hp, if_true, e1, exq, Out.bind]
    rcases e2 with e2 | e2 <;> simp only [e2] <;> exact e3
/-- items of small depth, not many -/
def Sq (n k : Nat) (xs : List PyData) : Prop := xs.length ≤ k ∧ ∀ x ∈ xs, sm n x = true
section
variable {n k j : Nat} {xs ys : List PyData} {x : PyData}
theorem Sq.nil : Sq n k [] := ⟨Nat.zero_le _, fun _ h => nomatch h⟩
theorem Sq.cons (h : sm n x = true) (h2 : Sq n k xs) : Sq n (k + 1) (x :: xs) := ⟨Nat.succ_le_succ h2.1, fun y hy => (List.mem_cons.1 hy).elim (fun e => e ▸ h) (h2.2 y)⟩
theorem Sq.one (h : sm n x = true) : Sq n 1 [x] := Sq.cons h .nil
theorem Sq.app (h : Sq n k xs) (h2 : Sq n j ys) : Sq n (k + j) (xs ++ ys) := ⟨by rw [List.length_append]; exact Nat.add_le_add h.1 h2.1, fun y hy => (List.mem_append.1 hy).elim (h.2 y) (h2.2 y)⟩
theorem Sq.cut {lo hi : Option Int} (h : Sq n k xs) : Sq n k (cut xs lo hi) := ⟨by unfold Sh.cut; rw [List.length_take, List.length_drop]; have := h.1; omega, fun y hy => h.2 y (List.mem_of_mem_drop (List.mem_of_mem_take hy))⟩
theorem Sq.rev (h : Sq n k xs) : Sq n k xs.reverse := ⟨by simpa using h.1, fun y hy => h.2 y (by simpa using hy)⟩
theorem Sq.le (h : Sq n k xs) (hk : k ≤ j) : Sq n j xs := ⟨Nat.le_trans h.1 hk, h.2⟩
theorem Sq.up {m : Nat} (h : Sq n k xs) (hn : n ≤ m) : Sq m k xs := ⟨h.1, fun x hx => sm_mono (h.2 x hx) hn⟩
theorem Sq.tup (h : Sq n k xs) (hk : k ≤ 1000 := by decide) : sm (n + 1) (.tuple xs) = true := sm_tup.2 ⟨Nat.le_trans h.1 hk, h.2⟩
theorem Sq.lst (h : Sq n k xs) (hk : k ≤ 1000 := by decide) : sm (n + 1) (.list xs) = true := sm_list.2 ⟨Nat.le_trans h.1 hk, h.2⟩
theorem Sq.len (h : Sq n k xs) (hk : k ≤ 1000 := by decide) : xs.length ≤ sizeLine := len_le (Nat.le_trans h.1 hk)
/-- an item by its place -/
theorem atI_mem {i : Nat} (h : i < xs.length) : ∃ d ∈ xs, atI xs (i : Int) = some d := ⟨_, getD_mem h, atI_getD h⟩
end
theorem mAppend_at {S : Sto} {n : Nat} {ws : List W} {y : W} (h : S[n]? = some (.lst ws)) (hl : ws.length < sizeLine) : mAppend (.ref n) [y] S = .ok (.d .none) (S.set n (.lst (ws ++ [y]))) := by simp [mAppend, h, hl]
theorem isL_at {S : Sto} {n : Nat} {ws : List W} (h : S[n]? = some (.lst ws)) : isL S (.ref n) = true := by simp [isL, h]
theorem isL_list {S : Sto} {xs : List PyData} : isL S (.d (.list xs)) = true := rfl
theorem Well.set {S : Sto} {n c : Nat} {o : Ob} (h : Well S n) (hc : c ≠ n) : Well (S.set c o) n := by
  obtain ⟨cells, a, b, h, r⟩ := h
  exact ⟨cells, a, b, by rw [List.getElem?_set_ne hc]; exact h, r⟩
theorem Well.snoc {S : Sto} {n : Nat} {o : Ob} (h : Well S n) : Well (S ++ [o]) n := by
  obtain ⟨cells, a, b, h, r⟩ := h
  refine ⟨cells, a, b, ?_, r⟩
  rw [List.getElem?_append_left]
  · exact h
  · rcases Nat.lt_or_ge n S.length with g | g
    · exact g
    · rw [List.getElem?_eq_none g] at h; cases h
theorem Well.lt {S : Sto} {n : Nat} (h : Well S n) : n < S.length := by
  obtain ⟨cells, a, b, h, r⟩ := h
  rcases Nat.lt_or_ge n S.length with g | g
  · exact g
  · rw [List.getElem?_eq_none g] at h; cases h
/-- pairs of neighbours in an ascending row of numbers -/
theorem ascD_ints : ∀ {l : List Nat}, l.Pairwise (· < ·) → ascD (l.map fun (k : Nat) => PyData.int (k : Int)) = true
  | [], _ => rfl
  | [_], _ => rfl
  | a :: b :: l, h => by
    have h1 : a < b := (List.pairwise_cons.1 h).1 b (by simp)
    have ih := ascD_ints (l := b :: l) (List.pairwise_cons.1 h).2
    simp only [ascD, List.map_cons, List.tail_cons, List.zip_cons_cons, List.all_cons, Bool.and_eq_true] at ih ⊢
    exact ⟨by simp [ltD]; omega, ih⟩
/-- the well lies in cell n, whatever else -/
theorem draw_any {S : Sto} {n : Nat} {many : Int} (hW : Well S n) (h0 : 0 < many) (h1 : many < 2 ^ 62) : ∃ (k : Nat) (S' : Sto), mDraw [.ref n, .d (.int many)] S = .ok (.d (.int k)) S' ∧ (k : Int) < many ∧ Well S' n ∧ S'.length = S.length ∧ ∀ j, j ≠ n → S'[j]? = S[j]? := by
  obtain ⟨k, o, e, hk, hW⟩ := draw_ok hW h0 h1
  exact ⟨k, _, e, hk, hW, by simp, fun j hj => by rw [List.getElem?_set_ne (Ne.symm hj)]⟩
end Sh
end

section
namespace Law
open PySem PySem.Spec PyProof.Rows L2 Sh
noncomputable def b_is_int : SM := cRet (eAnd (eOp1 (opIsi "int") (eVar 0)) (eNot (eOp1 (opIsi "bool") (eVar 0))))
noncomputable def m_is_int : FM := defM 1 1 b_is_int
noncomputable def b_is_row : SM := cRet (eAnd (eOp1 (opIsi "tuple") (eVar 0)) (eChain (opLe) (opLe) (eVar 1) (eCall bLen (aCons (eVar 0) aNil)) (eVar 2)))
noncomputable def m_is_row : FM := defM 3 3 b_is_row
noncomputable def b_is_ascending : SM := cRet (eCall bAll (aCons (eLc (iZp (aCons (eVar 0) (aCons (eSl (eVar 0) (oSome (eInt 1)) oNone) aNil))) (gTp 2 (gsCons (gNm 1) (gsCons (gNm 2) (gsNil)))) (bYes) (eOp2 (opLt) (eVar 1) (eVar 2)) [1, 2]) aNil))
noncomputable def m_is_ascending : FM := defM 3 1 b_is_ascending
noncomputable def b_is_low_name : SM := cSeq (cIf (bOr (bNot (bOf (eOp1 (opIsi "str") (eVar 0)))) (bNot (bOf (eChain (opLe) (opLe) (eInt 1) (eCall bLen (aCons (eVar 0) aNil)) (eK (.d (.int 10))))))) (cRet (eBl false)) (cNop)) (cRet (eAnd (eOp2 (opIn false) (eOp2 opIx (eVar 0) (eInt 0)) (eK (.d (.str "abcdefghijklmnopqrstuvwxyz")))) (eCall bAll (aCons (eLc (iSq (eVar 0)) (gNm 1) (bYes) (eOp2 (opIn false) (eVar 1) (eK (.d (.str "abcdefghijklmnopqrstuvwxyz0123456789")))) [1]) aNil))))
noncomputable def m_is_low_name : FM := defM 2 1 b_is_low_name
noncomputable def b__law_well : SM := cRet (eLstM (aCons (eLc (iSq (eSl (eVar 0) oNone (oSome (eInt 63)))) (gNm 1) (bYes) (eCall bInt (aCons (eVar 1) aNil)) [1]) (aCons (eInt 0) (aCons (eInt 40507) aNil))))
noncomputable def m__law_well : FM := defM 2 1 b__law_well
noncomputable def b__law_draw : SM := cSeq (cIf (bAnd (bOf (eOp2 (opLt) (eOp2 opIx (eVar 0) (eInt 1)) (eOp2 opPow (eInt 10) (eInt 9)))) (bOf (eOp2 (opNe) (eOp2 opIx (eVar 0) (eInt 0)) (eLst aNil)))) (cSeq (cSet 2 (eOp2 opIx (eOp2 opIx (eVar 0) (eInt 0)) (eInt 0))) (cSeq (cAsg (eSl (eOp2 opIx (eVar 0) (eInt 0)) (oSome (eInt 1)) oNone) (gSb setIx (eVar 0) (eInt 0))) (cSeq (cSet 3 (eOp2 opAdd (eOp2 opMul (eInt 2) (eCall bAbs (aCons (eVar 2) aNil))) (eCall bInt (aCons (eOp2 (opLt) (eVar 2) (eInt 0)) aNil)))) (cIf (bOf (eOp2 (opGe) (eVar 3) (eOp2 opPow (eInt 10) (eInt 18)))) (cAsg (eVar 3) (gSb setIx (eVar 0) (eInt 1))) (cAsg (eOp2 opMod (eCall bInt (aCons (eOp2 opAdd (eOp2 opAdd (eOp2 opMul (eOp2 opIx (eVar 0) (eInt 2)) (eInt 48271)) (eOp2 opMul (eVar 3) (eInt 69621))) (eInt 17)) aNil)) (eInt 2147483647)) (gSb setIx (eVar 0) (eInt 2))))))) (cNop)) (cSeq (cIf (bOf (eOp2 (opGe) (eOp2 opIx (eVar 0) (eInt 1)) (eOp2 opPow (eInt 10) (eInt 9)))) (cSeq (cSet 4 (eOp2 opMod (eCall bInt (aCons (eOp2 opIx (eVar 0) (eInt 1)) aNil)) (eVar 1))) (cSeq (cAsg (eOp2 opDiv (eOp2 opIx (eVar 0) (eInt 1)) (eVar 1)) (gSb setIx (eVar 0) (eInt 1))) (cRet (eVar 4)))) (cNop)) (cSeq (cAsg (eOp2 opMod (eCall bInt (aCons (eOp2 opAdd (eOp2 opMul (eOp2 opIx (eVar 0) (eInt 2)) (eInt 39373)) (eInt 101)) aNil)) (eInt 2147483647)) (gSb setIx (eVar 0) (eInt 2))) (cRet (eOp2 opMod (eCall bInt (aCons (eOp2 opDiv (eOp2 opIx (eVar 0) (eInt 2)) (eInt 89)) aNil)) (eVar 1)))))
noncomputable def m__law_draw : FM := defM 5 2 b__law_draw
noncomputable def b__law_mates : SM := cRet (eCall bTuple (aCons (eLc (iSq (eVar 0)) (gNm 1) (bYes) (eMtL mIndex (eVar 0) (aCons (eVar 1) aNil)) [1]) aNil))
noncomputable def m__law_mates : FM := defM 2 1 b__law_mates
noncomputable def b__law_is : SM := cRet (eIf (bOf (eVar 1)) (eOp2 (opIsB) (eVar 0) (eBl true)) (eOp2 (opIsB) (eVar 0) (eBl false)))
noncomputable def m__law_is : FM := defM 2 2 b__law_is
noncomputable def b__law_is_low : SM := cSeq (cSet 1 (eStr "abcdefghijklmnopqrstuvwxyz")) (cSeq (cIf (bOr (bNot (bOf (eOp1 (opIsi "str") (eVar 0)))) (bOr (bOf (eOp2 (opLt) (eCall bLen (aCons (eVar 0) aNil)) (eInt 1))) (bOr (bOf (eOp2 (opGt) (eCall bLen (aCons (eVar 0) aNil)) (eInt 10))) (bOf (eOp2 (opIn true) (eOp2 opIx (eVar 0) (eInt 0)) (eVar 1)))))) (cRet (eBl false)) (cNop)) (cRet (eOp2 (opEq) (eLc (iSq (eVar 0)) (gNm 2) (bOf (eOp2 (opIn true) (eVar 2) (eOp2 opAdd (eVar 1) (eStr "0123456789")))) (eVar 2) [2]) (eLst aNil))))
noncomputable def m__law_is_low : FM := defM 3 1 b__law_is_low
noncomputable def b__law_are_indexes : SM := cSeq (cIf (bOr (bNot (bOf (eOp1 (opIsi "tuple") (eVar 0)))) (bNot (bOf (eCall bAll (aCons (eLc (iSq (eVar 0)) (gNm 2) (bYes) (eAnd (eOp1 (opIsi "int") (eVar 2)) (eAnd (eNot (eOp1 (opIsi "bool") (eVar 2))) (eChain (opLe) (opLt) (eInt 0) (eVar 2) (eVar 1)))) [2]) aNil))))) (cRet (eBl false)) (cNop)) (cRet (eCall bAll (aCons (eLc (iRg1 (eOp2 opSub (eCall bLen (aCons (eVar 0) aNil)) (eInt 1))) (gNm 2) (bYes) (eOp2 (opLt) (eOp2 opIx (eVar 0) (eVar 2)) (eOp2 opIx (eVar 0) (eOp2 opAdd (eVar 2) (eInt 1)))) [2]) aNil)))
noncomputable def m__law_are_indexes : FM := defM 3 2 b__law_are_indexes
noncomputable def b_within : SM := cRet (eAnd (eCall (callP m_is_int) (aCons (eVar 0) aNil)) (eChain (opLe) (opLe) (eVar 1) (eVar 0) (eVar 2)))
noncomputable def m_within : FM := defM 3 3 b_within
noncomputable def b_are_facts_of_any_size : SM := cRet (eAnd (eOp1 (opIsi "tuple") (eVar 0)) (eAnd (eCall bAll (aCons (eLc (iSq (eVar 0)) (gNm 1) (bYes) (eCall (callP m_is_low_name) (aCons (eVar 1) aNil)) [1]) aNil)) (eCall (callP m_is_ascending) (aCons (eVar 0) aNil))))
noncomputable def m_are_facts_of_any_size : FM := defM 2 1 b_are_facts_of_any_size
noncomputable def b__law_table : SM := cSeq (cSet 4 (eOp2 opAdd (eInt 1) (eCall (callE m__law_draw) (aCons (eVar 0) (aCons (eVar 1) aNil))))) (cSeq (cSet 5 (eSl (eTup (aCons (eStr "a") (aCons (eStr "b7") (aCons (eStr "cat") (aCons (eStr "d") (aCons (eStr "ee") (aCons (eStr "f0") aNil))))))) oNone (oSome (eCall (callE m__law_draw) (aCons (eVar 0) (aCons (eOp2 opAdd (eVar 3) (eInt 1)) aNil)))))) (cSeq (cSet 6 (eLc (iRg1 (eVar 4)) (gNm 10) (bYes) (eCall bTuple (aCons (eLc (iRg1 (eCall bLen (aCons (eVar 5) aNil))) (gNm 11) (bOf (eOp2 (opEq) (eCall (callE m__law_draw) (aCons (eVar 0) (aCons (eInt 2) aNil))) (eInt 0))) (eVar 11) [11]) aNil)) [10])) (cSeq (cSet 7 (eLstM aNil)) (cSeq (cFor (iRg1 (eOp2 opAdd (eInt 1) (eCall (callE m__law_draw) (aCons (eVar 0) (aCons (eVar 2) aNil))))) (gNm 8) (cSeq (cSet 9 (eOp2 opAdd (eInt 1) (eCall (callE m__law_draw) (aCons (eVar 0) (aCons (eVar 4) aNil))))) (cExpr (eMtL mAppend (eVar 7) (aCons (eCall (callP m__law_mates) (aCons (eLc (iRg1 (eVar 4)) (gNm 10) (bYes) (eCall (callE m__law_draw) (aCons (eVar 0) (aCons (eVar 9) aNil))) [10]) aNil)) aNil))))) (cRet (eTup (aCons (eVar 5) (aCons (eCall bTuple (aCons (eVar 6) aNil)) (aCons (eCall bTuple (aCons (eVar 7) aNil)) aNil)))))))))
noncomputable def m__law_table : FM := defM 12 4 b__law_table
noncomputable def b__law_is_table : SM := cSeq (cIf (bOr (bNot (bOf (eOp1 (opIsi "tuple") (eVar 0)))) (bOr (bOf (eOp2 (opNe) (eCall bLen (aCons (eVar 0) aNil)) (eInt 3))) (bNot (bOf (eCall bAll (aCons (eLc (iSq (eVar 0)) (gNm 6) (bYes) (eOp1 (opIsi "tuple") (eVar 6)) [6]) aNil)))))) (cRet (eBl false)) (cNop)) (cSeq (cAsg (eVar 0) (gTp 3 (gsCons (gNm 1) (gsCons (gNm 2) (gsCons (gNm 3) (gsNil)))))) (cSeq (cIf (bOr (bOf (eOp2 (opGt) (eCall bLen (aCons (eVar 1) aNil)) (eInt 6))) (bOr (bNot (bOf (eCall bAll (aCons (eLc (iSq (eVar 1)) (gNm 7) (bYes) (eCall (callP m__law_is_low) (aCons (eVar 7) aNil)) [7]) aNil)))) (bOf (eOp2 (opNe) (eLc (iRg1 (eOp2 opSub (eCall bLen (aCons (eVar 1) aNil)) (eInt 1))) (gNm 5) (bNot (bOf (eOp2 (opLt) (eOp2 opIx (eVar 1) (eVar 5)) (eOp2 opIx (eVar 1) (eOp2 opAdd (eVar 5) (eInt 1)))))) (eVar 5) [5]) (eLst aNil))))) (cRet (eBl false)) (cNop)) (cSeq (cIf (bOr (bNot (bOf (eChain (opLe) (opLe) (eInt 1) (eCall bLen (aCons (eVar 2) aNil)) (eInt 16)))) (bOr (bNot (bOf (eChain (opLe) (opLe) (eInt 1) (eCall bLen (aCons (eVar 3) aNil)) (eInt 4)))) (bNot (bOf (eCall bAll (aCons (eLc (iSq (eVar 2)) (gNm 4) (bYes) (eCall (callP m__law_are_indexes) (aCons (eVar 4) (aCons (eCall bLen (aCons (eVar 1) aNil)) aNil))) [4]) aNil)))))) (cRet (eBl false)) (cNop)) (cSeq (cFor (iSq (eVar 3)) (gNm 4) (cSeq (cIf (bOr (bNot (bOf (eOp1 (opIsi "tuple") (eVar 4)))) (bOr (bOf (eOp2 (opNe) (eCall bLen (aCons (eVar 4) aNil)) (eCall bLen (aCons (eVar 2) aNil)))) (bNot (bOf (eCall bAll (aCons (eLc (iSq (eVar 4)) (gNm 8) (bYes) (eAnd (eOp1 (opIsi "int") (eVar 8)) (eAnd (eNot (eOp1 (opIsi "bool") (eVar 8))) (eChain (opLe) (opLt) (eInt 0) (eVar 8) (eCall bLen (aCons (eVar 2) aNil))))) [8]) aNil)))))) (cRet (eBl false)) (cNop)) (cIf (bNot (bOf (eCall bAll (aCons (eLc (iRg1 (eCall bLen (aCons (eVar 4) aNil))) (gNm 8) (bYes) (eAnd (eOp2 (opLe) (eOp2 opIx (eVar 4) (eVar 8)) (eVar 8)) (eOp2 (opEq) (eOp2 opIx (eVar 4) (eOp2 opIx (eVar 4) (eVar 8))) (eOp2 opIx (eVar 4) (eVar 8)))) [8]) aNil)))) (cRet (eBl false)) (cNop)))) (cRet (eBl true))))))
noncomputable def m__law_is_table : FM := defM 9 1 b__law_is_table
noncomputable def b__law_bent : SM := cSeq (cAsg (eVar 1) (gTp 3 (gsCons (gNm 2) (gsCons (gNm 3) (gsCons (gNm 4) (gsNil)))))) (cSeq (cPar3 5 6 7 (aCons (eCall (callE m__law_draw) (aCons (eVar 0) (aCons (eCall bLen (aCons (eVar 3) aNil)) aNil))) (aCons (eCall (callE m__law_draw) (aCons (eVar 0) (aCons (eCall bLen (aCons (eVar 4) aNil)) aNil))) (aCons (eCall (callE m__law_draw) (aCons (eVar 0) (aCons (eOp2 opAdd (eCall bLen (aCons (eVar 2) aNil)) (eInt 1)) aNil))) aNil)))) (cSeq (cPar3 8 9 10 (aCons (eOp2 opIx (eVar 3) (eVar 5)) (aCons (eOp2 opIx (eVar 4) (eVar 6)) (aCons (eCall (callE m__law_draw) (aCons (eVar 0) (aCons (eCall bLen (aCons (eVar 3) aNil)) aNil))) aNil)))) (cSeq (cSet 11 (eLst (aCons (eStr "a") (aCons (eStr "zz") (aCons (eStr "A") (aCons (eStr "b_") (aCons (eStr "") (aCons (eStr "0a") (aCons (eStr "abcdefghijk") (aCons (eNon) (aCons (eInt 7) aNil))))))))))) (cSeq (cSet 12 (eLst (aCons (eTup (aCons (eOp2 opAdd (eOp2 opAdd (eSl (eVar 2) oNone (oSome (eVar 7))) (eTup (aCons (eOp2 opIx (eVar 11) (eCall (callE m__law_draw) (aCons (eVar 0) (aCons (eInt 9) aNil)))) aNil))) (eSl (eVar 2) (oSome (eVar 7)) oNone)) (aCons (eVar 3) (aCons (eVar 4) aNil)))) (aCons (eTup (aCons (eOp1 opRev (eVar 2)) (aCons (eVar 3) (aCons (eVar 4) aNil)))) (aCons (eTup (aCons (eSl (eVar 2) (oSome (eInt 1)) oNone) (aCons (eVar 3) (aCons (eVar 4) aNil)))) aNil))))) (cSeq (cSet 12 (eOp2 opAdd (eVar 12) (eOp2 opMul (eLst (aCons (eTup (aCons (eVar 2) (aCons (eOp2 opAdd (eOp2 opAdd (eSl (eVar 3) oNone (oSome (eVar 5))) (eTup (aCons (eOp2 opIx (eLst (aCons (eOp1 opRev (eVar 8)) (aCons (eOp2 opAdd (eVar 8) (eSl (eVar 8) (oSome (eOp1 opNeg (eInt 1))) oNone)) (aCons (eOp2 opAdd (eVar 8) (eTup (aCons (eVar 7) aNil))) (aCons (eCall bList (aCons (eVar 8) aNil)) (aCons (eOp2 opAdd (eVar 8) (eTup (aCons (eBl true) aNil))) (aCons (eNon) aNil))))))) (eCall (callE m__law_draw) (aCons (eVar 0) (aCons (eInt 6) aNil)))) aNil))) (eSl (eVar 3) (oSome (eOp2 opAdd (eVar 5) (eInt 1))) oNone)) (aCons (eVar 4) aNil)))) aNil)) (eInt 2)))) (cSeq (cSet 13 (eOp2 opAdd (eOp2 opAdd (eSl (eVar 9) oNone (oSome (eVar 10))) (eTup (aCons (eOp2 opIx (eLst (aCons (eVar 10) (aCons (eInt 0) (aCons (eOp2 opAdd (eVar 10) (eInt 1)) (aCons (eOp1 opNeg (eInt 1)) (aCons (eNon) (aCons (eBl true) (aCons (eCall (callE m__law_draw) (aCons (eVar 0) (aCons (eCall bLen (aCons (eVar 3) aNil)) aNil))) aNil)))))))) (eCall (callE m__law_draw) (aCons (eVar 0) (aCons (eInt 7) aNil)))) aNil))) (eSl (eVar 9) (oSome (eOp2 opAdd (eVar 10) (eInt 1))) oNone))) (cSeq (cSet 12 (eOp2 opAdd (eVar 12) (eOp2 opMul (eLst (aCons (eTup (aCons (eVar 2) (aCons (eVar 3) (aCons (eOp2 opAdd (eOp2 opAdd (eSl (eVar 4) oNone (oSome (eVar 6))) (eTup (aCons (eOp2 opIx (eLst (aCons (eVar 13) (aCons (eVar 13) (aCons (eSl (eVar 9) (oSome (eInt 1)) oNone) (aCons (eOp2 opAdd (eVar 9) (eTup (aCons (eInt 0) aNil))) (aCons (eCall bList (aCons (eVar 9) aNil)) (aCons (eNon) aNil))))))) (eCall (callE m__law_draw) (aCons (eVar 0) (aCons (eInt 6) aNil)))) aNil))) (eSl (eVar 4) (oSome (eOp2 opAdd (eVar 6) (eInt 1))) oNone)) aNil)))) aNil)) (eInt 3)))) (cSeq (cSet 12 (eOp2 opAdd (eVar 12) (eLst (aCons (eTup (aCons (eVar 2) (aCons (eVar 3) (aCons (eOp2 opAdd (eVar 4) (eSl (eVar 4) oNone (oSome (eInt 1)))) aNil)))) (aCons (eTup (aCons (eVar 2) (aCons (eVar 3) (aCons (eTup aNil) aNil)))) (aCons (eTup (aCons (eVar 2) (aCons (eTup aNil) (aCons (eTup (aCons (eTup aNil) aNil)) aNil)))) (aCons (eOp2 opAdd (eVar 1) (eTup (aCons (eTup aNil) aNil))) (aCons (eSl (eVar 1) oNone (oSome (eInt 2))) (aCons (eCall bList (aCons (eVar 1) aNil)) (aCons (eNon) (aCons (eTup (aCons (eVar 2) (aCons (eOp2 opAdd (eVar 3) (eSl (eVar 3) oNone (oSome (eInt 1)))) (aCons (eVar 4) aNil)))) aNil))))))))))) (cRet (eOp2 opIx (eVar 12) (eCall (callE m__law_draw) (aCons (eVar 0) (aCons (eCall bLen (aCons (eVar 12) aNil)) aNil)))))))))))))
noncomputable def m__law_bent : FM := defM 14 2 b__law_bent
noncomputable def b_are_indexes : SM := cRet (eAnd (eOp1 (opIsi "tuple") (eVar 0)) (eAnd (eCall bAll (aCons (eLc (iSq (eVar 0)) (gNm 2) (bYes) (eCall (callP m_within) (aCons (eVar 2) (aCons (eInt 0) (aCons (eOp2 opSub (eVar 1) (eInt 1)) aNil)))) [2]) aNil)) (eCall (callP m_is_ascending) (aCons (eVar 0) aNil))))
noncomputable def m_are_indexes : FM := defM 3 2 b_are_indexes
noncomputable def b_are_mates : SM := cSeq (cIf (bOr (bNot (bOf (eCall (callP m_is_row) (aCons (eVar 0) (aCons (eVar 1) (aCons (eVar 1) aNil)))))) (bNot (bOf (eCall bAll (aCons (eLc (iSq (eVar 0)) (gNm 2) (bYes) (eCall (callP m_within) (aCons (eVar 2) (aCons (eInt 0) (aCons (eOp2 opSub (eVar 1) (eInt 1)) aNil)))) [2]) aNil))))) (cRet (eBl false)) (cNop)) (cRet (eCall bAll (aCons (eLc (iEn (aCons (eVar 0) aNil)) (gTp 2 (gsCons (gNm 2) (gsCons (gNm 3) (gsNil)))) (bYes) (eAnd (eOp2 (opLe) (eVar 3) (eVar 2)) (eOp2 (opEq) (eOp2 opIx (eVar 0) (eVar 3)) (eVar 3))) [2, 3]) aNil)))
noncomputable def m_are_mates : FM := defM 4 2 b_are_mates
noncomputable def b_is_table_of_any_size : SM := cSeq (cIf (bOr (bNot (bOf (eCall (callP m_is_row) (aCons (eVar 0) (aCons (eInt 3) (aCons (eInt 3) aNil)))))) (bNot (bOf (eCall (callP m_are_facts_of_any_size) (aCons (eOp2 opIx (eVar 0) (eInt 0)) aNil))))) (cRet (eBl false)) (cNop)) (cSeq (cAsg (eVar 0) (gTp 3 (gsCons (gNm 1) (gsCons (gNm 2) (gsCons (gNm 3) (gsNil)))))) (cSeq (cIf (bOr (bNot (bOf (eOp1 (opIsi "tuple") (eVar 2)))) (bOr (bOf (eOp2 (opEq) (eVar 2) (eTup aNil))) (bNot (bOf (eCall bAll (aCons (eLc (iSq (eVar 2)) (gNm 5) (bYes) (eCall (callP m_are_indexes) (aCons (eVar 5) (aCons (eCall bLen (aCons (eVar 1) aNil)) aNil))) [5]) aNil)))))) (cRet (eBl false)) (cNop)) (cRet (eAnd (eOp1 (opIsi "tuple") (eVar 3)) (eAnd (eOp2 (opNe) (eVar 3) (eTup aNil)) (eCall bAll (aCons (eLc (iSq (eVar 3)) (gNm 4) (bYes) (eCall (callP m_are_mates) (aCons (eVar 4) (aCons (eCall bLen (aCons (eVar 2) aNil)) aNil))) [4]) aNil)))))))
noncomputable def m_is_table_of_any_size : FM := defM 6 1 b_is_table_of_any_size
noncomputable def b_is_table : SM := cSeq (cIf (bNot (bOf (eCall (callP m_is_table_of_any_size) (aCons (eVar 0) aNil)))) (cRet (eBl false)) (cNop)) (cRet (eAnd (eOp2 (opLe) (eCall bLen (aCons (eOp2 opIx (eVar 0) (eInt 0)) aNil)) (eK (.d (.int 6)))) (eAnd (eOp2 (opLe) (eCall bLen (aCons (eOp2 opIx (eVar 0) (eInt 1)) aNil)) (eK (.d (.int 16)))) (eOp2 (opLe) (eCall bLen (aCons (eOp2 opIx (eVar 0) (eInt 2)) aNil)) (eK (.d (.int 4)))))))
noncomputable def m_is_table : FM := defM 1 1 b_is_table
noncomputable def b_law : SM := cSeq (cSet 1 (eCall (callE m__law_well) (aCons (eVar 0) aNil))) (cSeq (cFor (iRg1 (eOp2 opAdd (eInt 1) (eCall bMin2 (aCons (eCall bLen (aCons (eVar 0) aNil)) (aCons (eInt 8) aNil))))) (gNm 2) (cSeq (cSet 3 (eCall (callE m__law_table) (aCons (eVar 1) (aCons (eInt 8) (aCons (eInt 4) (aCons (eInt 6) aNil)))))) (cSeq (cIf (bOr (bOf (eOp2 (opNotB) (eCall (callP m_is_table) (aCons (eVar 3) aNil)) (eBl true))) (bNot (bOf (eCall (callP m__law_is_table) (aCons (eVar 3) aNil))))) (cRet (eBl false)) (cNop)) (cFor (iRg1 (eInt 4)) (gNm 4) (cSeq (cSet 5 (eCall (callE m__law_bent) (aCons (eVar 1) (aCons (eVar 3) aNil)))) (cIf (bNot (bOf (eCall (callP m__law_is) (aCons (eCall (callP m_is_table) (aKw [0] (aCons (eVar 5) aNil))) (aCons (eCall (callP m__law_is_table) (aCons (eVar 5) aNil)) aNil))))) (cRet (eBl false)) (cNop))))))) (cSeq (cSet 6 (eLc (iSq (eTup (aCons (eInt 16) (aCons (eInt 17) aNil)))) (gNm 7) (bYes) (eTup (aCons (eTup (aCons (eStr "a") aNil)) (aCons (eOp2 opMul (eTup (aCons (eTup aNil) aNil)) (eVar 7)) (aCons (eTup (aCons (eOp2 opMul (eTup (aCons (eInt 0) aNil)) (eVar 7)) aNil)) aNil)))) [7])) (cRet (eAnd (eOp2 (opIsB) (eCall (callP m_is_table) (aCons (eOp2 opIx (eVar 6) (eInt 0)) aNil)) (eBl true)) (eOp2 (opIsB) (eCall (callP m_is_table) (aCons (eOp2 opIx (eVar 6) (eInt 1)) aNil)) (eBl false))))))
noncomputable def m_law : FM := defM 8 1 b_law
end Law
end

section
namespace Law
open PySem PySem.Spec PyProof.Rows L2 Sh
open Classical
abbrev letters : Str := "abcdefghijklmnopqrstuvwxyz"
abbrev signs : Str := "abcdefghijklmnopqrstuvwxyz0123456789"
section
variable {S : Sto} {x : PyData} {xs : List PyData}
theorem is_int_ok : m_is_int [.d x] S = .ok (.d (.bool (isI x))) S := by
  unfold m_is_int defM b_is_int
  simp only [eVar_ap, eK_ap, aNil_ap, aCons_ap, eOp2_ap, eOp1_ap, eChain_ap, bOf_ap, bNot_ap, bAnd_ap, bOr_ap, eAnd_ap, eOr_ap, eNot_ap, eIf_ap, eTup_ap, eLst_ap, eLstM_ap, cNop_ap, cBreak_ap, cCont_ap, cSeq_ap, cExpr_ap, cSet_ap, cRet_ap, cRetN_ap, cIf_ap, cAsg_ap, cPar2_ap, cPar3_ap, bYes_ap, eCall_ap, oNone_ap, oSome_ap, eSl_ap, cFor_ap, eMtL_ap, aKw_ap, gNm_ap, gTp2, gTp3, gSb_ap, Out.bind, Out.ofO, exq, fin, callE_ap, List.getElem?_cons_succ, List.getElem?_cons_zero, List.set_cons_succ, List.set_cons_zero, List.map_cons, List.map_nil, List.replicate, List.cons_append, List.nil_append, List.length_cons, List.length_nil, Bool.not_true, Bool.not_false, if_true, if_false, ite_true, ite_false, reduceIte, Bool.false_eq_true, Bool.true_eq_false, Nat.reduceAdd, unD, Option.map_some, Nat.zero_le, sz1, sz2, sz3, sz4, sz5, sz6, sz7, sz8, sz9, sz10, sz11, sz12, sz13, sz14, sz15, sz16, Nat.reduceSub, Nat.reduceLeDiff, reduceCtorEq, Bool.and_true, Bool.true_and, Bool.and_false, Bool.false_and, Bool.or_true, Bool.or_false, Bool.true_or, Bool.false_or, opIsi_d]
  rw [← isiInt x]
  cases isiT (tyD x) "int" <;> simp only [Bool.true_and, Bool.false_and]
def inR (x : PyData) (lo hi : Int) : Bool := match x with
  | .int i => decide (lo ≤ i) && decide (i ≤ hi)
  | _ => false
theorem within_ok {lo hi : Int} : m_within [.d x, .d (.int lo), .d (.int hi)] S = .ok (.d (.bool (inR x lo hi))) S := by
  unfold m_within defM b_within
  simp only [eVar_ap, eK_ap, aNil_ap, aCons_ap, eOp2_ap, eOp1_ap, eChain_ap, bOf_ap, bNot_ap, bAnd_ap, bOr_ap, eAnd_ap, eOr_ap, eNot_ap, eIf_ap, eTup_ap, eLst_ap, eLstM_ap, cNop_ap, cBreak_ap, cCont_ap, cSeq_ap, cExpr_ap, cSet_ap, cRet_ap, cRetN_ap, cIf_ap, cAsg_ap, cPar2_ap, cPar3_ap, bYes_ap, eCall_ap, oNone_ap, oSome_ap, eSl_ap, cFor_ap, eMtL_ap, aKw_ap, gNm_ap, gTp2, gTp3, gSb_ap, Out.bind, Out.ofO, exq, fin, callE_ap, List.getElem?_cons_succ, List.getElem?_cons_zero, List.set_cons_succ, List.set_cons_zero, List.map_cons, List.map_nil, List.replicate, List.cons_append, List.nil_append, List.length_cons, List.length_nil, Bool.not_true, Bool.not_false, if_true, if_false, ite_true, ite_false, reduceIte, Bool.false_eq_true, Bool.true_eq_false, Nat.reduceAdd, unD, Option.map_some, Nat.zero_le, sz1, sz2, sz3, sz4, sz5, sz6, sz7, sz8, sz9, sz10, sz11, sz12, sz13, sz14, sz15, sz16, Nat.reduceSub, Nat.reduceLeDiff, reduceCtorEq, Bool.and_true, Bool.true_and, Bool.and_false, Bool.false_and, Bool.or_true, Bool.or_false, Bool.true_or, Bool.false_or, callP_d is_int_ok]
  cases x <;> simp only [isI, inR] <;> try simp only [eVar_ap, eK_ap, aNil_ap, aCons_ap, eOp2_ap, eOp1_ap, eChain_ap, bOf_ap, bNot_ap, bAnd_ap, bOr_ap, eAnd_ap, eOr_ap, eNot_ap, eIf_ap, eTup_ap, eLst_ap, eLstM_ap, cNop_ap, cBreak_ap, cCont_ap, cSeq_ap, cExpr_ap, cSet_ap, cRet_ap, cRetN_ap, cIf_ap, cAsg_ap, cPar2_ap, cPar3_ap, bYes_ap, eCall_ap, oNone_ap, oSome_ap, eSl_ap, cFor_ap, eMtL_ap, aKw_ap, gNm_ap, gTp2, gTp3, gSb_ap, Out.bind, Out.ofO, exq, fin, callE_ap, List.getElem?_cons_succ, List.getElem?_cons_zero, List.set_cons_succ, List.set_cons_zero, List.map_cons, List.map_nil, List.replicate, List.cons_append, List.nil_append, List.length_cons, List.length_nil, Bool.not_true, Bool.not_false, if_true, if_false, ite_true, ite_false, reduceIte, Bool.false_eq_true, Bool.true_eq_false, Nat.reduceAdd, unD, Option.map_some, Nat.zero_le, sz1, sz2, sz3, sz4, sz5, sz6, sz7, sz8, sz9, sz10, sz11, sz12, sz13, sz14, sz15, sz16, Nat.reduceSub, Nat.reduceLeDiff, reduceCtorEq, Bool.and_true, Bool.true_and, Bool.and_false, Bool.false_and, Bool.or_true, Bool.or_false, Bool.true_or, Bool.false_or]
  rename_i i
  simp only [eVar_ap, eK_ap, aNil_ap, aCons_ap, eOp2_ap, eOp1_ap, eChain_ap, bOf_ap, bNot_ap, bAnd_ap, bOr_ap, eAnd_ap, eOr_ap, eNot_ap, eIf_ap, eTup_ap, eLst_ap, eLstM_ap, cNop_ap, cBreak_ap, cCont_ap, cSeq_ap, cExpr_ap, cSet_ap, cRet_ap, cRetN_ap, cIf_ap, cAsg_ap, cPar2_ap, cPar3_ap, bYes_ap, eCall_ap, oNone_ap, oSome_ap, eSl_ap, cFor_ap, eMtL_ap, aKw_ap, gNm_ap, gTp2, gTp3, gSb_ap, Out.bind, Out.ofO, exq, fin, callE_ap, List.getElem?_cons_succ, List.getElem?_cons_zero, List.set_cons_succ, List.set_cons_zero, List.map_cons, List.map_nil, List.replicate, List.cons_append, List.nil_append, List.length_cons, List.length_nil, Bool.not_true, Bool.not_false, if_true, if_false, ite_true, ite_false, reduceIte, Bool.false_eq_true, Bool.true_eq_false, Nat.reduceAdd, unD, Option.map_some, Nat.zero_le, sz1, sz2, sz3, sz4, sz5, sz6, sz7, sz8, sz9, sz10, sz11, sz12, sz13, sz14, sz15, sz16, Nat.reduceSub, Nat.reduceLeDiff, reduceCtorEq, Bool.and_true, Bool.true_and, Bool.and_false, Bool.false_and, Bool.or_true, Bool.or_false, Bool.true_or, Bool.false_or, opInt_int]
  cases h : decide (lo ≤ i) <;> simp only [eVar_ap, eK_ap, aNil_ap, aCons_ap, eOp2_ap, eOp1_ap, eChain_ap, bOf_ap, bNot_ap, bAnd_ap, bOr_ap, eAnd_ap, eOr_ap, eNot_ap, eIf_ap, eTup_ap, eLst_ap, eLstM_ap, cNop_ap, cBreak_ap, cCont_ap, cSeq_ap, cExpr_ap, cSet_ap, cRet_ap, cRetN_ap, cIf_ap, cAsg_ap, cPar2_ap, cPar3_ap, bYes_ap, eCall_ap, oNone_ap, oSome_ap, eSl_ap, cFor_ap, eMtL_ap, aKw_ap, gNm_ap, gTp2, gTp3, gSb_ap, Out.bind, Out.ofO, exq, fin, callE_ap, List.getElem?_cons_succ, List.getElem?_cons_zero, List.set_cons_succ, List.set_cons_zero, List.map_cons, List.map_nil, List.replicate, List.cons_append, List.nil_append, List.length_cons, List.length_nil, Bool.not_true, Bool.not_false, if_true, if_false, ite_true, ite_false, reduceIte, Bool.false_eq_true, Bool.true_eq_false, Nat.reduceAdd, unD, Option.map_some, Nat.zero_le, sz1, sz2, sz3, sz4, sz5, sz6, sz7, sz8, sz9, sz10, sz11, sz12, sz13, sz14, sz15, sz16, Nat.reduceSub, Nat.reduceLeDiff, reduceCtorEq, Bool.and_true, Bool.true_and, Bool.and_false, Bool.false_and, Bool.or_true, Bool.or_false, Bool.true_or, Bool.false_or, h]
def rowOk (x : PyData) (lo hi : Int) : Bool := match x with
  | .tuple xs => decide (lo ≤ xs.length) && decide ((xs.length : Int) ≤ hi)
  | _ => false
theorem rowOk_n {n : Nat} : rowOk (.tuple xs) n n = decide (xs.length = n) := by
  rw [Bool.eq_iff_iff]; simp [rowOk]; omega
theorem is_row_ok {lo hi : Int} : m_is_row [.d x, .d (.int lo), .d (.int hi)] S = .ok (.d (.bool (rowOk x lo hi))) S := by
  unfold m_is_row defM b_is_row
  simp only [eVar_ap, eK_ap, aNil_ap, aCons_ap, eOp2_ap, eOp1_ap, eChain_ap, bOf_ap, bNot_ap, bAnd_ap, bOr_ap, eAnd_ap, eOr_ap, eNot_ap, eIf_ap, eTup_ap, eLst_ap, eLstM_ap, cNop_ap, cBreak_ap, cCont_ap, cSeq_ap, cExpr_ap, cSet_ap, cRet_ap, cRetN_ap, cIf_ap, cAsg_ap, cPar2_ap, cPar3_ap, bYes_ap, eCall_ap, oNone_ap, oSome_ap, eSl_ap, cFor_ap, eMtL_ap, aKw_ap, gNm_ap, gTp2, gTp3, gSb_ap, Out.bind, Out.ofO, exq, fin, callE_ap, List.getElem?_cons_succ, List.getElem?_cons_zero, List.set_cons_succ, List.set_cons_zero, List.map_cons, List.map_nil, List.replicate, List.cons_append, List.nil_append, List.length_cons, List.length_nil, Bool.not_true, Bool.not_false, if_true, if_false, ite_true, ite_false, reduceIte, Bool.false_eq_true, Bool.true_eq_false, Nat.reduceAdd, unD, Option.map_some, Nat.zero_le, sz1, sz2, sz3, sz4, sz5, sz6, sz7, sz8, sz9, sz10, sz11, sz12, sz13, sz14, sz15, sz16, Nat.reduceSub, Nat.reduceLeDiff, reduceCtorEq, Bool.and_true, Bool.true_and, Bool.and_false, Bool.false_and, Bool.or_true, Bool.or_false, Bool.true_or, Bool.false_or, opIsi_d, isiTup]
  cases x <;> simp only [isT, rowOk] <;> try simp only [eVar_ap, eK_ap, aNil_ap, aCons_ap, eOp2_ap, eOp1_ap, eChain_ap, bOf_ap, bNot_ap, bAnd_ap, bOr_ap, eAnd_ap, eOr_ap, eNot_ap, eIf_ap, eTup_ap, eLst_ap, eLstM_ap, cNop_ap, cBreak_ap, cCont_ap, cSeq_ap, cExpr_ap, cSet_ap, cRet_ap, cRetN_ap, cIf_ap, cAsg_ap, cPar2_ap, cPar3_ap, bYes_ap, eCall_ap, oNone_ap, oSome_ap, eSl_ap, cFor_ap, eMtL_ap, aKw_ap, gNm_ap, gTp2, gTp3, gSb_ap, Out.bind, Out.ofO, exq, fin, callE_ap, List.getElem?_cons_succ, List.getElem?_cons_zero, List.set_cons_succ, List.set_cons_zero, List.map_cons, List.map_nil, List.replicate, List.cons_append, List.nil_append, List.length_cons, List.length_nil, Bool.not_true, Bool.not_false, if_true, if_false, ite_true, ite_false, reduceIte, Bool.false_eq_true, Bool.true_eq_false, Nat.reduceAdd, unD, Option.map_some, Nat.zero_le, sz1, sz2, sz3, sz4, sz5, sz6, sz7, sz8, sz9, sz10, sz11, sz12, sz13, sz14, sz15, sz16, Nat.reduceSub, Nat.reduceLeDiff, reduceCtorEq, Bool.and_true, Bool.true_and, Bool.and_false, Bool.false_and, Bool.or_true, Bool.or_false, Bool.true_or, Bool.false_or]
  rename_i xs
  simp only [eVar_ap, eK_ap, aNil_ap, aCons_ap, eOp2_ap, eOp1_ap, eChain_ap, bOf_ap, bNot_ap, bAnd_ap, bOr_ap, eAnd_ap, eOr_ap, eNot_ap, eIf_ap, eTup_ap, eLst_ap, eLstM_ap, cNop_ap, cBreak_ap, cCont_ap, cSeq_ap, cExpr_ap, cSet_ap, cRet_ap, cRetN_ap, cIf_ap, cAsg_ap, cPar2_ap, cPar3_ap, bYes_ap, eCall_ap, oNone_ap, oSome_ap, eSl_ap, cFor_ap, eMtL_ap, aKw_ap, gNm_ap, gTp2, gTp3, gSb_ap, Out.bind, Out.ofO, exq, fin, callE_ap, List.getElem?_cons_succ, List.getElem?_cons_zero, List.set_cons_succ, List.set_cons_zero, List.map_cons, List.map_nil, List.replicate, List.cons_append, List.nil_append, List.length_cons, List.length_nil, Bool.not_true, Bool.not_false, if_true, if_false, ite_true, ite_false, reduceIte, Bool.false_eq_true, Bool.true_eq_false, Nat.reduceAdd, unD, Option.map_some, Nat.zero_le, sz1, sz2, sz3, sz4, sz5, sz6, sz7, sz8, sz9, sz10, sz11, sz12, sz13, sz14, sz15, sz16, Nat.reduceSub, Nat.reduceLeDiff, reduceCtorEq, Bool.and_true, Bool.true_and, Bool.and_false, Bool.false_and, Bool.or_true, Bool.or_false, Bool.true_or, Bool.false_or, bLen_tup, opInt_int]
  cases h : decide (lo ≤ (xs.length : Int)) <;> simp only [eVar_ap, eK_ap, aNil_ap, aCons_ap, eOp2_ap, eOp1_ap, eChain_ap, bOf_ap, bNot_ap, bAnd_ap, bOr_ap, eAnd_ap, eOr_ap, eNot_ap, eIf_ap, eTup_ap, eLst_ap, eLstM_ap, cNop_ap, cBreak_ap, cCont_ap, cSeq_ap, cExpr_ap, cSet_ap, cRet_ap, cRetN_ap, cIf_ap, cAsg_ap, cPar2_ap, cPar3_ap, bYes_ap, eCall_ap, oNone_ap, oSome_ap, eSl_ap, cFor_ap, eMtL_ap, aKw_ap, gNm_ap, gTp2, gTp3, gSb_ap, Out.bind, Out.ofO, exq, fin, callE_ap, List.getElem?_cons_succ, List.getElem?_cons_zero, List.set_cons_succ, List.set_cons_zero, List.map_cons, List.map_nil, List.replicate, List.cons_append, List.nil_append, List.length_cons, List.length_nil, Bool.not_true, Bool.not_false, if_true, if_false, ite_true, ite_false, reduceIte, Bool.false_eq_true, Bool.true_eq_false, Nat.reduceAdd, unD, Option.map_some, Nat.zero_le, sz1, sz2, sz3, sz4, sz5, sz6, sz7, sz8, sz9, sz10, sz11, sz12, sz13, sz14, sz15, sz16, Nat.reduceSub, Nat.reduceLeDiff, reduceCtorEq, Bool.and_true, Bool.true_and, Bool.and_false, Bool.false_and, Bool.or_true, Bool.or_false, Bool.true_or, Bool.false_or, h]
theorem asc_ok (h : OneKind xs) (hl : xs.length ≤ 1000) : m_is_ascending [.d (.tuple xs)] S = .ok (.d (.bool (ascD xs))) S := by
  unfold m_is_ascending defM b_is_ascending
  simp only [eVar_ap, eK_ap, aNil_ap, aCons_ap, eOp2_ap, eOp1_ap, eChain_ap, bOf_ap, bNot_ap, bAnd_ap, bOr_ap, eAnd_ap, eOr_ap, eNot_ap, eIf_ap, eTup_ap, eLst_ap, eLstM_ap, cNop_ap, cBreak_ap, cCont_ap, cSeq_ap, cExpr_ap, cSet_ap, cRet_ap, cRetN_ap, cIf_ap, cAsg_ap, cPar2_ap, cPar3_ap, bYes_ap, eCall_ap, oNone_ap, oSome_ap, eSl_ap, cFor_ap, eMtL_ap, aKw_ap, gNm_ap, gTp2, gTp3, gSb_ap, Out.bind, Out.ofO, exq, fin, callE_ap, List.getElem?_cons_succ, List.getElem?_cons_zero, List.set_cons_succ, List.set_cons_zero, List.map_cons, List.map_nil, List.replicate, List.cons_append, List.nil_append, List.length_cons, List.length_nil, Bool.not_true, Bool.not_false, if_true, if_false, ite_true, ite_false, reduceIte, Bool.false_eq_true, Bool.true_eq_false, Nat.reduceAdd, unD, Option.map_some, Nat.zero_le, sz1, sz2, sz3, sz4, sz5, sz6, sz7, sz8, sz9, sz10, sz11, sz12, sz13, sz14, sz15, sz16, Nat.reduceSub, Nat.reduceLeDiff, reduceCtorEq, Bool.and_true, Bool.true_and, Bool.and_false, Bool.false_and, Bool.or_true, Bool.or_false, Bool.true_or, Bool.false_or]
  rw [eLc_y (xs.zip xs.tail) (fun p => .d (.tuple [p.1, p.2])) (fun p => .bool (ltD p.1 p.2)) (grd := fun _ => True) ?_ trivial ?_ fun p hp => ?_]
  · simp only [eVar_ap, eK_ap, aNil_ap, aCons_ap, eOp2_ap, eOp1_ap, eChain_ap, bOf_ap, bNot_ap, bAnd_ap, bOr_ap, eAnd_ap, eOr_ap, eNot_ap, eIf_ap, eTup_ap, eLst_ap, eLstM_ap, cNop_ap, cBreak_ap, cCont_ap, cSeq_ap, cExpr_ap, cSet_ap, cRet_ap, cRetN_ap, cIf_ap, cAsg_ap, cPar2_ap, cPar3_ap, bYes_ap, eCall_ap, oNone_ap, oSome_ap, eSl_ap, cFor_ap, eMtL_ap, aKw_ap, gNm_ap, gTp2, gTp3, gSb_ap, Out.bind, Out.ofO, exq, fin, callE_ap, List.getElem?_cons_succ, List.getElem?_cons_zero, List.set_cons_succ, List.set_cons_zero, List.map_cons, List.map_nil, List.replicate, List.cons_append, List.nil_append, List.length_cons, List.length_nil, Bool.not_true, Bool.not_false, if_true, if_false, ite_true, ite_false, reduceIte, Bool.false_eq_true, Bool.true_eq_false, Nat.reduceAdd, unD, Option.map_some, Nat.zero_le, sz1, sz2, sz3, sz4, sz5, sz6, sz7, sz8, sz9, sz10, sz11, sz12, sz13, sz14, sz15, sz16, Nat.reduceSub, Nat.reduceLeDiff, reduceCtorEq, Bool.and_true, Bool.true_and, Bool.and_false, Bool.false_and, Bool.or_true, Bool.or_false, Bool.true_or, Bool.false_or, bAll_map]; rfl
  · refine iZp_tt ?_
    simp only [eVar_ap, eK_ap, aNil_ap, aCons_ap, eOp2_ap, eOp1_ap, eChain_ap, bOf_ap, bNot_ap, bAnd_ap, bOr_ap, eAnd_ap, eOr_ap, eNot_ap, eIf_ap, eTup_ap, eLst_ap, eLstM_ap, cNop_ap, cBreak_ap, cCont_ap, cSeq_ap, cExpr_ap, cSet_ap, cRet_ap, cRetN_ap, cIf_ap, cAsg_ap, cPar2_ap, cPar3_ap, bYes_ap, eCall_ap, oNone_ap, oSome_ap, eSl_ap, cFor_ap, eMtL_ap, aKw_ap, gNm_ap, gTp2, gTp3, gSb_ap, Out.bind, Out.ofO, exq, fin, callE_ap, List.getElem?_cons_succ, List.getElem?_cons_zero, List.set_cons_succ, List.set_cons_zero, List.map_cons, List.map_nil, List.replicate, List.cons_append, List.nil_append, List.length_cons, List.length_nil, Bool.not_true, Bool.not_false, if_true, if_false, ite_true, ite_false, reduceIte, Bool.false_eq_true, Bool.true_eq_false, Nat.reduceAdd, unD, Option.map_some, Nat.zero_le, sz1, sz2, sz3, sz4, sz5, sz6, sz7, sz8, sz9, sz10, sz11, sz12, sz13, sz14, sz15, sz16, Nat.reduceSub, Nat.reduceLeDiff, reduceCtorEq, Bool.and_true, Bool.true_and, Bool.and_false, Bool.false_and, Bool.or_true, Bool.or_false, Bool.true_or, Bool.false_or, opSl_tup, cut1]
    rw [List.drop_one]
  · simp only [List.length_zip, List.length_tail]; exact len_le (by omega)
  · refine ⟨_, gTp2, ?_⟩
    simp only [eVar_ap, eK_ap, aNil_ap, aCons_ap, eOp2_ap, eOp1_ap, eChain_ap, bOf_ap, bNot_ap, bAnd_ap, bOr_ap, eAnd_ap, eOr_ap, eNot_ap, eIf_ap, eTup_ap, eLst_ap, eLstM_ap, cNop_ap, cBreak_ap, cCont_ap, cSeq_ap, cExpr_ap, cSet_ap, cRet_ap, cRetN_ap, cIf_ap, cAsg_ap, cPar2_ap, cPar3_ap, bYes_ap, eCall_ap, oNone_ap, oSome_ap, eSl_ap, cFor_ap, eMtL_ap, aKw_ap, gNm_ap, gTp2, gTp3, gSb_ap, Out.bind, Out.ofO, exq, fin, callE_ap, List.getElem?_cons_succ, List.getElem?_cons_zero, List.set_cons_succ, List.set_cons_zero, List.map_cons, List.map_nil, List.replicate, List.cons_append, List.nil_append, List.length_cons, List.length_nil, Bool.not_true, Bool.not_false, if_true, if_false, ite_true, ite_false, reduceIte, Bool.false_eq_true, Bool.true_eq_false, Nat.reduceAdd, unD, Option.map_some, Nat.zero_le, sz1, sz2, sz3, sz4, sz5, sz6, sz7, sz8, sz9, sz10, sz11, sz12, sz13, sz14, sz15, sz16, Nat.reduceSub, Nat.reduceLeDiff, reduceCtorEq, Bool.and_true, Bool.true_and, Bool.and_false, Bool.false_and, Bool.or_true, Bool.or_false, Bool.true_or, Bool.false_or, wipeR]
    exact opLt_D h (List.of_mem_zip hp).1 (List.mem_of_mem_tail (List.of_mem_zip hp).2)
/-- a low name -/
def lowS (z : Str) : Bool := decide (1 ≤ z.length) && decide (z.length ≤ 10) && inS (one (z.cps.toList.getD 0 0)) letters && z.cps.toList.all fun c => inS (one c) signs
def lowN : PyData → Bool
  | .str z => lowS z
  | _ => false
theorem strlen {z : Str} : z.cps.toList.length = z.length := by simp [Str.length]
theorem sm_str {n : Nat} {z : Str} : sm n (.str z) = leafOk (.str z) := by cases n <;> rfl
theorem low_ok {n : Nat} (hx : sm n x = true) : m_is_low_name [.d x] S = .ok (.d (.bool (lowN x))) S := by
  unfold m_is_low_name defM b_is_low_name
  simp only [eVar_ap, eK_ap, aNil_ap, aCons_ap, eOp2_ap, eOp1_ap, eChain_ap, bOf_ap, bNot_ap, bAnd_ap, bOr_ap, eAnd_ap, eOr_ap, eNot_ap, eIf_ap, eTup_ap, eLst_ap, eLstM_ap, cNop_ap, cBreak_ap, cCont_ap, cSeq_ap, cExpr_ap, cSet_ap, cRet_ap, cRetN_ap, cIf_ap, cAsg_ap, cPar2_ap, cPar3_ap, bYes_ap, eCall_ap, oNone_ap, oSome_ap, eSl_ap, cFor_ap, eMtL_ap, aKw_ap, gNm_ap, gTp2, gTp3, gSb_ap, Out.bind, Out.ofO, exq, fin, callE_ap, List.getElem?_cons_succ, List.getElem?_cons_zero, List.set_cons_succ, List.set_cons_zero, List.map_cons, List.map_nil, List.replicate, List.cons_append, List.nil_append, List.length_cons, List.length_nil, Bool.not_true, Bool.not_false, if_true, if_false, ite_true, ite_false, reduceIte, Bool.false_eq_true, Bool.true_eq_false, Nat.reduceAdd, unD, Option.map_some, Nat.zero_le, sz1, sz2, sz3, sz4, sz5, sz6, sz7, sz8, sz9, sz10, sz11, sz12, sz13, sz14, sz15, sz16, Nat.reduceSub, Nat.reduceLeDiff, reduceCtorEq, Bool.and_true, Bool.true_and, Bool.and_false, Bool.false_and, Bool.or_true, Bool.or_false, Bool.true_or, Bool.false_or, opIsi_d, isiStr]
  cases x <;> simp only [isS, lowN, lowS] <;> try simp only [eVar_ap, eK_ap, aNil_ap, aCons_ap, eOp2_ap, eOp1_ap, eChain_ap, bOf_ap, bNot_ap, bAnd_ap, bOr_ap, eAnd_ap, eOr_ap, eNot_ap, eIf_ap, eTup_ap, eLst_ap, eLstM_ap, cNop_ap, cBreak_ap, cCont_ap, cSeq_ap, cExpr_ap, cSet_ap, cRet_ap, cRetN_ap, cIf_ap, cAsg_ap, cPar2_ap, cPar3_ap, bYes_ap, eCall_ap, oNone_ap, oSome_ap, eSl_ap, cFor_ap, eMtL_ap, aKw_ap, gNm_ap, gTp2, gTp3, gSb_ap, Out.bind, Out.ofO, exq, fin, callE_ap, List.getElem?_cons_succ, List.getElem?_cons_zero, List.set_cons_succ, List.set_cons_zero, List.map_cons, List.map_nil, List.replicate, List.cons_append, List.nil_append, List.length_cons, List.length_nil, Bool.not_true, Bool.not_false, if_true, if_false, ite_true, ite_false, reduceIte, Bool.false_eq_true, Bool.true_eq_false, Nat.reduceAdd, unD, Option.map_some, Nat.zero_le, sz1, sz2, sz3, sz4, sz5, sz6, sz7, sz8, sz9, sz10, sz11, sz12, sz13, sz14, sz15, sz16, Nat.reduceSub, Nat.reduceLeDiff, reduceCtorEq, Bool.and_true, Bool.true_and, Bool.and_false, Bool.false_and, Bool.or_true, Bool.or_false, Bool.true_or, Bool.false_or]
  rename_i z
  have hz : z.length ≤ 1000 := by simp only [sm_str, leafOk, Bool.and_eq_true, decide_eq_true_eq] at hx; exact hx.2
  simp only [eVar_ap, eK_ap, aNil_ap, aCons_ap, eOp2_ap, eOp1_ap, eChain_ap, bOf_ap, bNot_ap, bAnd_ap, bOr_ap, eAnd_ap, eOr_ap, eNot_ap, eIf_ap, eTup_ap, eLst_ap, eLstM_ap, cNop_ap, cBreak_ap, cCont_ap, cSeq_ap, cExpr_ap, cSet_ap, cRet_ap, cRetN_ap, cIf_ap, cAsg_ap, cPar2_ap, cPar3_ap, bYes_ap, eCall_ap, oNone_ap, oSome_ap, eSl_ap, cFor_ap, eMtL_ap, aKw_ap, gNm_ap, gTp2, gTp3, gSb_ap, Out.bind, Out.ofO, exq, fin, callE_ap, List.getElem?_cons_succ, List.getElem?_cons_zero, List.set_cons_succ, List.set_cons_zero, List.map_cons, List.map_nil, List.replicate, List.cons_append, List.nil_append, List.length_cons, List.length_nil, Bool.not_true, Bool.not_false, if_true, if_false, ite_true, ite_false, reduceIte, Bool.false_eq_true, Bool.true_eq_false, Nat.reduceAdd, unD, Option.map_some, Nat.zero_le, sz1, sz2, sz3, sz4, sz5, sz6, sz7, sz8, sz9, sz10, sz11, sz12, sz13, sz14, sz15, sz16, Nat.reduceSub, Nat.reduceLeDiff, reduceCtorEq, Bool.and_true, Bool.true_and, Bool.and_false, Bool.false_and, Bool.or_true, Bool.or_false, Bool.true_or, Bool.false_or, bLen_str (len_le hz), opInt_int, show decide ((1 : Int) ≤ (z.length : Int)) = decide (1 ≤ z.length) by simp; omega, show decide ((z.length : Int) ≤ 10) = decide (z.length ≤ 10) by simp; omega]
  cases h1 : decide (1 ≤ z.length) <;> try simp only [eVar_ap, eK_ap, aNil_ap, aCons_ap, eOp2_ap, eOp1_ap, eChain_ap, bOf_ap, bNot_ap, bAnd_ap, bOr_ap, eAnd_ap, eOr_ap, eNot_ap, eIf_ap, eTup_ap, eLst_ap, eLstM_ap, cNop_ap, cBreak_ap, cCont_ap, cSeq_ap, cExpr_ap, cSet_ap, cRet_ap, cRetN_ap, cIf_ap, cAsg_ap, cPar2_ap, cPar3_ap, bYes_ap, eCall_ap, oNone_ap, oSome_ap, eSl_ap, cFor_ap, eMtL_ap, aKw_ap, gNm_ap, gTp2, gTp3, gSb_ap, Out.bind, Out.ofO, exq, fin, callE_ap, List.getElem?_cons_succ, List.getElem?_cons_zero, List.set_cons_succ, List.set_cons_zero, List.map_cons, List.map_nil, List.replicate, List.cons_append, List.nil_append, List.length_cons, List.length_nil, Bool.not_true, Bool.not_false, if_true, if_false, ite_true, ite_false, reduceIte, Bool.false_eq_true, Bool.true_eq_false, Nat.reduceAdd, unD, Option.map_some, Nat.zero_le, sz1, sz2, sz3, sz4, sz5, sz6, sz7, sz8, sz9, sz10, sz11, sz12, sz13, sz14, sz15, sz16, Nat.reduceSub, Nat.reduceLeDiff, reduceCtorEq, Bool.and_true, Bool.true_and, Bool.and_false, Bool.false_and, Bool.or_true, Bool.or_false, Bool.true_or, Bool.false_or]
  cases h2 : decide (z.length ≤ 10) <;> try simp only [eVar_ap, eK_ap, aNil_ap, aCons_ap, eOp2_ap, eOp1_ap, eChain_ap, bOf_ap, bNot_ap, bAnd_ap, bOr_ap, eAnd_ap, eOr_ap, eNot_ap, eIf_ap, eTup_ap, eLst_ap, eLstM_ap, cNop_ap, cBreak_ap, cCont_ap, cSeq_ap, cExpr_ap, cSet_ap, cRet_ap, cRetN_ap, cIf_ap, cAsg_ap, cPar2_ap, cPar3_ap, bYes_ap, eCall_ap, oNone_ap, oSome_ap, eSl_ap, cFor_ap, eMtL_ap, aKw_ap, gNm_ap, gTp2, gTp3, gSb_ap, Out.bind, Out.ofO, exq, fin, callE_ap, List.getElem?_cons_succ, List.getElem?_cons_zero, List.set_cons_succ, List.set_cons_zero, List.map_cons, List.map_nil, List.replicate, List.cons_append, List.nil_append, List.length_cons, List.length_nil, Bool.not_true, Bool.not_false, if_true, if_false, ite_true, ite_false, reduceIte, Bool.false_eq_true, Bool.true_eq_false, Nat.reduceAdd, unD, Option.map_some, Nat.zero_le, sz1, sz2, sz3, sz4, sz5, sz6, sz7, sz8, sz9, sz10, sz11, sz12, sz13, sz14, sz15, sz16, Nat.reduceSub, Nat.reduceLeDiff, reduceCtorEq, Bool.and_true, Bool.true_and, Bool.and_false, Bool.false_and, Bool.or_true, Bool.or_false, Bool.true_or, Bool.false_or]
  have h1' : 0 < z.cps.toList.length := by rw [strlen]; exact of_decide_eq_true h1
  simp only [eVar_ap, eK_ap, aNil_ap, aCons_ap, eOp2_ap, eOp1_ap, eChain_ap, bOf_ap, bNot_ap, bAnd_ap, bOr_ap, eAnd_ap, eOr_ap, eNot_ap, eIf_ap, eTup_ap, eLst_ap, eLstM_ap, cNop_ap, cBreak_ap, cCont_ap, cSeq_ap, cExpr_ap, cSet_ap, cRet_ap, cRetN_ap, cIf_ap, cAsg_ap, cPar2_ap, cPar3_ap, bYes_ap, eCall_ap, oNone_ap, oSome_ap, eSl_ap, cFor_ap, eMtL_ap, aKw_ap, gNm_ap, gTp2, gTp3, gSb_ap, Out.bind, Out.ofO, exq, fin, callE_ap, List.getElem?_cons_succ, List.getElem?_cons_zero, List.set_cons_succ, List.set_cons_zero, List.map_cons, List.map_nil, List.replicate, List.cons_append, List.nil_append, List.length_cons, List.length_nil, Bool.not_true, Bool.not_false, if_true, if_false, ite_true, ite_false, reduceIte, Bool.false_eq_true, Bool.true_eq_false, Nat.reduceAdd, unD, Option.map_some, Nat.zero_le, sz1, sz2, sz3, sz4, sz5, sz6, sz7, sz8, sz9, sz10, sz11, sz12, sz13, sz14, sz15, sz16, Nat.reduceSub, Nat.reduceLeDiff, reduceCtorEq, Bool.and_true, Bool.true_and, Bool.and_false, Bool.false_and, Bool.or_true, Bool.or_false, Bool.true_or, Bool.false_or, opIx_str (len_le hz) (i := 0) (c := z.cps.toList.getD 0 0) (atI_nat (n := 0) (by simp [List.getD_eq_getElem?_getD, List.getElem?_eq_getElem h1'])), opIn_s]
  cases inS (one (z.cps.toList.getD 0 0)) letters <;> try simp only [eVar_ap, eK_ap, aNil_ap, aCons_ap, eOp2_ap, eOp1_ap, eChain_ap, bOf_ap, bNot_ap, bAnd_ap, bOr_ap, eAnd_ap, eOr_ap, eNot_ap, eIf_ap, eTup_ap, eLst_ap, eLstM_ap, cNop_ap, cBreak_ap, cCont_ap, cSeq_ap, cExpr_ap, cSet_ap, cRet_ap, cRetN_ap, cIf_ap, cAsg_ap, cPar2_ap, cPar3_ap, bYes_ap, eCall_ap, oNone_ap, oSome_ap, eSl_ap, cFor_ap, eMtL_ap, aKw_ap, gNm_ap, gTp2, gTp3, gSb_ap, Out.bind, Out.ofO, exq, fin, callE_ap, List.getElem?_cons_succ, List.getElem?_cons_zero, List.set_cons_succ, List.set_cons_zero, List.map_cons, List.map_nil, List.replicate, List.cons_append, List.nil_append, List.length_cons, List.length_nil, Bool.not_true, Bool.not_false, if_true, if_false, ite_true, ite_false, reduceIte, Bool.false_eq_true, Bool.true_eq_false, Nat.reduceAdd, unD, Option.map_some, Nat.zero_le, sz1, sz2, sz3, sz4, sz5, sz6, sz7, sz8, sz9, sz10, sz11, sz12, sz13, sz14, sz15, sz16, Nat.reduceSub, Nat.reduceLeDiff, reduceCtorEq, Bool.and_true, Bool.true_and, Bool.and_false, Bool.false_and, Bool.or_true, Bool.or_false, Bool.true_or, Bool.false_or]
  rw [eLc_y z.cps.toList (fun c => .d (.str ⟨#[c]⟩)) (fun c => .bool (inS (one c) signs)) (grd := fun _ => True) (iSq_str rfl) trivial (by rw [strlen]; exact len_le hz) fun c hc => ?_]
  · simp only [eVar_ap, eK_ap, aNil_ap, aCons_ap, eOp2_ap, eOp1_ap, eChain_ap, bOf_ap, bNot_ap, bAnd_ap, bOr_ap, eAnd_ap, eOr_ap, eNot_ap, eIf_ap, eTup_ap, eLst_ap, eLstM_ap, cNop_ap, cBreak_ap, cCont_ap, cSeq_ap, cExpr_ap, cSet_ap, cRet_ap, cRetN_ap, cIf_ap, cAsg_ap, cPar2_ap, cPar3_ap, bYes_ap, eCall_ap, oNone_ap, oSome_ap, eSl_ap, cFor_ap, eMtL_ap, aKw_ap, gNm_ap, gTp2, gTp3, gSb_ap, Out.bind, Out.ofO, exq, fin, callE_ap, List.getElem?_cons_succ, List.getElem?_cons_zero, List.set_cons_succ, List.set_cons_zero, List.map_cons, List.map_nil, List.replicate, List.cons_append, List.nil_append, List.length_cons, List.length_nil, Bool.not_true, Bool.not_false, if_true, if_false, ite_true, ite_false, reduceIte, Bool.false_eq_true, Bool.true_eq_false, Nat.reduceAdd, unD, Option.map_some, Nat.zero_le, sz1, sz2, sz3, sz4, sz5, sz6, sz7, sz8, sz9, sz10, sz11, sz12, sz13, sz14, sz15, sz16, Nat.reduceSub, Nat.reduceLeDiff, reduceCtorEq, Bool.and_true, Bool.true_and, Bool.and_false, Bool.false_and, Bool.or_true, Bool.or_false, Bool.true_or, Bool.false_or, bAll_map]
  · exact ⟨_, rfl, by simp only [eVar_ap, eK_ap, aNil_ap, aCons_ap, eOp2_ap, eOp1_ap, eChain_ap, bOf_ap, bNot_ap, bAnd_ap, bOr_ap, eAnd_ap, eOr_ap, eNot_ap, eIf_ap, eTup_ap, eLst_ap, eLstM_ap, cNop_ap, cBreak_ap, cCont_ap, cSeq_ap, cExpr_ap, cSet_ap, cRet_ap, cRetN_ap, cIf_ap, cAsg_ap, cPar2_ap, cPar3_ap, bYes_ap, eCall_ap, oNone_ap, oSome_ap, eSl_ap, cFor_ap, eMtL_ap, aKw_ap, gNm_ap, gTp2, gTp3, gSb_ap, Out.bind, Out.ofO, exq, fin, callE_ap, List.getElem?_cons_succ, List.getElem?_cons_zero, List.set_cons_succ, List.set_cons_zero, List.map_cons, List.map_nil, List.replicate, List.cons_append, List.nil_append, List.length_cons, List.length_nil, Bool.not_true, Bool.not_false, if_true, if_false, ite_true, ite_false, reduceIte, Bool.false_eq_true, Bool.true_eq_false, Nat.reduceAdd, unD, Option.map_some, Nat.zero_le, sz1, sz2, sz3, sz4, sz5, sz6, sz7, sz8, sz9, sz10, sz11, sz12, sz13, sz14, sz15, sz16, Nat.reduceSub, Nat.reduceLeDiff, reduceCtorEq, Bool.and_true, Bool.true_and, Bool.and_false, Bool.false_and, Bool.or_true, Bool.or_false, Bool.true_or, Bool.false_or, wipeR, opIn_s]⟩
theorem law_low_ok {n : Nat} (hx : sm n x = true) : m__law_is_low [.d x] S = .ok (.d (.bool (lowN x))) S := by
  unfold m__law_is_low defM b__law_is_low
  simp only [eVar_ap, eK_ap, aNil_ap, aCons_ap, eOp2_ap, eOp1_ap, eChain_ap, bOf_ap, bNot_ap, bAnd_ap, bOr_ap, eAnd_ap, eOr_ap, eNot_ap, eIf_ap, eTup_ap, eLst_ap, eLstM_ap, cNop_ap, cBreak_ap, cCont_ap, cSeq_ap, cExpr_ap, cSet_ap, cRet_ap, cRetN_ap, cIf_ap, cAsg_ap, cPar2_ap, cPar3_ap, bYes_ap, eCall_ap, oNone_ap, oSome_ap, eSl_ap, cFor_ap, eMtL_ap, aKw_ap, gNm_ap, gTp2, gTp3, gSb_ap, Out.bind, Out.ofO, exq, fin, callE_ap, List.getElem?_cons_succ, List.getElem?_cons_zero, List.set_cons_succ, List.set_cons_zero, List.map_cons, List.map_nil, List.replicate, List.cons_append, List.nil_append, List.length_cons, List.length_nil, Bool.not_true, Bool.not_false, if_true, if_false, ite_true, ite_false, reduceIte, Bool.false_eq_true, Bool.true_eq_false, Nat.reduceAdd, unD, Option.map_some, Nat.zero_le, sz1, sz2, sz3, sz4, sz5, sz6, sz7, sz8, sz9, sz10, sz11, sz12, sz13, sz14, sz15, sz16, Nat.reduceSub, Nat.reduceLeDiff, reduceCtorEq, Bool.and_true, Bool.true_and, Bool.and_false, Bool.false_and, Bool.or_true, Bool.or_false, Bool.true_or, Bool.false_or, opIsi_d, isiStr]
  cases x <;> simp only [isS, lowN, lowS] <;> try simp only [eVar_ap, eK_ap, aNil_ap, aCons_ap, eOp2_ap, eOp1_ap, eChain_ap, bOf_ap, bNot_ap, bAnd_ap, bOr_ap, eAnd_ap, eOr_ap, eNot_ap, eIf_ap, eTup_ap, eLst_ap, eLstM_ap, cNop_ap, cBreak_ap, cCont_ap, cSeq_ap, cExpr_ap, cSet_ap, cRet_ap, cRetN_ap, cIf_ap, cAsg_ap, cPar2_ap, cPar3_ap, bYes_ap, eCall_ap, oNone_ap, oSome_ap, eSl_ap, cFor_ap, eMtL_ap, aKw_ap, gNm_ap, gTp2, gTp3, gSb_ap, Out.bind, Out.ofO, exq, fin, callE_ap, List.getElem?_cons_succ, List.getElem?_cons_zero, List.set_cons_succ, List.set_cons_zero, List.map_cons, List.map_nil, List.replicate, List.cons_append, List.nil_append, List.length_cons, List.length_nil, Bool.not_true, Bool.not_false, if_true, if_false, ite_true, ite_false, reduceIte, Bool.false_eq_true, Bool.true_eq_false, Nat.reduceAdd, unD, Option.map_some, Nat.zero_le, sz1, sz2, sz3, sz4, sz5, sz6, sz7, sz8, sz9, sz10, sz11, sz12, sz13, sz14, sz15, sz16, Nat.reduceSub, Nat.reduceLeDiff, reduceCtorEq, Bool.and_true, Bool.true_and, Bool.and_false, Bool.false_and, Bool.or_true, Bool.or_false, Bool.true_or, Bool.false_or]
  rename_i z
  have hz : z.length ≤ 1000 := by simp only [sm_str, leafOk, Bool.and_eq_true, decide_eq_true_eq] at hx; exact hx.2
  simp only [eVar_ap, eK_ap, aNil_ap, aCons_ap, eOp2_ap, eOp1_ap, eChain_ap, bOf_ap, bNot_ap, bAnd_ap, bOr_ap, eAnd_ap, eOr_ap, eNot_ap, eIf_ap, eTup_ap, eLst_ap, eLstM_ap, cNop_ap, cBreak_ap, cCont_ap, cSeq_ap, cExpr_ap, cSet_ap, cRet_ap, cRetN_ap, cIf_ap, cAsg_ap, cPar2_ap, cPar3_ap, bYes_ap, eCall_ap, oNone_ap, oSome_ap, eSl_ap, cFor_ap, eMtL_ap, aKw_ap, gNm_ap, gTp2, gTp3, gSb_ap, Out.bind, Out.ofO, exq, fin, callE_ap, List.getElem?_cons_succ, List.getElem?_cons_zero, List.set_cons_succ, List.set_cons_zero, List.map_cons, List.map_nil, List.replicate, List.cons_append, List.nil_append, List.length_cons, List.length_nil, Bool.not_true, Bool.not_false, if_true, if_false, ite_true, ite_false, reduceIte, Bool.false_eq_true, Bool.true_eq_false, Nat.reduceAdd, unD, Option.map_some, Nat.zero_le, sz1, sz2, sz3, sz4, sz5, sz6, sz7, sz8, sz9, sz10, sz11, sz12, sz13, sz14, sz15, sz16, Nat.reduceSub, Nat.reduceLeDiff, reduceCtorEq, Bool.and_true, Bool.true_and, Bool.and_false, Bool.false_and, Bool.or_true, Bool.or_false, Bool.true_or, Bool.false_or, bLen_str (len_le hz), opInt_int, opLt_int, show decide ((z.length : Int) < 1) = !decide (1 ≤ z.length) by by_cases h : 1 ≤ z.length <;> simp [h] <;> omega, show decide ((10 : Int) < (z.length : Int)) = !decide (z.length ≤ 10) by by_cases h : z.length ≤ 10 <;> simp [h] <;> omega]
  cases h1 : decide (1 ≤ z.length) <;> try simp only [eVar_ap, eK_ap, aNil_ap, aCons_ap, eOp2_ap, eOp1_ap, eChain_ap, bOf_ap, bNot_ap, bAnd_ap, bOr_ap, eAnd_ap, eOr_ap, eNot_ap, eIf_ap, eTup_ap, eLst_ap, eLstM_ap, cNop_ap, cBreak_ap, cCont_ap, cSeq_ap, cExpr_ap, cSet_ap, cRet_ap, cRetN_ap, cIf_ap, cAsg_ap, cPar2_ap, cPar3_ap, bYes_ap, eCall_ap, oNone_ap, oSome_ap, eSl_ap, cFor_ap, eMtL_ap, aKw_ap, gNm_ap, gTp2, gTp3, gSb_ap, Out.bind, Out.ofO, exq, fin, callE_ap, List.getElem?_cons_succ, List.getElem?_cons_zero, List.set_cons_succ, List.set_cons_zero, List.map_cons, List.map_nil, List.replicate, List.cons_append, List.nil_append, List.length_cons, List.length_nil, Bool.not_true, Bool.not_false, if_true, if_false, ite_true, ite_false, reduceIte, Bool.false_eq_true, Bool.true_eq_false, Nat.reduceAdd, unD, Option.map_some, Nat.zero_le, sz1, sz2, sz3, sz4, sz5, sz6, sz7, sz8, sz9, sz10, sz11, sz12, sz13, sz14, sz15, sz16, Nat.reduceSub, Nat.reduceLeDiff, reduceCtorEq, Bool.and_true, Bool.true_and, Bool.and_false, Bool.false_and, Bool.or_true, Bool.or_false, Bool.true_or, Bool.false_or]
  cases h2 : decide (z.length ≤ 10) <;> try simp only [eVar_ap, eK_ap, aNil_ap, aCons_ap, eOp2_ap, eOp1_ap, eChain_ap, bOf_ap, bNot_ap, bAnd_ap, bOr_ap, eAnd_ap, eOr_ap, eNot_ap, eIf_ap, eTup_ap, eLst_ap, eLstM_ap, cNop_ap, cBreak_ap, cCont_ap, cSeq_ap, cExpr_ap, cSet_ap, cRet_ap, cRetN_ap, cIf_ap, cAsg_ap, cPar2_ap, cPar3_ap, bYes_ap, eCall_ap, oNone_ap, oSome_ap, eSl_ap, cFor_ap, eMtL_ap, aKw_ap, gNm_ap, gTp2, gTp3, gSb_ap, Out.bind, Out.ofO, exq, fin, callE_ap, List.getElem?_cons_succ, List.getElem?_cons_zero, List.set_cons_succ, List.set_cons_zero, List.map_cons, List.map_nil, List.replicate, List.cons_append, List.nil_append, List.length_cons, List.length_nil, Bool.not_true, Bool.not_false, if_true, if_false, ite_true, ite_false, reduceIte, Bool.false_eq_true, Bool.true_eq_false, Nat.reduceAdd, unD, Option.map_some, Nat.zero_le, sz1, sz2, sz3, sz4, sz5, sz6, sz7, sz8, sz9, sz10, sz11, sz12, sz13, sz14, sz15, sz16, Nat.reduceSub, Nat.reduceLeDiff, reduceCtorEq, Bool.and_true, Bool.true_and, Bool.and_false, Bool.false_and, Bool.or_true, Bool.or_false, Bool.true_or, Bool.false_or]
  have h1' : 0 < z.cps.toList.length := by rw [strlen]; exact of_decide_eq_true h1
  simp only [eVar_ap, eK_ap, aNil_ap, aCons_ap, eOp2_ap, eOp1_ap, eChain_ap, bOf_ap, bNot_ap, bAnd_ap, bOr_ap, eAnd_ap, eOr_ap, eNot_ap, eIf_ap, eTup_ap, eLst_ap, eLstM_ap, cNop_ap, cBreak_ap, cCont_ap, cSeq_ap, cExpr_ap, cSet_ap, cRet_ap, cRetN_ap, cIf_ap, cAsg_ap, cPar2_ap, cPar3_ap, bYes_ap, eCall_ap, oNone_ap, oSome_ap, eSl_ap, cFor_ap, eMtL_ap, aKw_ap, gNm_ap, gTp2, gTp3, gSb_ap, Out.bind, Out.ofO, exq, fin, callE_ap, List.getElem?_cons_succ, List.getElem?_cons_zero, List.set_cons_succ, List.set_cons_zero, List.map_cons, List.map_nil, List.replicate, List.cons_append, List.nil_append, List.length_cons, List.length_nil, Bool.not_true, Bool.not_false, if_true, if_false, ite_true, ite_false, reduceIte, Bool.false_eq_true, Bool.true_eq_false, Nat.reduceAdd, unD, Option.map_some, Nat.zero_le, sz1, sz2, sz3, sz4, sz5, sz6, sz7, sz8, sz9, sz10, sz11, sz12, sz13, sz14, sz15, sz16, Nat.reduceSub, Nat.reduceLeDiff, reduceCtorEq, Bool.and_true, Bool.true_and, Bool.and_false, Bool.false_and, Bool.or_true, Bool.or_false, Bool.true_or, Bool.false_or, opIx_str (len_le hz) (i := 0) (c := z.cps.toList.getD 0 0) (atI_nat (n := 0) (by simp [List.getD_eq_getElem?_getD, List.getElem?_eq_getElem h1'])), opNotIn_s]
  cases inS (one (z.cps.toList.getD 0 0)) letters <;> try simp only [eVar_ap, eK_ap, aNil_ap, aCons_ap, eOp2_ap, eOp1_ap, eChain_ap, bOf_ap, bNot_ap, bAnd_ap, bOr_ap, eAnd_ap, eOr_ap, eNot_ap, eIf_ap, eTup_ap, eLst_ap, eLstM_ap, cNop_ap, cBreak_ap, cCont_ap, cSeq_ap, cExpr_ap, cSet_ap, cRet_ap, cRetN_ap, cIf_ap, cAsg_ap, cPar2_ap, cPar3_ap, bYes_ap, eCall_ap, oNone_ap, oSome_ap, eSl_ap, cFor_ap, eMtL_ap, aKw_ap, gNm_ap, gTp2, gTp3, gSb_ap, Out.bind, Out.ofO, exq, fin, callE_ap, List.getElem?_cons_succ, List.getElem?_cons_zero, List.set_cons_succ, List.set_cons_zero, List.map_cons, List.map_nil, List.replicate, List.cons_append, List.nil_append, List.length_cons, List.length_nil, Bool.not_true, Bool.not_false, if_true, if_false, ite_true, ite_false, reduceIte, Bool.false_eq_true, Bool.true_eq_false, Nat.reduceAdd, unD, Option.map_some, Nat.zero_le, sz1, sz2, sz3, sz4, sz5, sz6, sz7, sz8, sz9, sz10, sz11, sz12, sz13, sz14, sz15, sz16, Nat.reduceSub, Nat.reduceLeDiff, reduceCtorEq, Bool.and_true, Bool.true_and, Bool.and_false, Bool.false_and, Bool.or_true, Bool.or_false, Bool.true_or, Bool.false_or]
  rw [eLc_d z.cps.toList (fun c => .d (.str ⟨#[c]⟩)) (fun c => .str ⟨#[c]⟩) (fun c => !inS (one c) signs) (grd := fun _ => True) (iSq_str rfl) trivial (by rw [strlen]; exact len_le hz) fun c hc => ?_]
  · have hs : ∀ c ∈ z.cps.toList, c < 0x110000 := by
      simp only [sm_str, leafOk, Bool.and_eq_true, PyData.strOk, ← Array.all_toList, List.all_eq_true, decide_eq_true_eq] at hx
      exact hx.1
    simp only [eVar_ap, eK_ap, aNil_ap, aCons_ap, eOp2_ap, eOp1_ap, eChain_ap, bOf_ap, bNot_ap, bAnd_ap, bOr_ap, eAnd_ap, eOr_ap, eNot_ap, eIf_ap, eTup_ap, eLst_ap, eLstM_ap, cNop_ap, cBreak_ap, cCont_ap, cSeq_ap, cExpr_ap, cSet_ap, cRet_ap, cRetN_ap, cIf_ap, cAsg_ap, cPar2_ap, cPar3_ap, bYes_ap, eCall_ap, oNone_ap, oSome_ap, eSl_ap, cFor_ap, eMtL_ap, aKw_ap, gNm_ap, gTp2, gTp3, gSb_ap, Out.bind, Out.ofO, exq, fin, callE_ap, List.getElem?_cons_succ, List.getElem?_cons_zero, List.set_cons_succ, List.set_cons_zero, List.map_cons, List.map_nil, List.replicate, List.cons_append, List.nil_append, List.length_cons, List.length_nil, Bool.not_true, Bool.not_false, if_true, if_false, ite_true, ite_false, reduceIte, Bool.false_eq_true, Bool.true_eq_false, Nat.reduceAdd, unD, Option.map_some, Nat.zero_le, sz1, sz2, sz3, sz4, sz5, sz6, sz7, sz8, sz9, sz10, sz11, sz12, sz13, sz14, sz15, sz16, Nat.reduceSub, Nat.reduceLeDiff, reduceCtorEq, Bool.and_true, Bool.true_and, Bool.and_false, Bool.false_and, Bool.or_true, Bool.or_false, Bool.true_or, Bool.false_or, unD, Option.map_some, Nat.zero_le]
    rw [opEq_sh (n := 1) (m := 1)]
    · simp only [eVar_ap, eK_ap, aNil_ap, aCons_ap, eOp2_ap, eOp1_ap, eChain_ap, bOf_ap, bNot_ap, bAnd_ap, bOr_ap, eAnd_ap, eOr_ap, eNot_ap, eIf_ap, eTup_ap, eLst_ap, eLstM_ap, cNop_ap, cBreak_ap, cCont_ap, cSeq_ap, cExpr_ap, cSet_ap, cRet_ap, cRetN_ap, cIf_ap, cAsg_ap, cPar2_ap, cPar3_ap, bYes_ap, eCall_ap, oNone_ap, oSome_ap, eSl_ap, cFor_ap, eMtL_ap, aKw_ap, gNm_ap, gTp2, gTp3, gSb_ap, Out.bind, Out.ofO, exq, fin, callE_ap, List.getElem?_cons_succ, List.getElem?_cons_zero, List.set_cons_succ, List.set_cons_zero, List.map_cons, List.map_nil, List.replicate, List.cons_append, List.nil_append, List.length_cons, List.length_nil, Bool.not_true, Bool.not_false, if_true, if_false, ite_true, ite_false, reduceIte, Bool.false_eq_true, Bool.true_eq_false, Nat.reduceAdd, unD, Option.map_some, Nat.zero_le, sz1, sz2, sz3, sz4, sz5, sz6, sz7, sz8, sz9, sz10, sz11, sz12, sz13, sz14, sz15, sz16, Nat.reduceSub, Nat.reduceLeDiff, reduceCtorEq, Bool.and_true, Bool.true_and, Bool.and_false, Bool.false_and, Bool.or_true, Bool.or_false, Bool.true_or, Bool.false_or, eqv_lnil]
      congr 3
      rw [Bool.eq_iff_iff]
      simp only [List.isEmpty_map, List.isEmpty_iff, List.filter_eq_nil_iff, List.all_eq_true, Bool.not_eq_true', Bool.not_eq_false]
    · refine sm_list.2 ⟨by rw [List.length_map]; exact Nat.le_trans (List.length_filter_le _ _) (by rw [strlen]; exact hz), fun y hy => ?_⟩
      obtain ⟨c, hc, rfl⟩ := List.mem_map.1 hy
      simp only [sm, leafOk, PyData.strOk, Bool.and_eq_true, decide_eq_true_eq]
      refine ⟨by simpa using hs c (List.mem_filter.1 hc).1, by show 1 ≤ 1000; decide⟩
    · rfl
  · refine ⟨_, rfl, ?_, fun _ => by simp only [eVar_ap, eK_ap, aNil_ap, aCons_ap, eOp2_ap, eOp1_ap, eChain_ap, bOf_ap, bNot_ap, bAnd_ap, bOr_ap, eAnd_ap, eOr_ap, eNot_ap, eIf_ap, eTup_ap, eLst_ap, eLstM_ap, cNop_ap, cBreak_ap, cCont_ap, cSeq_ap, cExpr_ap, cSet_ap, cRet_ap, cRetN_ap, cIf_ap, cAsg_ap, cPar2_ap, cPar3_ap, bYes_ap, eCall_ap, oNone_ap, oSome_ap, eSl_ap, cFor_ap, eMtL_ap, aKw_ap, gNm_ap, gTp2, gTp3, gSb_ap, Out.bind, Out.ofO, exq, fin, callE_ap, List.getElem?_cons_succ, List.getElem?_cons_zero, List.set_cons_succ, List.set_cons_zero, List.map_cons, List.map_nil, List.replicate, List.cons_append, List.nil_append, List.length_cons, List.length_nil, Bool.not_true, Bool.not_false, if_true, if_false, ite_true, ite_false, reduceIte, Bool.false_eq_true, Bool.true_eq_false, Nat.reduceAdd, unD, Option.map_some, Nat.zero_le, sz1, sz2, sz3, sz4, sz5, sz6, sz7, sz8, sz9, sz10, sz11, sz12, sz13, sz14, sz15, sz16, Nat.reduceSub, Nat.reduceLeDiff, reduceCtorEq, Bool.and_true, Bool.true_and, Bool.and_false, Bool.false_and, Bool.or_true, Bool.or_false, Bool.true_or, Bool.false_or, wipeR]⟩
    have e1 : letters.length + ("0123456789" : Str).length ≤ sizeLine := by decide +kernel
    have e2 : letters ++ ("0123456789" : Str) = signs := by decide +kernel
    simp only [eVar_ap, eK_ap, aNil_ap, aCons_ap, eOp2_ap, eOp1_ap, eChain_ap, bOf_ap, bNot_ap, bAnd_ap, bOr_ap, eAnd_ap, eOr_ap, eNot_ap, eIf_ap, eTup_ap, eLst_ap, eLstM_ap, cNop_ap, cBreak_ap, cCont_ap, cSeq_ap, cExpr_ap, cSet_ap, cRet_ap, cRetN_ap, cIf_ap, cAsg_ap, cPar2_ap, cPar3_ap, bYes_ap, eCall_ap, oNone_ap, oSome_ap, eSl_ap, cFor_ap, eMtL_ap, aKw_ap, gNm_ap, gTp2, gTp3, gSb_ap, Out.bind, Out.ofO, exq, fin, callE_ap, List.getElem?_cons_succ, List.getElem?_cons_zero, List.set_cons_succ, List.set_cons_zero, List.map_cons, List.map_nil, List.replicate, List.cons_append, List.nil_append, List.length_cons, List.length_nil, Bool.not_true, Bool.not_false, if_true, if_false, ite_true, ite_false, reduceIte, Bool.false_eq_true, Bool.true_eq_false, Nat.reduceAdd, unD, Option.map_some, Nat.zero_le, sz1, sz2, sz3, sz4, sz5, sz6, sz7, sz8, sz9, sz10, sz11, sz12, sz13, sz14, sz15, sz16, Nat.reduceSub, Nat.reduceLeDiff, reduceCtorEq, Bool.and_true, Bool.true_and, Bool.and_false, Bool.false_and, Bool.or_true, Bool.or_false, Bool.true_or, Bool.false_or, wipeR, opAdd_str, if_pos e1, e2, opNotIn_s]
/-- facts of any size -/
def fOk : PyData → Bool
  | .tuple fs => fs.all lowN && ascD fs
  | _ => false
theorem lowN_str {fs : List PyData} (h : fs.all lowN = true) : OneKind fs := .inl fun x hx => by
  have := List.all_eq_true.1 h x hx
  cases x <;> first | rfl | cases this
theorem facts_ok {n : Nat} (hx : sm (n + 1) x = true) : m_are_facts_of_any_size [.d x] S = .ok (.d (.bool (fOk x))) S := by
  unfold m_are_facts_of_any_size defM b_are_facts_of_any_size
  simp only [eVar_ap, eK_ap, aNil_ap, aCons_ap, eOp2_ap, eOp1_ap, eChain_ap, bOf_ap, bNot_ap, bAnd_ap, bOr_ap, eAnd_ap, eOr_ap, eNot_ap, eIf_ap, eTup_ap, eLst_ap, eLstM_ap, cNop_ap, cBreak_ap, cCont_ap, cSeq_ap, cExpr_ap, cSet_ap, cRet_ap, cRetN_ap, cIf_ap, cAsg_ap, cPar2_ap, cPar3_ap, bYes_ap, eCall_ap, oNone_ap, oSome_ap, eSl_ap, cFor_ap, eMtL_ap, aKw_ap, gNm_ap, gTp2, gTp3, gSb_ap, Out.bind, Out.ofO, exq, fin, callE_ap, List.getElem?_cons_succ, List.getElem?_cons_zero, List.set_cons_succ, List.set_cons_zero, List.map_cons, List.map_nil, List.replicate, List.cons_append, List.nil_append, List.length_cons, List.length_nil, Bool.not_true, Bool.not_false, if_true, if_false, ite_true, ite_false, reduceIte, Bool.false_eq_true, Bool.true_eq_false, Nat.reduceAdd, unD, Option.map_some, Nat.zero_le, sz1, sz2, sz3, sz4, sz5, sz6, sz7, sz8, sz9, sz10, sz11, sz12, sz13, sz14, sz15, sz16, Nat.reduceSub, Nat.reduceLeDiff, reduceCtorEq, Bool.and_true, Bool.true_and, Bool.and_false, Bool.false_and, Bool.or_true, Bool.or_false, Bool.true_or, Bool.false_or, opIsi_d, isiTup]
  cases x <;> simp only [isT, fOk] <;> try simp only [eVar_ap, eK_ap, aNil_ap, aCons_ap, eOp2_ap, eOp1_ap, eChain_ap, bOf_ap, bNot_ap, bAnd_ap, bOr_ap, eAnd_ap, eOr_ap, eNot_ap, eIf_ap, eTup_ap, eLst_ap, eLstM_ap, cNop_ap, cBreak_ap, cCont_ap, cSeq_ap, cExpr_ap, cSet_ap, cRet_ap, cRetN_ap, cIf_ap, cAsg_ap, cPar2_ap, cPar3_ap, bYes_ap, eCall_ap, oNone_ap, oSome_ap, eSl_ap, cFor_ap, eMtL_ap, aKw_ap, gNm_ap, gTp2, gTp3, gSb_ap, Out.bind, Out.ofO, exq, fin, callE_ap, List.getElem?_cons_succ, List.getElem?_cons_zero, List.set_cons_succ, List.set_cons_zero, List.map_cons, List.map_nil, List.replicate, List.cons_append, List.nil_append, List.length_cons, List.length_nil, Bool.not_true, Bool.not_false, if_true, if_false, ite_true, ite_false, reduceIte, Bool.false_eq_true, Bool.true_eq_false, Nat.reduceAdd, unD, Option.map_some, Nat.zero_le, sz1, sz2, sz3, sz4, sz5, sz6, sz7, sz8, sz9, sz10, sz11, sz12, sz13, sz14, sz15, sz16, Nat.reduceSub, Nat.reduceLeDiff, reduceCtorEq, Bool.and_true, Bool.true_and, Bool.and_false, Bool.false_and, Bool.or_true, Bool.or_false, Bool.true_or, Bool.false_or]
  rename_i fs
  have hs := sm_tup.1 hx
  rw [eLc_y fs W.d (fun x => .bool (lowN x)) (grd := fun _ => True) (iSq_tup rfl) trivial (len_le hs.1) fun x hx => ⟨_, rfl, by simp only [eVar_ap, eK_ap, aNil_ap, aCons_ap, eOp2_ap, eOp1_ap, eChain_ap, bOf_ap, bNot_ap, bAnd_ap, bOr_ap, eAnd_ap, eOr_ap, eNot_ap, eIf_ap, eTup_ap, eLst_ap, eLstM_ap, cNop_ap, cBreak_ap, cCont_ap, cSeq_ap, cExpr_ap, cSet_ap, cRet_ap, cRetN_ap, cIf_ap, cAsg_ap, cPar2_ap, cPar3_ap, bYes_ap, eCall_ap, oNone_ap, oSome_ap, eSl_ap, cFor_ap, eMtL_ap, aKw_ap, gNm_ap, gTp2, gTp3, gSb_ap, Out.bind, Out.ofO, exq, fin, callE_ap, List.getElem?_cons_succ, List.getElem?_cons_zero, List.set_cons_succ, List.set_cons_zero, List.map_cons, List.map_nil, List.replicate, List.cons_append, List.nil_append, List.length_cons, List.length_nil, Bool.not_true, Bool.not_false, if_true, if_false, ite_true, ite_false, reduceIte, Bool.false_eq_true, Bool.true_eq_false, Nat.reduceAdd, unD, Option.map_some, Nat.zero_le, sz1, sz2, sz3, sz4, sz5, sz6, sz7, sz8, sz9, sz10, sz11, sz12, sz13, sz14, sz15, sz16, Nat.reduceSub, Nat.reduceLeDiff, reduceCtorEq, Bool.and_true, Bool.true_and, Bool.and_false, Bool.false_and, Bool.or_true, Bool.or_false, Bool.true_or, Bool.false_or, wipeR, callP_d (low_ok (hs.2 x hx))]⟩]
  simp only [eVar_ap, eK_ap, aNil_ap, aCons_ap, eOp2_ap, eOp1_ap, eChain_ap, bOf_ap, bNot_ap, bAnd_ap, bOr_ap, eAnd_ap, eOr_ap, eNot_ap, eIf_ap, eTup_ap, eLst_ap, eLstM_ap, cNop_ap, cBreak_ap, cCont_ap, cSeq_ap, cExpr_ap, cSet_ap, cRet_ap, cRetN_ap, cIf_ap, cAsg_ap, cPar2_ap, cPar3_ap, bYes_ap, eCall_ap, oNone_ap, oSome_ap, eSl_ap, cFor_ap, eMtL_ap, aKw_ap, gNm_ap, gTp2, gTp3, gSb_ap, Out.bind, Out.ofO, exq, fin, callE_ap, List.getElem?_cons_succ, List.getElem?_cons_zero, List.set_cons_succ, List.set_cons_zero, List.map_cons, List.map_nil, List.replicate, List.cons_append, List.nil_append, List.length_cons, List.length_nil, Bool.not_true, Bool.not_false, if_true, if_false, ite_true, ite_false, reduceIte, Bool.false_eq_true, Bool.true_eq_false, Nat.reduceAdd, unD, Option.map_some, Nat.zero_le, sz1, sz2, sz3, sz4, sz5, sz6, sz7, sz8, sz9, sz10, sz11, sz12, sz13, sz14, sz15, sz16, Nat.reduceSub, Nat.reduceLeDiff, reduceCtorEq, Bool.and_true, Bool.true_and, Bool.and_false, Bool.false_and, Bool.or_true, Bool.or_false, Bool.true_or, Bool.false_or, bAll_map]
  cases h : fs.all lowN <;> try simp only [eVar_ap, eK_ap, aNil_ap, aCons_ap, eOp2_ap, eOp1_ap, eChain_ap, bOf_ap, bNot_ap, bAnd_ap, bOr_ap, eAnd_ap, eOr_ap, eNot_ap, eIf_ap, eTup_ap, eLst_ap, eLstM_ap, cNop_ap, cBreak_ap, cCont_ap, cSeq_ap, cExpr_ap, cSet_ap, cRet_ap, cRetN_ap, cIf_ap, cAsg_ap, cPar2_ap, cPar3_ap, bYes_ap, eCall_ap, oNone_ap, oSome_ap, eSl_ap, cFor_ap, eMtL_ap, aKw_ap, gNm_ap, gTp2, gTp3, gSb_ap, Out.bind, Out.ofO, exq, fin, callE_ap, List.getElem?_cons_succ, List.getElem?_cons_zero, List.set_cons_succ, List.set_cons_zero, List.map_cons, List.map_nil, List.replicate, List.cons_append, List.nil_append, List.length_cons, List.length_nil, Bool.not_true, Bool.not_false, if_true, if_false, ite_true, ite_false, reduceIte, Bool.false_eq_true, Bool.true_eq_false, Nat.reduceAdd, unD, Option.map_some, Nat.zero_le, sz1, sz2, sz3, sz4, sz5, sz6, sz7, sz8, sz9, sz10, sz11, sz12, sz13, sz14, sz15, sz16, Nat.reduceSub, Nat.reduceLeDiff, reduceCtorEq, Bool.and_true, Bool.true_and, Bool.and_false, Bool.false_and, Bool.or_true, Bool.or_false, Bool.true_or, Bool.false_or]
  simp only [eVar_ap, eK_ap, aNil_ap, aCons_ap, eOp2_ap, eOp1_ap, eChain_ap, bOf_ap, bNot_ap, bAnd_ap, bOr_ap, eAnd_ap, eOr_ap, eNot_ap, eIf_ap, eTup_ap, eLst_ap, eLstM_ap, cNop_ap, cBreak_ap, cCont_ap, cSeq_ap, cExpr_ap, cSet_ap, cRet_ap, cRetN_ap, cIf_ap, cAsg_ap, cPar2_ap, cPar3_ap, bYes_ap, eCall_ap, oNone_ap, oSome_ap, eSl_ap, cFor_ap, eMtL_ap, aKw_ap, gNm_ap, gTp2, gTp3, gSb_ap, Out.bind, Out.ofO, exq, fin, callE_ap, List.getElem?_cons_succ, List.getElem?_cons_zero, List.set_cons_succ, List.set_cons_zero, List.map_cons, List.map_nil, List.replicate, List.cons_append, List.nil_append, List.length_cons, List.length_nil, Bool.not_true, Bool.not_false, if_true, if_false, ite_true, ite_false, reduceIte, Bool.false_eq_true, Bool.true_eq_false, Nat.reduceAdd, unD, Option.map_some, Nat.zero_le, sz1, sz2, sz3, sz4, sz5, sz6, sz7, sz8, sz9, sz10, sz11, sz12, sz13, sz14, sz15, sz16, Nat.reduceSub, Nat.reduceLeDiff, reduceCtorEq, Bool.and_true, Bool.true_and, Bool.and_false, Bool.false_and, Bool.or_true, Bool.or_false, Bool.true_or, Bool.false_or, callP_d (asc_ok (lowN_str h) hs.1)]
/-- indexes -/
def ixOk (x : PyData) (many : Int) : Bool := match x with
  | .tuple ks => (ks.all fun k => inR k 0 (many - 1)) && ascD ks
  | _ => false
theorem inR_int {ks : List PyData} {lo hi : Int} (h : (ks.all fun k => inR k lo hi) = true) : OneKind ks := .inr fun x hx => by
  have := List.all_eq_true.1 h x hx
  cases x <;> first | rfl | cases this
theorem ixs_ok {n : Nat} {many : Int} (hx : sm (n + 1) x = true) : m_are_indexes [.d x, .d (.int many)] S = .ok (.d (.bool (ixOk x many))) S := by
  unfold m_are_indexes defM b_are_indexes
  simp only [eVar_ap, eK_ap, aNil_ap, aCons_ap, eOp2_ap, eOp1_ap, eChain_ap, bOf_ap, bNot_ap, bAnd_ap, bOr_ap, eAnd_ap, eOr_ap, eNot_ap, eIf_ap, eTup_ap, eLst_ap, eLstM_ap, cNop_ap, cBreak_ap, cCont_ap, cSeq_ap, cExpr_ap, cSet_ap, cRet_ap, cRetN_ap, cIf_ap, cAsg_ap, cPar2_ap, cPar3_ap, bYes_ap, eCall_ap, oNone_ap, oSome_ap, eSl_ap, cFor_ap, eMtL_ap, aKw_ap, gNm_ap, gTp2, gTp3, gSb_ap, Out.bind, Out.ofO, exq, fin, callE_ap, List.getElem?_cons_succ, List.getElem?_cons_zero, List.set_cons_succ, List.set_cons_zero, List.map_cons, List.map_nil, List.replicate, List.cons_append, List.nil_append, List.length_cons, List.length_nil, Bool.not_true, Bool.not_false, if_true, if_false, ite_true, ite_false, reduceIte, Bool.false_eq_true, Bool.true_eq_false, Nat.reduceAdd, unD, Option.map_some, Nat.zero_le, sz1, sz2, sz3, sz4, sz5, sz6, sz7, sz8, sz9, sz10, sz11, sz12, sz13, sz14, sz15, sz16, Nat.reduceSub, Nat.reduceLeDiff, reduceCtorEq, Bool.and_true, Bool.true_and, Bool.and_false, Bool.false_and, Bool.or_true, Bool.or_false, Bool.true_or, Bool.false_or, opIsi_d, isiTup]
  cases x <;> simp only [isT, ixOk] <;> try simp only [eVar_ap, eK_ap, aNil_ap, aCons_ap, eOp2_ap, eOp1_ap, eChain_ap, bOf_ap, bNot_ap, bAnd_ap, bOr_ap, eAnd_ap, eOr_ap, eNot_ap, eIf_ap, eTup_ap, eLst_ap, eLstM_ap, cNop_ap, cBreak_ap, cCont_ap, cSeq_ap, cExpr_ap, cSet_ap, cRet_ap, cRetN_ap, cIf_ap, cAsg_ap, cPar2_ap, cPar3_ap, bYes_ap, eCall_ap, oNone_ap, oSome_ap, eSl_ap, cFor_ap, eMtL_ap, aKw_ap, gNm_ap, gTp2, gTp3, gSb_ap, Out.bind, Out.ofO, exq, fin, callE_ap, List.getElem?_cons_succ, List.getElem?_cons_zero, List.set_cons_succ, List.set_cons_zero, List.map_cons, List.map_nil, List.replicate, List.cons_append, List.nil_append, List.length_cons, List.length_nil, Bool.not_true, Bool.not_false, if_true, if_false, ite_true, ite_false, reduceIte, Bool.false_eq_true, Bool.true_eq_false, Nat.reduceAdd, unD, Option.map_some, Nat.zero_le, sz1, sz2, sz3, sz4, sz5, sz6, sz7, sz8, sz9, sz10, sz11, sz12, sz13, sz14, sz15, sz16, Nat.reduceSub, Nat.reduceLeDiff, reduceCtorEq, Bool.and_true, Bool.true_and, Bool.and_false, Bool.false_and, Bool.or_true, Bool.or_false, Bool.true_or, Bool.false_or]
  rename_i ks
  have hs := sm_tup.1 hx
  rw [eLc_y ks W.d (fun k => .bool (inR k 0 (many - 1))) (grd := fun _ => True) (iSq_tup rfl) trivial (len_le hs.1) fun x hx => ⟨_, rfl, by simp only [eVar_ap, eK_ap, aNil_ap, aCons_ap, eOp2_ap, eOp1_ap, eChain_ap, bOf_ap, bNot_ap, bAnd_ap, bOr_ap, eAnd_ap, eOr_ap, eNot_ap, eIf_ap, eTup_ap, eLst_ap, eLstM_ap, cNop_ap, cBreak_ap, cCont_ap, cSeq_ap, cExpr_ap, cSet_ap, cRet_ap, cRetN_ap, cIf_ap, cAsg_ap, cPar2_ap, cPar3_ap, bYes_ap, eCall_ap, oNone_ap, oSome_ap, eSl_ap, cFor_ap, eMtL_ap, aKw_ap, gNm_ap, gTp2, gTp3, gSb_ap, Out.bind, Out.ofO, exq, fin, callE_ap, List.getElem?_cons_succ, List.getElem?_cons_zero, List.set_cons_succ, List.set_cons_zero, List.map_cons, List.map_nil, List.replicate, List.cons_append, List.nil_append, List.length_cons, List.length_nil, Bool.not_true, Bool.not_false, if_true, if_false, ite_true, ite_false, reduceIte, Bool.false_eq_true, Bool.true_eq_false, Nat.reduceAdd, unD, Option.map_some, Nat.zero_le, sz1, sz2, sz3, sz4, sz5, sz6, sz7, sz8, sz9, sz10, sz11, sz12, sz13, sz14, sz15, sz16, Nat.reduceSub, Nat.reduceLeDiff, reduceCtorEq, Bool.and_true, Bool.true_and, Bool.and_false, Bool.false_and, Bool.or_true, Bool.or_false, Bool.true_or, Bool.false_or, wipeR, opSub_int, callP_d within_ok]⟩]
  simp only [eVar_ap, eK_ap, aNil_ap, aCons_ap, eOp2_ap, eOp1_ap, eChain_ap, bOf_ap, bNot_ap, bAnd_ap, bOr_ap, eAnd_ap, eOr_ap, eNot_ap, eIf_ap, eTup_ap, eLst_ap, eLstM_ap, cNop_ap, cBreak_ap, cCont_ap, cSeq_ap, cExpr_ap, cSet_ap, cRet_ap, cRetN_ap, cIf_ap, cAsg_ap, cPar2_ap, cPar3_ap, bYes_ap, eCall_ap, oNone_ap, oSome_ap, eSl_ap, cFor_ap, eMtL_ap, aKw_ap, gNm_ap, gTp2, gTp3, gSb_ap, Out.bind, Out.ofO, exq, fin, callE_ap, List.getElem?_cons_succ, List.getElem?_cons_zero, List.set_cons_succ, List.set_cons_zero, List.map_cons, List.map_nil, List.replicate, List.cons_append, List.nil_append, List.length_cons, List.length_nil, Bool.not_true, Bool.not_false, if_true, if_false, ite_true, ite_false, reduceIte, Bool.false_eq_true, Bool.true_eq_false, Nat.reduceAdd, unD, Option.map_some, Nat.zero_le, sz1, sz2, sz3, sz4, sz5, sz6, sz7, sz8, sz9, sz10, sz11, sz12, sz13, sz14, sz15, sz16, Nat.reduceSub, Nat.reduceLeDiff, reduceCtorEq, Bool.and_true, Bool.true_and, Bool.and_false, Bool.false_and, Bool.or_true, Bool.or_false, Bool.true_or, Bool.false_or, bAll_map]
  cases h : ks.all (fun k => inR k 0 (many - 1)) <;> try simp only [eVar_ap, eK_ap, aNil_ap, aCons_ap, eOp2_ap, eOp1_ap, eChain_ap, bOf_ap, bNot_ap, bAnd_ap, bOr_ap, eAnd_ap, eOr_ap, eNot_ap, eIf_ap, eTup_ap, eLst_ap, eLstM_ap, cNop_ap, cBreak_ap, cCont_ap, cSeq_ap, cExpr_ap, cSet_ap, cRet_ap, cRetN_ap, cIf_ap, cAsg_ap, cPar2_ap, cPar3_ap, bYes_ap, eCall_ap, oNone_ap, oSome_ap, eSl_ap, cFor_ap, eMtL_ap, aKw_ap, gNm_ap, gTp2, gTp3, gSb_ap, Out.bind, Out.ofO, exq, fin, callE_ap, List.getElem?_cons_succ, List.getElem?_cons_zero, List.set_cons_succ, List.set_cons_zero, List.map_cons, List.map_nil, List.replicate, List.cons_append, List.nil_append, List.length_cons, List.length_nil, Bool.not_true, Bool.not_false, if_true, if_false, ite_true, ite_false, reduceIte, Bool.false_eq_true, Bool.true_eq_false, Nat.reduceAdd, unD, Option.map_some, Nat.zero_le, sz1, sz2, sz3, sz4, sz5, sz6, sz7, sz8, sz9, sz10, sz11, sz12, sz13, sz14, sz15, sz16, Nat.reduceSub, Nat.reduceLeDiff, reduceCtorEq, Bool.and_true, Bool.true_and, Bool.and_false, Bool.false_and, Bool.or_true, Bool.or_false, Bool.true_or, Bool.false_or]
  simp only [eVar_ap, eK_ap, aNil_ap, aCons_ap, eOp2_ap, eOp1_ap, eChain_ap, bOf_ap, bNot_ap, bAnd_ap, bOr_ap, eAnd_ap, eOr_ap, eNot_ap, eIf_ap, eTup_ap, eLst_ap, eLstM_ap, cNop_ap, cBreak_ap, cCont_ap, cSeq_ap, cExpr_ap, cSet_ap, cRet_ap, cRetN_ap, cIf_ap, cAsg_ap, cPar2_ap, cPar3_ap, bYes_ap, eCall_ap, oNone_ap, oSome_ap, eSl_ap, cFor_ap, eMtL_ap, aKw_ap, gNm_ap, gTp2, gTp3, gSb_ap, Out.bind, Out.ofO, exq, fin, callE_ap, List.getElem?_cons_succ, List.getElem?_cons_zero, List.set_cons_succ, List.set_cons_zero, List.map_cons, List.map_nil, List.replicate, List.cons_append, List.nil_append, List.length_cons, List.length_nil, Bool.not_true, Bool.not_false, if_true, if_false, ite_true, ite_false, reduceIte, Bool.false_eq_true, Bool.true_eq_false, Nat.reduceAdd, unD, Option.map_some, Nat.zero_le, sz1, sz2, sz3, sz4, sz5, sz6, sz7, sz8, sz9, sz10, sz11, sz12, sz13, sz14, sz15, sz16, Nat.reduceSub, Nat.reduceLeDiff, reduceCtorEq, Bool.and_true, Bool.true_and, Bool.and_false, Bool.false_and, Bool.or_true, Bool.or_false, Bool.true_or, Bool.false_or, callP_d (asc_ok (inR_int h) hs.1)]
theorem inR_lt {k : PyData} {many : Int} : (isI k && (match k with | .int i => decide (0 ≤ i) && decide (i < many) | _ => false)) = inR k 0 (many - 1) := by
  cases k <;> simp only [isI, inR, Bool.false_and, Bool.true_and]
  rename_i i
  congr 1
  by_cases h : i < many
  · simp [h]; omega
  · simp [h]; omega
theorem elt_lt {ρ : Rho} {many : Int} {i : Nat} {mj : EM} {k : PyData} (h1 : ρ[i]? = some (some (.d k))) (h2 : mj ρ S = .ok (.d (.int many)) S) :
    (eAnd (eOp1 (opIsi "int") (eVar i)) (eAnd (eNot (eOp1 (opIsi "bool") (eVar i))) (eChain (opLe) (opLt) (eInt 0) (eVar i) mj))) ρ S = .ok (.d (.bool (inR k 0 (many - 1)))) S := by
  rw [← inR_lt]
  simp only [eVar_ap, eK_ap, aNil_ap, aCons_ap, eOp2_ap, eOp1_ap, eChain_ap, bOf_ap, bNot_ap, bAnd_ap, bOr_ap, eAnd_ap, eOr_ap, eNot_ap, eIf_ap, eTup_ap, eLst_ap, eLstM_ap, cNop_ap, cBreak_ap, cCont_ap, cSeq_ap, cExpr_ap, cSet_ap, cRet_ap, cRetN_ap, cIf_ap, cAsg_ap, cPar2_ap, cPar3_ap, bYes_ap, eCall_ap, oNone_ap, oSome_ap, eSl_ap, cFor_ap, eMtL_ap, aKw_ap, gNm_ap, gTp2, gTp3, gSb_ap, Out.bind, Out.ofO, exq, fin, callE_ap, List.getElem?_cons_succ, List.getElem?_cons_zero, List.set_cons_succ, List.set_cons_zero, List.map_cons, List.map_nil, List.replicate, List.cons_append, List.nil_append, List.length_cons, List.length_nil, Bool.not_true, Bool.not_false, if_true, if_false, ite_true, ite_false, reduceIte, Bool.false_eq_true, Bool.true_eq_false, Nat.reduceAdd, unD, Option.map_some, Nat.zero_le, sz1, sz2, sz3, sz4, sz5, sz6, sz7, sz8, sz9, sz10, sz11, sz12, sz13, sz14, sz15, sz16, Nat.reduceSub, Nat.reduceLeDiff, reduceCtorEq, Bool.and_true, Bool.true_and, Bool.and_false, Bool.false_and, Bool.or_true, Bool.or_false, Bool.true_or, Bool.false_or, h1, h2, opIsi_d]
  cases k <;> simp only [tyD, isI, Bool.false_and, Bool.true_and] <;> try (simp only [eVar_ap, eK_ap, aNil_ap, aCons_ap, eOp2_ap, eOp1_ap, eChain_ap, bOf_ap, bNot_ap, bAnd_ap, bOr_ap, eAnd_ap, eOr_ap, eNot_ap, eIf_ap, eTup_ap, eLst_ap, eLstM_ap, cNop_ap, cBreak_ap, cCont_ap, cSeq_ap, cExpr_ap, cSet_ap, cRet_ap, cRetN_ap, cIf_ap, cAsg_ap, cPar2_ap, cPar3_ap, bYes_ap, eCall_ap, oNone_ap, oSome_ap, eSl_ap, cFor_ap, eMtL_ap, aKw_ap, gNm_ap, gTp2, gTp3, gSb_ap, Out.bind, Out.ofO, exq, fin, callE_ap, List.getElem?_cons_succ, List.getElem?_cons_zero, List.set_cons_succ, List.set_cons_zero, List.map_cons, List.map_nil, List.replicate, List.cons_append, List.nil_append, List.length_cons, List.length_nil, Bool.not_true, Bool.not_false, if_true, if_false, ite_true, ite_false, reduceIte, Bool.false_eq_true, Bool.true_eq_false, Nat.reduceAdd, unD, Option.map_some, Nat.zero_le, sz1, sz2, sz3, sz4, sz5, sz6, sz7, sz8, sz9, sz10, sz11, sz12, sz13, sz14, sz15, sz16, Nat.reduceSub, Nat.reduceLeDiff, reduceCtorEq, Bool.and_true, Bool.true_and, Bool.and_false, Bool.false_and, Bool.or_true, Bool.or_false, Bool.true_or, Bool.false_or, show isiT "NoneType" "int" = false from rfl, show isiT "bool" "int" = true from rfl, show isiT "bool" "bool" = true from rfl, show isiT "str" "int" = false from rfl, show isiT "list" "int" = false from rfl, show isiT "tuple" "int" = false from rfl, show isiT "dict" "int" = false from rfl])
  rename_i i
  simp only [eVar_ap, eK_ap, aNil_ap, aCons_ap, eOp2_ap, eOp1_ap, eChain_ap, bOf_ap, bNot_ap, bAnd_ap, bOr_ap, eAnd_ap, eOr_ap, eNot_ap, eIf_ap, eTup_ap, eLst_ap, eLstM_ap, cNop_ap, cBreak_ap, cCont_ap, cSeq_ap, cExpr_ap, cSet_ap, cRet_ap, cRetN_ap, cIf_ap, cAsg_ap, cPar2_ap, cPar3_ap, bYes_ap, eCall_ap, oNone_ap, oSome_ap, eSl_ap, cFor_ap, eMtL_ap, aKw_ap, gNm_ap, gTp2, gTp3, gSb_ap, Out.bind, Out.ofO, exq, fin, callE_ap, List.getElem?_cons_succ, List.getElem?_cons_zero, List.set_cons_succ, List.set_cons_zero, List.map_cons, List.map_nil, List.replicate, List.cons_append, List.nil_append, List.length_cons, List.length_nil, Bool.not_true, Bool.not_false, if_true, if_false, ite_true, ite_false, reduceIte, Bool.false_eq_true, Bool.true_eq_false, Nat.reduceAdd, unD, Option.map_some, Nat.zero_le, sz1, sz2, sz3, sz4, sz5, sz6, sz7, sz8, sz9, sz10, sz11, sz12, sz13, sz14, sz15, sz16, Nat.reduceSub, Nat.reduceLeDiff, reduceCtorEq, Bool.and_true, Bool.true_and, Bool.and_false, Bool.false_and, Bool.or_true, Bool.or_false, Bool.true_or, Bool.false_or, show isiT "int" "int" = true from rfl, show isiT "int" "bool" = false from rfl, opInt_int]
  cases h : decide (0 ≤ i) <;> simp only [eVar_ap, eK_ap, aNil_ap, aCons_ap, eOp2_ap, eOp1_ap, eChain_ap, bOf_ap, bNot_ap, bAnd_ap, bOr_ap, eAnd_ap, eOr_ap, eNot_ap, eIf_ap, eTup_ap, eLst_ap, eLstM_ap, cNop_ap, cBreak_ap, cCont_ap, cSeq_ap, cExpr_ap, cSet_ap, cRet_ap, cRetN_ap, cIf_ap, cAsg_ap, cPar2_ap, cPar3_ap, bYes_ap, eCall_ap, oNone_ap, oSome_ap, eSl_ap, cFor_ap, eMtL_ap, aKw_ap, gNm_ap, gTp2, gTp3, gSb_ap, Out.bind, Out.ofO, exq, fin, callE_ap, List.getElem?_cons_succ, List.getElem?_cons_zero, List.set_cons_succ, List.set_cons_zero, List.map_cons, List.map_nil, List.replicate, List.cons_append, List.nil_append, List.length_cons, List.length_nil, Bool.not_true, Bool.not_false, if_true, if_false, ite_true, ite_false, reduceIte, Bool.false_eq_true, Bool.true_eq_false, Nat.reduceAdd, unD, Option.map_some, Nat.zero_le, sz1, sz2, sz3, sz4, sz5, sz6, sz7, sz8, sz9, sz10, sz11, sz12, sz13, sz14, sz15, sz16, Nat.reduceSub, Nat.reduceLeDiff, reduceCtorEq, Bool.and_true, Bool.true_and, Bool.and_false, Bool.false_and, Bool.or_true, Bool.or_false, Bool.true_or, Bool.false_or, opLt_int, h1, h2]
theorem law_ixs_ok {n : Nat} {many : Int} (hx : sm (n + 1) x = true) : m__law_are_indexes [.d x, .d (.int many)] S = .ok (.d (.bool (ixOk x many))) S := by
  unfold m__law_are_indexes defM b__law_are_indexes
  simp only [eVar_ap, eK_ap, aNil_ap, aCons_ap, eOp2_ap, eOp1_ap, eChain_ap, bOf_ap, bNot_ap, bAnd_ap, bOr_ap, eAnd_ap, eOr_ap, eNot_ap, eIf_ap, eTup_ap, eLst_ap, eLstM_ap, cNop_ap, cBreak_ap, cCont_ap, cSeq_ap, cExpr_ap, cSet_ap, cRet_ap, cRetN_ap, cIf_ap, cAsg_ap, cPar2_ap, cPar3_ap, bYes_ap, eCall_ap, oNone_ap, oSome_ap, eSl_ap, cFor_ap, eMtL_ap, aKw_ap, gNm_ap, gTp2, gTp3, gSb_ap, Out.bind, Out.ofO, exq, fin, callE_ap, List.getElem?_cons_succ, List.getElem?_cons_zero, List.set_cons_succ, List.set_cons_zero, List.map_cons, List.map_nil, List.replicate, List.cons_append, List.nil_append, List.length_cons, List.length_nil, Bool.not_true, Bool.not_false, if_true, if_false, ite_true, ite_false, reduceIte, Bool.false_eq_true, Bool.true_eq_false, Nat.reduceAdd, unD, Option.map_some, Nat.zero_le, sz1, sz2, sz3, sz4, sz5, sz6, sz7, sz8, sz9, sz10, sz11, sz12, sz13, sz14, sz15, sz16, Nat.reduceSub, Nat.reduceLeDiff, reduceCtorEq, Bool.and_true, Bool.true_and, Bool.and_false, Bool.false_and, Bool.or_true, Bool.or_false, Bool.true_or, Bool.false_or, opIsi_d, isiTup]
  cases x <;> simp only [isT, ixOk] <;> try simp only [eVar_ap, eK_ap, aNil_ap, aCons_ap, eOp2_ap, eOp1_ap, eChain_ap, bOf_ap, bNot_ap, bAnd_ap, bOr_ap, eAnd_ap, eOr_ap, eNot_ap, eIf_ap, eTup_ap, eLst_ap, eLstM_ap, cNop_ap, cBreak_ap, cCont_ap, cSeq_ap, cExpr_ap, cSet_ap, cRet_ap, cRetN_ap, cIf_ap, cAsg_ap, cPar2_ap, cPar3_ap, bYes_ap, eCall_ap, oNone_ap, oSome_ap, eSl_ap, cFor_ap, eMtL_ap, aKw_ap, gNm_ap, gTp2, gTp3, gSb_ap, Out.bind, Out.ofO, exq, fin, callE_ap, List.getElem?_cons_succ, List.getElem?_cons_zero, List.set_cons_succ, List.set_cons_zero, List.map_cons, List.map_nil, List.replicate, List.cons_append, List.nil_append, List.length_cons, List.length_nil, Bool.not_true, Bool.not_false, if_true, if_false, ite_true, ite_false, reduceIte, Bool.false_eq_true, Bool.true_eq_false, Nat.reduceAdd, unD, Option.map_some, Nat.zero_le, sz1, sz2, sz3, sz4, sz5, sz6, sz7, sz8, sz9, sz10, sz11, sz12, sz13, sz14, sz15, sz16, Nat.reduceSub, Nat.reduceLeDiff, reduceCtorEq, Bool.and_true, Bool.true_and, Bool.and_false, Bool.false_and, Bool.or_true, Bool.or_false, Bool.true_or, Bool.false_or]
  rename_i ks
  have hs := sm_tup.1 hx
  rw [eLc_y ks W.d (fun k => .bool (inR k 0 (many - 1))) (grd := fun _ => True) (iSq_tup rfl) trivial (len_le hs.1) fun x hx => ⟨_, rfl, elt_lt rfl rfl⟩]
  simp only [eVar_ap, eK_ap, aNil_ap, aCons_ap, eOp2_ap, eOp1_ap, eChain_ap, bOf_ap, bNot_ap, bAnd_ap, bOr_ap, eAnd_ap, eOr_ap, eNot_ap, eIf_ap, eTup_ap, eLst_ap, eLstM_ap, cNop_ap, cBreak_ap, cCont_ap, cSeq_ap, cExpr_ap, cSet_ap, cRet_ap, cRetN_ap, cIf_ap, cAsg_ap, cPar2_ap, cPar3_ap, bYes_ap, eCall_ap, oNone_ap, oSome_ap, eSl_ap, cFor_ap, eMtL_ap, aKw_ap, gNm_ap, gTp2, gTp3, gSb_ap, Out.bind, Out.ofO, exq, fin, callE_ap, List.getElem?_cons_succ, List.getElem?_cons_zero, List.set_cons_succ, List.set_cons_zero, List.map_cons, List.map_nil, List.replicate, List.cons_append, List.nil_append, List.length_cons, List.length_nil, Bool.not_true, Bool.not_false, if_true, if_false, ite_true, ite_false, reduceIte, Bool.false_eq_true, Bool.true_eq_false, Nat.reduceAdd, unD, Option.map_some, Nat.zero_le, sz1, sz2, sz3, sz4, sz5, sz6, sz7, sz8, sz9, sz10, sz11, sz12, sz13, sz14, sz15, sz16, Nat.reduceSub, Nat.reduceLeDiff, reduceCtorEq, Bool.and_true, Bool.true_and, Bool.and_false, Bool.false_and, Bool.or_true, Bool.or_false, Bool.true_or, Bool.false_or, bAll_map]
  cases h : ks.all (fun k => inR k 0 (many - 1)) <;> try simp only [eVar_ap, eK_ap, aNil_ap, aCons_ap, eOp2_ap, eOp1_ap, eChain_ap, bOf_ap, bNot_ap, bAnd_ap, bOr_ap, eAnd_ap, eOr_ap, eNot_ap, eIf_ap, eTup_ap, eLst_ap, eLstM_ap, cNop_ap, cBreak_ap, cCont_ap, cSeq_ap, cExpr_ap, cSet_ap, cRet_ap, cRetN_ap, cIf_ap, cAsg_ap, cPar2_ap, cPar3_ap, bYes_ap, eCall_ap, oNone_ap, oSome_ap, eSl_ap, cFor_ap, eMtL_ap, aKw_ap, gNm_ap, gTp2, gTp3, gSb_ap, Out.bind, Out.ofO, exq, fin, callE_ap, List.getElem?_cons_succ, List.getElem?_cons_zero, List.set_cons_succ, List.set_cons_zero, List.map_cons, List.map_nil, List.replicate, List.cons_append, List.nil_append, List.length_cons, List.length_nil, Bool.not_true, Bool.not_false, if_true, if_false, ite_true, ite_false, reduceIte, Bool.false_eq_true, Bool.true_eq_false, Nat.reduceAdd, unD, Option.map_some, Nat.zero_le, sz1, sz2, sz3, sz4, sz5, sz6, sz7, sz8, sz9, sz10, sz11, sz12, sz13, sz14, sz15, sz16, Nat.reduceSub, Nat.reduceLeDiff, reduceCtorEq, Bool.and_true, Bool.true_and, Bool.and_false, Bool.false_and, Bool.or_true, Bool.or_false, Bool.true_or, Bool.false_or]
  have e : ((ks.length : Int) - 1).toNat = ks.length - 1 := by omega
  rw [eLc_y (List.range (ks.length - 1)) (fun (k : Nat) => .d (.int (k : Int))) (fun k => .bool (ltD (ks.getD k .none) (ks.getD (k + 1) .none))) (grd := fun _ => True) ?_ trivial (by rw [List.length_range]; exact len_le (by omega)) fun k hk => ?_]
  · simp only [eVar_ap, eK_ap, aNil_ap, aCons_ap, eOp2_ap, eOp1_ap, eChain_ap, bOf_ap, bNot_ap, bAnd_ap, bOr_ap, eAnd_ap, eOr_ap, eNot_ap, eIf_ap, eTup_ap, eLst_ap, eLstM_ap, cNop_ap, cBreak_ap, cCont_ap, cSeq_ap, cExpr_ap, cSet_ap, cRet_ap, cRetN_ap, cIf_ap, cAsg_ap, cPar2_ap, cPar3_ap, bYes_ap, eCall_ap, oNone_ap, oSome_ap, eSl_ap, cFor_ap, eMtL_ap, aKw_ap, gNm_ap, gTp2, gTp3, gSb_ap, Out.bind, Out.ofO, exq, fin, callE_ap, List.getElem?_cons_succ, List.getElem?_cons_zero, List.set_cons_succ, List.set_cons_zero, List.map_cons, List.map_nil, List.replicate, List.cons_append, List.nil_append, List.length_cons, List.length_nil, Bool.not_true, Bool.not_false, if_true, if_false, ite_true, ite_false, reduceIte, Bool.false_eq_true, Bool.true_eq_false, Nat.reduceAdd, unD, Option.map_some, Nat.zero_le, sz1, sz2, sz3, sz4, sz5, sz6, sz7, sz8, sz9, sz10, sz11, sz12, sz13, sz14, sz15, sz16, Nat.reduceSub, Nat.reduceLeDiff, reduceCtorEq, Bool.and_true, Bool.true_and, Bool.and_false, Bool.false_and, Bool.or_true, Bool.or_false, Bool.true_or, Bool.false_or, bAll_map, ascD_range]
  · rw [← e]
    refine iRg1_at (by simp only [eVar_ap, eK_ap, aNil_ap, aCons_ap, eOp2_ap, eOp1_ap, eChain_ap, bOf_ap, bNot_ap, bAnd_ap, bOr_ap, eAnd_ap, eOr_ap, eNot_ap, eIf_ap, eTup_ap, eLst_ap, eLstM_ap, cNop_ap, cBreak_ap, cCont_ap, cSeq_ap, cExpr_ap, cSet_ap, cRet_ap, cRetN_ap, cIf_ap, cAsg_ap, cPar2_ap, cPar3_ap, bYes_ap, eCall_ap, oNone_ap, oSome_ap, eSl_ap, cFor_ap, eMtL_ap, aKw_ap, gNm_ap, gTp2, gTp3, gSb_ap, Out.bind, Out.ofO, exq, fin, callE_ap, List.getElem?_cons_succ, List.getElem?_cons_zero, List.set_cons_succ, List.set_cons_zero, List.map_cons, List.map_nil, List.replicate, List.cons_append, List.nil_append, List.length_cons, List.length_nil, Bool.not_true, Bool.not_false, if_true, if_false, ite_true, ite_false, reduceIte, Bool.false_eq_true, Bool.true_eq_false, Nat.reduceAdd, unD, Option.map_some, Nat.zero_le, sz1, sz2, sz3, sz4, sz5, sz6, sz7, sz8, sz9, sz10, sz11, sz12, sz13, sz14, sz15, sz16, Nat.reduceSub, Nat.reduceLeDiff, reduceCtorEq, Bool.and_true, Bool.true_and, Bool.and_false, Bool.false_and, Bool.or_true, Bool.or_false, Bool.true_or, Bool.false_or, bLen_tup, opSub_int]) ⟨by omega, by omega⟩
  · rw [List.mem_range] at hk
    refine ⟨_, rfl, ?_⟩
    simp only [eVar_ap, eK_ap, aNil_ap, aCons_ap, eOp2_ap, eOp1_ap, eChain_ap, bOf_ap, bNot_ap, bAnd_ap, bOr_ap, eAnd_ap, eOr_ap, eNot_ap, eIf_ap, eTup_ap, eLst_ap, eLstM_ap, cNop_ap, cBreak_ap, cCont_ap, cSeq_ap, cExpr_ap, cSet_ap, cRet_ap, cRetN_ap, cIf_ap, cAsg_ap, cPar2_ap, cPar3_ap, bYes_ap, eCall_ap, oNone_ap, oSome_ap, eSl_ap, cFor_ap, eMtL_ap, aKw_ap, gNm_ap, gTp2, gTp3, gSb_ap, Out.bind, Out.ofO, exq, fin, callE_ap, List.getElem?_cons_succ, List.getElem?_cons_zero, List.set_cons_succ, List.set_cons_zero, List.map_cons, List.map_nil, List.replicate, List.cons_append, List.nil_append, List.length_cons, List.length_nil, Bool.not_true, Bool.not_false, if_true, if_false, ite_true, ite_false, reduceIte, Bool.false_eq_true, Bool.true_eq_false, Nat.reduceAdd, unD, Option.map_some, Nat.zero_le, sz1, sz2, sz3, sz4, sz5, sz6, sz7, sz8, sz9, sz10, sz11, sz12, sz13, sz14, sz15, sz16, Nat.reduceSub, Nat.reduceLeDiff, reduceCtorEq, Bool.and_true, Bool.true_and, Bool.and_false, Bool.false_and, Bool.or_true, Bool.or_false, Bool.true_or, Bool.false_or, wipeR, opIx_tup (atI_getD (xs := ks) (k := k) (by omega)), opAdd_int, opIx_tup (atI_getD' (xs := ks) (k := k + 1) (i := (k : Int) + 1) (by omega) (by omega))]
    exact opLt_D (inR_int h) (getD_mem (by omega)) (getD_mem (by omega))
/-- mates -/
def mtAt (ks : List PyData) (w : Nat) : Bool := match ks.getD w .none with
  | .int m => decide (m ≤ (w : Int)) && (match ks.getD m.toNat .none with | .int m2 => m2 == m | _ => false)
  | _ => false
def mtOk (x : PyData) (n : Nat) : Bool := match x with
  | .tuple ks => decide (ks.length = n) && (ks.all fun k => inR k 0 ((n : Int) - 1)) && (List.range ks.length).all fun w => mtAt ks w
  | _ => false
theorem inR_at {ks : List PyData} {n k : Nat} (h : (ks.all fun k => inR k 0 ((n : Int) - 1)) = true) (hk : k < ks.length) : ∃ m : Nat, ks.getD k .none = .int m ∧ m < n := by
  have := List.all_eq_true.1 h _ (getD_mem hk)
  generalize ks.getD k .none = y at this
  cases y <;> try cases this
  rename_i i
  simp only [inR, Bool.and_eq_true, decide_eq_true_eq] at this
  exact ⟨i.toNat, by congr 1; omega, by omega⟩
theorem mates_ok {q n : Nat} (hx : sm (q + 1) x = true) (hn : n ≤ 1000) : m_are_mates [.d x, .d (.int n)] S = .ok (.d (.bool (mtOk x n))) S := by
  unfold m_are_mates defM b_are_mates
  simp only [eVar_ap, eK_ap, aNil_ap, aCons_ap, eOp2_ap, eOp1_ap, eChain_ap, bOf_ap, bNot_ap, bAnd_ap, bOr_ap, eAnd_ap, eOr_ap, eNot_ap, eIf_ap, eTup_ap, eLst_ap, eLstM_ap, cNop_ap, cBreak_ap, cCont_ap, cSeq_ap, cExpr_ap, cSet_ap, cRet_ap, cRetN_ap, cIf_ap, cAsg_ap, cPar2_ap, cPar3_ap, bYes_ap, eCall_ap, oNone_ap, oSome_ap, eSl_ap, cFor_ap, eMtL_ap, aKw_ap, gNm_ap, gTp2, gTp3, gSb_ap, Out.bind, Out.ofO, exq, fin, callE_ap, List.getElem?_cons_succ, List.getElem?_cons_zero, List.set_cons_succ, List.set_cons_zero, List.map_cons, List.map_nil, List.replicate, List.cons_append, List.nil_append, List.length_cons, List.length_nil, Bool.not_true, Bool.not_false, if_true, if_false, ite_true, ite_false, reduceIte, Bool.false_eq_true, Bool.true_eq_false, Nat.reduceAdd, unD, Option.map_some, Nat.zero_le, sz1, sz2, sz3, sz4, sz5, sz6, sz7, sz8, sz9, sz10, sz11, sz12, sz13, sz14, sz15, sz16, Nat.reduceSub, Nat.reduceLeDiff, reduceCtorEq, Bool.and_true, Bool.true_and, Bool.and_false, Bool.false_and, Bool.or_true, Bool.or_false, Bool.true_or, Bool.false_or, callP_d is_row_ok]
  cases x <;> simp only [mtOk] <;> try simp only [eVar_ap, eK_ap, aNil_ap, aCons_ap, eOp2_ap, eOp1_ap, eChain_ap, bOf_ap, bNot_ap, bAnd_ap, bOr_ap, eAnd_ap, eOr_ap, eNot_ap, eIf_ap, eTup_ap, eLst_ap, eLstM_ap, cNop_ap, cBreak_ap, cCont_ap, cSeq_ap, cExpr_ap, cSet_ap, cRet_ap, cRetN_ap, cIf_ap, cAsg_ap, cPar2_ap, cPar3_ap, bYes_ap, eCall_ap, oNone_ap, oSome_ap, eSl_ap, cFor_ap, eMtL_ap, aKw_ap, gNm_ap, gTp2, gTp3, gSb_ap, Out.bind, Out.ofO, exq, fin, callE_ap, List.getElem?_cons_succ, List.getElem?_cons_zero, List.set_cons_succ, List.set_cons_zero, List.map_cons, List.map_nil, List.replicate, List.cons_append, List.nil_append, List.length_cons, List.length_nil, Bool.not_true, Bool.not_false, if_true, if_false, ite_true, ite_false, reduceIte, Bool.false_eq_true, Bool.true_eq_false, Nat.reduceAdd, unD, Option.map_some, Nat.zero_le, sz1, sz2, sz3, sz4, sz5, sz6, sz7, sz8, sz9, sz10, sz11, sz12, sz13, sz14, sz15, sz16, Nat.reduceSub, Nat.reduceLeDiff, reduceCtorEq, Bool.and_true, Bool.true_and, Bool.and_false, Bool.false_and, Bool.or_true, Bool.or_false, Bool.true_or, Bool.false_or, show ∀ b, rowOk (.bool b) (n : Int) n = false from fun _ => rfl, show ∀ b, rowOk (.int b) (n : Int) n = false from fun _ => rfl, show ∀ b, rowOk (.str b) (n : Int) n = false from fun _ => rfl, show ∀ b, rowOk (.list b) (n : Int) n = false from fun _ => rfl, show ∀ b, rowOk (.dict b) (n : Int) n = false from fun _ => rfl, show rowOk .none (n : Int) n = false from rfl]
  rename_i ks
  have hs := sm_tup.1 hx
  simp only [eVar_ap, eK_ap, aNil_ap, aCons_ap, eOp2_ap, eOp1_ap, eChain_ap, bOf_ap, bNot_ap, bAnd_ap, bOr_ap, eAnd_ap, eOr_ap, eNot_ap, eIf_ap, eTup_ap, eLst_ap, eLstM_ap, cNop_ap, cBreak_ap, cCont_ap, cSeq_ap, cExpr_ap, cSet_ap, cRet_ap, cRetN_ap, cIf_ap, cAsg_ap, cPar2_ap, cPar3_ap, bYes_ap, eCall_ap, oNone_ap, oSome_ap, eSl_ap, cFor_ap, eMtL_ap, aKw_ap, gNm_ap, gTp2, gTp3, gSb_ap, Out.bind, Out.ofO, exq, fin, callE_ap, List.getElem?_cons_succ, List.getElem?_cons_zero, List.set_cons_succ, List.set_cons_zero, List.map_cons, List.map_nil, List.replicate, List.cons_append, List.nil_append, List.length_cons, List.length_nil, Bool.not_true, Bool.not_false, if_true, if_false, ite_true, ite_false, reduceIte, Bool.false_eq_true, Bool.true_eq_false, Nat.reduceAdd, unD, Option.map_some, Nat.zero_le, sz1, sz2, sz3, sz4, sz5, sz6, sz7, sz8, sz9, sz10, sz11, sz12, sz13, sz14, sz15, sz16, Nat.reduceSub, Nat.reduceLeDiff, reduceCtorEq, Bool.and_true, Bool.true_and, Bool.and_false, Bool.false_and, Bool.or_true, Bool.or_false, Bool.true_or, Bool.false_or, rowOk_n]
  cases h : decide (ks.length = n) <;> try simp only [eVar_ap, eK_ap, aNil_ap, aCons_ap, eOp2_ap, eOp1_ap, eChain_ap, bOf_ap, bNot_ap, bAnd_ap, bOr_ap, eAnd_ap, eOr_ap, eNot_ap, eIf_ap, eTup_ap, eLst_ap, eLstM_ap, cNop_ap, cBreak_ap, cCont_ap, cSeq_ap, cExpr_ap, cSet_ap, cRet_ap, cRetN_ap, cIf_ap, cAsg_ap, cPar2_ap, cPar3_ap, bYes_ap, eCall_ap, oNone_ap, oSome_ap, eSl_ap, cFor_ap, eMtL_ap, aKw_ap, gNm_ap, gTp2, gTp3, gSb_ap, Out.bind, Out.ofO, exq, fin, callE_ap, List.getElem?_cons_succ, List.getElem?_cons_zero, List.set_cons_succ, List.set_cons_zero, List.map_cons, List.map_nil, List.replicate, List.cons_append, List.nil_append, List.length_cons, List.length_nil, Bool.not_true, Bool.not_false, if_true, if_false, ite_true, ite_false, reduceIte, Bool.false_eq_true, Bool.true_eq_false, Nat.reduceAdd, unD, Option.map_some, Nat.zero_le, sz1, sz2, sz3, sz4, sz5, sz6, sz7, sz8, sz9, sz10, sz11, sz12, sz13, sz14, sz15, sz16, Nat.reduceSub, Nat.reduceLeDiff, reduceCtorEq, Bool.and_true, Bool.true_and, Bool.and_false, Bool.false_and, Bool.or_true, Bool.or_false, Bool.true_or, Bool.false_or]
  have hl : ks.length = n := of_decide_eq_true h
  rw [eLc_y ks W.d (fun k => .bool (inR k 0 ((n : Int) - 1))) (grd := fun _ => True) (iSq_tup rfl) trivial (len_le hs.1) fun x hx => ⟨_, rfl, by simp only [eVar_ap, eK_ap, aNil_ap, aCons_ap, eOp2_ap, eOp1_ap, eChain_ap, bOf_ap, bNot_ap, bAnd_ap, bOr_ap, eAnd_ap, eOr_ap, eNot_ap, eIf_ap, eTup_ap, eLst_ap, eLstM_ap, cNop_ap, cBreak_ap, cCont_ap, cSeq_ap, cExpr_ap, cSet_ap, cRet_ap, cRetN_ap, cIf_ap, cAsg_ap, cPar2_ap, cPar3_ap, bYes_ap, eCall_ap, oNone_ap, oSome_ap, eSl_ap, cFor_ap, eMtL_ap, aKw_ap, gNm_ap, gTp2, gTp3, gSb_ap, Out.bind, Out.ofO, exq, fin, callE_ap, List.getElem?_cons_succ, List.getElem?_cons_zero, List.set_cons_succ, List.set_cons_zero, List.map_cons, List.map_nil, List.replicate, List.cons_append, List.nil_append, List.length_cons, List.length_nil, Bool.not_true, Bool.not_false, if_true, if_false, ite_true, ite_false, reduceIte, Bool.false_eq_true, Bool.true_eq_false, Nat.reduceAdd, unD, Option.map_some, Nat.zero_le, sz1, sz2, sz3, sz4, sz5, sz6, sz7, sz8, sz9, sz10, sz11, sz12, sz13, sz14, sz15, sz16, Nat.reduceSub, Nat.reduceLeDiff, reduceCtorEq, Bool.and_true, Bool.true_and, Bool.and_false, Bool.false_and, Bool.or_true, Bool.or_false, Bool.true_or, Bool.false_or, wipeR, opSub_int, callP_d within_ok]⟩]
  simp only [eVar_ap, eK_ap, aNil_ap, aCons_ap, eOp2_ap, eOp1_ap, eChain_ap, bOf_ap, bNot_ap, bAnd_ap, bOr_ap, eAnd_ap, eOr_ap, eNot_ap, eIf_ap, eTup_ap, eLst_ap, eLstM_ap, cNop_ap, cBreak_ap, cCont_ap, cSeq_ap, cExpr_ap, cSet_ap, cRet_ap, cRetN_ap, cIf_ap, cAsg_ap, cPar2_ap, cPar3_ap, bYes_ap, eCall_ap, oNone_ap, oSome_ap, eSl_ap, cFor_ap, eMtL_ap, aKw_ap, gNm_ap, gTp2, gTp3, gSb_ap, Out.bind, Out.ofO, exq, fin, callE_ap, List.getElem?_cons_succ, List.getElem?_cons_zero, List.set_cons_succ, List.set_cons_zero, List.map_cons, List.map_nil, List.replicate, List.cons_append, List.nil_append, List.length_cons, List.length_nil, Bool.not_true, Bool.not_false, if_true, if_false, ite_true, ite_false, reduceIte, Bool.false_eq_true, Bool.true_eq_false, Nat.reduceAdd, unD, Option.map_some, Nat.zero_le, sz1, sz2, sz3, sz4, sz5, sz6, sz7, sz8, sz9, sz10, sz11, sz12, sz13, sz14, sz15, sz16, Nat.reduceSub, Nat.reduceLeDiff, reduceCtorEq, Bool.and_true, Bool.true_and, Bool.and_false, Bool.false_and, Bool.or_true, Bool.or_false, Bool.true_or, Bool.false_or, bAll_map]
  cases h2 : ks.all (fun k => inR k 0 ((n : Int) - 1)) <;> try simp only [eVar_ap, eK_ap, aNil_ap, aCons_ap, eOp2_ap, eOp1_ap, eChain_ap, bOf_ap, bNot_ap, bAnd_ap, bOr_ap, eAnd_ap, eOr_ap, eNot_ap, eIf_ap, eTup_ap, eLst_ap, eLstM_ap, cNop_ap, cBreak_ap, cCont_ap, cSeq_ap, cExpr_ap, cSet_ap, cRet_ap, cRetN_ap, cIf_ap, cAsg_ap, cPar2_ap, cPar3_ap, bYes_ap, eCall_ap, oNone_ap, oSome_ap, eSl_ap, cFor_ap, eMtL_ap, aKw_ap, gNm_ap, gTp2, gTp3, gSb_ap, Out.bind, Out.ofO, exq, fin, callE_ap, List.getElem?_cons_succ, List.getElem?_cons_zero, List.set_cons_succ, List.set_cons_zero, List.map_cons, List.map_nil, List.replicate, List.cons_append, List.nil_append, List.length_cons, List.length_nil, Bool.not_true, Bool.not_false, if_true, if_false, ite_true, ite_false, reduceIte, Bool.false_eq_true, Bool.true_eq_false, Nat.reduceAdd, unD, Option.map_some, Nat.zero_le, sz1, sz2, sz3, sz4, sz5, sz6, sz7, sz8, sz9, sz10, sz11, sz12, sz13, sz14, sz15, sz16, Nat.reduceSub, Nat.reduceLeDiff, reduceCtorEq, Bool.and_true, Bool.true_and, Bool.and_false, Bool.false_and, Bool.or_true, Bool.or_false, Bool.true_or, Bool.false_or]
  rw [eLc_y (List.range ks.length) (fun (k : Nat) => .d (.tuple [.int (k : Int), ks.getD k .none])) (fun k => .bool (mtAt ks k)) (grd := fun _ => True) ?_ trivial (by rw [List.length_range]; exact len_le hs.1) fun k hk => ?_]
  · simp only [eVar_ap, eK_ap, aNil_ap, aCons_ap, eOp2_ap, eOp1_ap, eChain_ap, bOf_ap, bNot_ap, bAnd_ap, bOr_ap, eAnd_ap, eOr_ap, eNot_ap, eIf_ap, eTup_ap, eLst_ap, eLstM_ap, cNop_ap, cBreak_ap, cCont_ap, cSeq_ap, cExpr_ap, cSet_ap, cRet_ap, cRetN_ap, cIf_ap, cAsg_ap, cPar2_ap, cPar3_ap, bYes_ap, eCall_ap, oNone_ap, oSome_ap, eSl_ap, cFor_ap, eMtL_ap, aKw_ap, gNm_ap, gTp2, gTp3, gSb_ap, Out.bind, Out.ofO, exq, fin, callE_ap, List.getElem?_cons_succ, List.getElem?_cons_zero, List.set_cons_succ, List.set_cons_zero, List.map_cons, List.map_nil, List.replicate, List.cons_append, List.nil_append, List.length_cons, List.length_nil, Bool.not_true, Bool.not_false, if_true, if_false, ite_true, ite_false, reduceIte, Bool.false_eq_true, Bool.true_eq_false, Nat.reduceAdd, unD, Option.map_some, Nat.zero_le, sz1, sz2, sz3, sz4, sz5, sz6, sz7, sz8, sz9, sz10, sz11, sz12, sz13, sz14, sz15, sz16, Nat.reduceSub, Nat.reduceLeDiff, reduceCtorEq, Bool.and_true, Bool.true_and, Bool.and_false, Bool.false_and, Bool.or_true, Bool.or_false, Bool.true_or, Bool.false_or, bAll_map]
  · rw [iEn_tup (xs := ks) rfl, zipIdx_range, List.map_map]; rfl
  · rw [List.mem_range] at hk
    obtain ⟨m, e, hm⟩ := inR_at h2 hk
    obtain ⟨m2, e2, _⟩ := inR_at h2 (k := m) (by omega)
    refine ⟨_, gTp2, ?_⟩
    simp only [eVar_ap, eK_ap, aNil_ap, aCons_ap, eOp2_ap, eOp1_ap, eChain_ap, bOf_ap, bNot_ap, bAnd_ap, bOr_ap, eAnd_ap, eOr_ap, eNot_ap, eIf_ap, eTup_ap, eLst_ap, eLstM_ap, cNop_ap, cBreak_ap, cCont_ap, cSeq_ap, cExpr_ap, cSet_ap, cRet_ap, cRetN_ap, cIf_ap, cAsg_ap, cPar2_ap, cPar3_ap, bYes_ap, eCall_ap, oNone_ap, oSome_ap, eSl_ap, cFor_ap, eMtL_ap, aKw_ap, gNm_ap, gTp2, gTp3, gSb_ap, Out.bind, Out.ofO, exq, fin, callE_ap, List.getElem?_cons_succ, List.getElem?_cons_zero, List.set_cons_succ, List.set_cons_zero, List.map_cons, List.map_nil, List.replicate, List.cons_append, List.nil_append, List.length_cons, List.length_nil, Bool.not_true, Bool.not_false, if_true, if_false, ite_true, ite_false, reduceIte, Bool.false_eq_true, Bool.true_eq_false, Nat.reduceAdd, unD, Option.map_some, Nat.zero_le, sz1, sz2, sz3, sz4, sz5, sz6, sz7, sz8, sz9, sz10, sz11, sz12, sz13, sz14, sz15, sz16, Nat.reduceSub, Nat.reduceLeDiff, reduceCtorEq, Bool.and_true, Bool.true_and, Bool.and_false, Bool.false_and, Bool.or_true, Bool.or_false, Bool.true_or, Bool.false_or, wipeR, mtAt, e, opInt_int, Int.toNat_natCast, e2]
    cases h3 : decide ((m : Int) ≤ (k : Int)) <;> try simp only [eVar_ap, eK_ap, aNil_ap, aCons_ap, eOp2_ap, eOp1_ap, eChain_ap, bOf_ap, bNot_ap, bAnd_ap, bOr_ap, eAnd_ap, eOr_ap, eNot_ap, eIf_ap, eTup_ap, eLst_ap, eLstM_ap, cNop_ap, cBreak_ap, cCont_ap, cSeq_ap, cExpr_ap, cSet_ap, cRet_ap, cRetN_ap, cIf_ap, cAsg_ap, cPar2_ap, cPar3_ap, bYes_ap, eCall_ap, oNone_ap, oSome_ap, eSl_ap, cFor_ap, eMtL_ap, aKw_ap, gNm_ap, gTp2, gTp3, gSb_ap, Out.bind, Out.ofO, exq, fin, callE_ap, List.getElem?_cons_succ, List.getElem?_cons_zero, List.set_cons_succ, List.set_cons_zero, List.map_cons, List.map_nil, List.replicate, List.cons_append, List.nil_append, List.length_cons, List.length_nil, Bool.not_true, Bool.not_false, if_true, if_false, ite_true, ite_false, reduceIte, Bool.false_eq_true, Bool.true_eq_false, Nat.reduceAdd, unD, Option.map_some, Nat.zero_le, sz1, sz2, sz3, sz4, sz5, sz6, sz7, sz8, sz9, sz10, sz11, sz12, sz13, sz14, sz15, sz16, Nat.reduceSub, Nat.reduceLeDiff, reduceCtorEq, Bool.and_true, Bool.true_and, Bool.and_false, Bool.false_and, Bool.or_true, Bool.or_false, Bool.true_or, Bool.false_or]
    simp only [eVar_ap, eK_ap, aNil_ap, aCons_ap, eOp2_ap, eOp1_ap, eChain_ap, bOf_ap, bNot_ap, bAnd_ap, bOr_ap, eAnd_ap, eOr_ap, eNot_ap, eIf_ap, eTup_ap, eLst_ap, eLstM_ap, cNop_ap, cBreak_ap, cCont_ap, cSeq_ap, cExpr_ap, cSet_ap, cRet_ap, cRetN_ap, cIf_ap, cAsg_ap, cPar2_ap, cPar3_ap, bYes_ap, eCall_ap, oNone_ap, oSome_ap, eSl_ap, cFor_ap, eMtL_ap, aKw_ap, gNm_ap, gTp2, gTp3, gSb_ap, Out.bind, Out.ofO, exq, fin, callE_ap, List.getElem?_cons_succ, List.getElem?_cons_zero, List.set_cons_succ, List.set_cons_zero, List.map_cons, List.map_nil, List.replicate, List.cons_append, List.nil_append, List.length_cons, List.length_nil, Bool.not_true, Bool.not_false, if_true, if_false, ite_true, ite_false, reduceIte, Bool.false_eq_true, Bool.true_eq_false, Nat.reduceAdd, unD, Option.map_some, Nat.zero_le, sz1, sz2, sz3, sz4, sz5, sz6, sz7, sz8, sz9, sz10, sz11, sz12, sz13, sz14, sz15, sz16, Nat.reduceSub, Nat.reduceLeDiff, reduceCtorEq, Bool.and_true, Bool.true_and, Bool.and_false, Bool.false_and, Bool.or_true, Bool.or_false, Bool.true_or, Bool.false_or, opIx_tup (atI_getD (xs := ks) (k := m) (by omega)), e2, opEq_int]
/-- worlds, rows of mates, a table -/
def wOk (w : PyData) (nf : Nat) : Bool := match w with
  | .tuple ws => !ws.isEmpty && ws.all fun x => ixOk x nf
  | _ => false
def mOk (m : PyData) (nw : Nat) : Bool := match m with
  | .tuple ms => !ms.isEmpty && ms.all fun x => mtOk x nw
  | _ => false
def szD : PyData → Nat
  | .tuple xs => xs.length
  | _ => 0
def tblA : PyData → Bool
  | .tuple [f, w, m] => fOk f && (wOk w (szD f) && mOk m (szD w))
  | _ => false
def tbl : PyData → Bool
  | .tuple [f, w, m] => fOk f && (wOk w (szD f) && mOk m (szD w)) && (decide (szD f ≤ 6) && (decide (szD w ≤ 16) && decide (szD m ≤ 4)))
  | _ => false
theorem fOk_tup {f : PyData} (h : fOk f = true) : ∃ fs, f = .tuple fs := by cases f <;> first | exact ⟨_, rfl⟩ | cases h
theorem wOk_tup {f : PyData} {n : Nat} (h : wOk f n = true) : ∃ fs, f = .tuple fs := by cases f <;> first | exact ⟨_, rfl⟩ | cases h
theorem mOk_tup {f : PyData} {n : Nat} (h : mOk f n = true) : ∃ fs, f = .tuple fs := by cases f <;> first | exact ⟨_, rfl⟩ | cases h
theorem any_ok {n : Nat} (hx : sm (n + 3) x = true) (hn : n ≤ 60) : m_is_table_of_any_size [.d x] S = .ok (.d (.bool (tblA x))) S := by
  unfold m_is_table_of_any_size defM b_is_table_of_any_size
  simp only [eVar_ap, eK_ap, aNil_ap, aCons_ap, eOp2_ap, eOp1_ap, eChain_ap, bOf_ap, bNot_ap, bAnd_ap, bOr_ap, eAnd_ap, eOr_ap, eNot_ap, eIf_ap, eTup_ap, eLst_ap, eLstM_ap, cNop_ap, cBreak_ap, cCont_ap, cSeq_ap, cExpr_ap, cSet_ap, cRet_ap, cRetN_ap, cIf_ap, cAsg_ap, cPar2_ap, cPar3_ap, bYes_ap, eCall_ap, oNone_ap, oSome_ap, eSl_ap, cFor_ap, eMtL_ap, aKw_ap, gNm_ap, gTp2, gTp3, gSb_ap, Out.bind, Out.ofO, exq, fin, callE_ap, List.getElem?_cons_succ, List.getElem?_cons_zero, List.set_cons_succ, List.set_cons_zero, List.map_cons, List.map_nil, List.replicate, List.cons_append, List.nil_append, List.length_cons, List.length_nil, Bool.not_true, Bool.not_false, if_true, if_false, ite_true, ite_false, reduceIte, Bool.false_eq_true, Bool.true_eq_false, Nat.reduceAdd, unD, Option.map_some, Nat.zero_le, sz1, sz2, sz3, sz4, sz5, sz6, sz7, sz8, sz9, sz10, sz11, sz12, sz13, sz14, sz15, sz16, Nat.reduceSub, Nat.reduceLeDiff, reduceCtorEq, Bool.and_true, Bool.true_and, Bool.and_false, Bool.false_and, Bool.or_true, Bool.or_false, Bool.true_or, Bool.false_or, callP_d is_row_ok]
  cases x <;> try (simp only [eVar_ap, eK_ap, aNil_ap, aCons_ap, eOp2_ap, eOp1_ap, eChain_ap, bOf_ap, bNot_ap, bAnd_ap, bOr_ap, eAnd_ap, eOr_ap, eNot_ap, eIf_ap, eTup_ap, eLst_ap, eLstM_ap, cNop_ap, cBreak_ap, cCont_ap, cSeq_ap, cExpr_ap, cSet_ap, cRet_ap, cRetN_ap, cIf_ap, cAsg_ap, cPar2_ap, cPar3_ap, bYes_ap, eCall_ap, oNone_ap, oSome_ap, eSl_ap, cFor_ap, eMtL_ap, aKw_ap, gNm_ap, gTp2, gTp3, gSb_ap, Out.bind, Out.ofO, exq, fin, callE_ap, List.getElem?_cons_succ, List.getElem?_cons_zero, List.set_cons_succ, List.set_cons_zero, List.map_cons, List.map_nil, List.replicate, List.cons_append, List.nil_append, List.length_cons, List.length_nil, Bool.not_true, Bool.not_false, if_true, if_false, ite_true, ite_false, reduceIte, Bool.false_eq_true, Bool.true_eq_false, Nat.reduceAdd, unD, Option.map_some, Nat.zero_le, sz1, sz2, sz3, sz4, sz5, sz6, sz7, sz8, sz9, sz10, sz11, sz12, sz13, sz14, sz15, sz16, Nat.reduceSub, Nat.reduceLeDiff, reduceCtorEq, Bool.and_true, Bool.true_and, Bool.and_false, Bool.false_and, Bool.or_true, Bool.or_false, Bool.true_or, Bool.false_or, show ∀ b, rowOk (.bool b) 3 3 = false from fun _ => rfl, show ∀ b, rowOk (.int b) 3 3 = false from fun _ => rfl, show ∀ b, rowOk (.str b) 3 3 = false from fun _ => rfl, show ∀ b, rowOk (.list b) 3 3 = false from fun _ => rfl, show ∀ b, rowOk (.dict b) 3 3 = false from fun _ => rfl, show rowOk .none 3 3 = false from rfl]; rfl)
  rename_i ks
  have hs := sm_tup.1 hx
  have r3 : rowOk (.tuple ks) 3 3 = decide (ks.length = 3) := rowOk_n (n := 3)
  rcases ks with _ | ⟨f, _ | ⟨w, _ | ⟨m, _ | ⟨z, r⟩⟩⟩⟩
  · simp only [eVar_ap, eK_ap, aNil_ap, aCons_ap, eOp2_ap, eOp1_ap, eChain_ap, bOf_ap, bNot_ap, bAnd_ap, bOr_ap, eAnd_ap, eOr_ap, eNot_ap, eIf_ap, eTup_ap, eLst_ap, eLstM_ap, cNop_ap, cBreak_ap, cCont_ap, cSeq_ap, cExpr_ap, cSet_ap, cRet_ap, cRetN_ap, cIf_ap, cAsg_ap, cPar2_ap, cPar3_ap, bYes_ap, eCall_ap, oNone_ap, oSome_ap, eSl_ap, cFor_ap, eMtL_ap, aKw_ap, gNm_ap, gTp2, gTp3, gSb_ap, Out.bind, Out.ofO, exq, fin, callE_ap, List.getElem?_cons_succ, List.getElem?_cons_zero, List.set_cons_succ, List.set_cons_zero, List.map_cons, List.map_nil, List.replicate, List.cons_append, List.nil_append, List.length_cons, List.length_nil, Bool.not_true, Bool.not_false, if_true, if_false, ite_true, ite_false, reduceIte, Bool.false_eq_true, Bool.true_eq_false, Nat.reduceAdd, unD, Option.map_some, Nat.zero_le, sz1, sz2, sz3, sz4, sz5, sz6, sz7, sz8, sz9, sz10, sz11, sz12, sz13, sz14, sz15, sz16, Nat.reduceSub, Nat.reduceLeDiff, reduceCtorEq, Bool.and_true, Bool.true_and, Bool.and_false, Bool.false_and, Bool.or_true, Bool.or_false, Bool.true_or, Bool.false_or, r3, decide_false]; rfl
  · simp only [eVar_ap, eK_ap, aNil_ap, aCons_ap, eOp2_ap, eOp1_ap, eChain_ap, bOf_ap, bNot_ap, bAnd_ap, bOr_ap, eAnd_ap, eOr_ap, eNot_ap, eIf_ap, eTup_ap, eLst_ap, eLstM_ap, cNop_ap, cBreak_ap, cCont_ap, cSeq_ap, cExpr_ap, cSet_ap, cRet_ap, cRetN_ap, cIf_ap, cAsg_ap, cPar2_ap, cPar3_ap, bYes_ap, eCall_ap, oNone_ap, oSome_ap, eSl_ap, cFor_ap, eMtL_ap, aKw_ap, gNm_ap, gTp2, gTp3, gSb_ap, Out.bind, Out.ofO, exq, fin, callE_ap, List.getElem?_cons_succ, List.getElem?_cons_zero, List.set_cons_succ, List.set_cons_zero, List.map_cons, List.map_nil, List.replicate, List.cons_append, List.nil_append, List.length_cons, List.length_nil, Bool.not_true, Bool.not_false, if_true, if_false, ite_true, ite_false, reduceIte, Bool.false_eq_true, Bool.true_eq_false, Nat.reduceAdd, unD, Option.map_some, Nat.zero_le, sz1, sz2, sz3, sz4, sz5, sz6, sz7, sz8, sz9, sz10, sz11, sz12, sz13, sz14, sz15, sz16, Nat.reduceSub, Nat.reduceLeDiff, reduceCtorEq, Bool.and_true, Bool.true_and, Bool.and_false, Bool.false_and, Bool.or_true, Bool.or_false, Bool.true_or, Bool.false_or, r3, decide_false]; rfl
  · simp only [eVar_ap, eK_ap, aNil_ap, aCons_ap, eOp2_ap, eOp1_ap, eChain_ap, bOf_ap, bNot_ap, bAnd_ap, bOr_ap, eAnd_ap, eOr_ap, eNot_ap, eIf_ap, eTup_ap, eLst_ap, eLstM_ap, cNop_ap, cBreak_ap, cCont_ap, cSeq_ap, cExpr_ap, cSet_ap, cRet_ap, cRetN_ap, cIf_ap, cAsg_ap, cPar2_ap, cPar3_ap, bYes_ap, eCall_ap, oNone_ap, oSome_ap, eSl_ap, cFor_ap, eMtL_ap, aKw_ap, gNm_ap, gTp2, gTp3, gSb_ap, Out.bind, Out.ofO, exq, fin, callE_ap, List.getElem?_cons_succ, List.getElem?_cons_zero, List.set_cons_succ, List.set_cons_zero, List.map_cons, List.map_nil, List.replicate, List.cons_append, List.nil_append, List.length_cons, List.length_nil, Bool.not_true, Bool.not_false, if_true, if_false, ite_true, ite_false, reduceIte, Bool.false_eq_true, Bool.true_eq_false, Nat.reduceAdd, unD, Option.map_some, Nat.zero_le, sz1, sz2, sz3, sz4, sz5, sz6, sz7, sz8, sz9, sz10, sz11, sz12, sz13, sz14, sz15, sz16, Nat.reduceSub, Nat.reduceLeDiff, reduceCtorEq, Bool.and_true, Bool.true_and, Bool.and_false, Bool.false_and, Bool.or_true, Bool.or_false, Bool.true_or, Bool.false_or, r3, decide_false]; rfl
  · have hf := hs.2 f (by simp)
    have hw := hs.2 w (by simp)
    have hm := hs.2 m (by simp)
    simp only [eVar_ap, eK_ap, aNil_ap, aCons_ap, eOp2_ap, eOp1_ap, eChain_ap, bOf_ap, bNot_ap, bAnd_ap, bOr_ap, eAnd_ap, eOr_ap, eNot_ap, eIf_ap, eTup_ap, eLst_ap, eLstM_ap, cNop_ap, cBreak_ap, cCont_ap, cSeq_ap, cExpr_ap, cSet_ap, cRet_ap, cRetN_ap, cIf_ap, cAsg_ap, cPar2_ap, cPar3_ap, bYes_ap, eCall_ap, oNone_ap, oSome_ap, eSl_ap, cFor_ap, eMtL_ap, aKw_ap, gNm_ap, gTp2, gTp3, gSb_ap, Out.bind, Out.ofO, exq, fin, callE_ap, List.getElem?_cons_succ, List.getElem?_cons_zero, List.set_cons_succ, List.set_cons_zero, List.map_cons, List.map_nil, List.replicate, List.cons_append, List.nil_append, List.length_cons, List.length_nil, Bool.not_true, Bool.not_false, if_true, if_false, ite_true, ite_false, reduceIte, Bool.false_eq_true, Bool.true_eq_false, Nat.reduceAdd, unD, Option.map_some, Nat.zero_le, sz1, sz2, sz3, sz4, sz5, sz6, sz7, sz8, sz9, sz10, sz11, sz12, sz13, sz14, sz15, sz16, Nat.reduceSub, Nat.reduceLeDiff, reduceCtorEq, Bool.and_true, Bool.true_and, Bool.and_false, Bool.false_and, Bool.or_true, Bool.or_false, Bool.true_or, Bool.false_or, r3, decide_true, opIx_tup (xs := [f, w, m]) (i := 0) (d := f) rfl, callP_d (facts_ok hf), tblA]
    cases h : fOk f <;> try simp only [eVar_ap, eK_ap, aNil_ap, aCons_ap, eOp2_ap, eOp1_ap, eChain_ap, bOf_ap, bNot_ap, bAnd_ap, bOr_ap, eAnd_ap, eOr_ap, eNot_ap, eIf_ap, eTup_ap, eLst_ap, eLstM_ap, cNop_ap, cBreak_ap, cCont_ap, cSeq_ap, cExpr_ap, cSet_ap, cRet_ap, cRetN_ap, cIf_ap, cAsg_ap, cPar2_ap, cPar3_ap, bYes_ap, eCall_ap, oNone_ap, oSome_ap, eSl_ap, cFor_ap, eMtL_ap, aKw_ap, gNm_ap, gTp2, gTp3, gSb_ap, Out.bind, Out.ofO, exq, fin, callE_ap, List.getElem?_cons_succ, List.getElem?_cons_zero, List.set_cons_succ, List.set_cons_zero, List.map_cons, List.map_nil, List.replicate, List.cons_append, List.nil_append, List.length_cons, List.length_nil, Bool.not_true, Bool.not_false, if_true, if_false, ite_true, ite_false, reduceIte, Bool.false_eq_true, Bool.true_eq_false, Nat.reduceAdd, unD, Option.map_some, Nat.zero_le, sz1, sz2, sz3, sz4, sz5, sz6, sz7, sz8, sz9, sz10, sz11, sz12, sz13, sz14, sz15, sz16, Nat.reduceSub, Nat.reduceLeDiff, reduceCtorEq, Bool.and_true, Bool.true_and, Bool.and_false, Bool.false_and, Bool.or_true, Bool.or_false, Bool.true_or, Bool.false_or]
    obtain ⟨fs, rfl⟩ := fOk_tup h
    simp only [eVar_ap, eK_ap, aNil_ap, aCons_ap, eOp2_ap, eOp1_ap, eChain_ap, bOf_ap, bNot_ap, bAnd_ap, bOr_ap, eAnd_ap, eOr_ap, eNot_ap, eIf_ap, eTup_ap, eLst_ap, eLstM_ap, cNop_ap, cBreak_ap, cCont_ap, cSeq_ap, cExpr_ap, cSet_ap, cRet_ap, cRetN_ap, cIf_ap, cAsg_ap, cPar2_ap, cPar3_ap, bYes_ap, eCall_ap, oNone_ap, oSome_ap, eSl_ap, cFor_ap, eMtL_ap, aKw_ap, gNm_ap, gTp2, gTp3, gSb_ap, Out.bind, Out.ofO, exq, fin, callE_ap, List.getElem?_cons_succ, List.getElem?_cons_zero, List.set_cons_succ, List.set_cons_zero, List.map_cons, List.map_nil, List.replicate, List.cons_append, List.nil_append, List.length_cons, List.length_nil, Bool.not_true, Bool.not_false, if_true, if_false, ite_true, ite_false, reduceIte, Bool.false_eq_true, Bool.true_eq_false, Nat.reduceAdd, unD, Option.map_some, Nat.zero_le, sz1, sz2, sz3, sz4, sz5, sz6, sz7, sz8, sz9, sz10, sz11, sz12, sz13, sz14, sz15, sz16, Nat.reduceSub, Nat.reduceLeDiff, reduceCtorEq, Bool.and_true, Bool.true_and, Bool.and_false, Bool.false_and, Bool.or_true, Bool.or_false, Bool.true_or, Bool.false_or, opIsi_d, isiTup, unD, Option.map_some, mkTup, szD]
    cases w <;> simp only [isT, wOk] <;> try simp only [eVar_ap, eK_ap, aNil_ap, aCons_ap, eOp2_ap, eOp1_ap, eChain_ap, bOf_ap, bNot_ap, bAnd_ap, bOr_ap, eAnd_ap, eOr_ap, eNot_ap, eIf_ap, eTup_ap, eLst_ap, eLstM_ap, cNop_ap, cBreak_ap, cCont_ap, cSeq_ap, cExpr_ap, cSet_ap, cRet_ap, cRetN_ap, cIf_ap, cAsg_ap, cPar2_ap, cPar3_ap, bYes_ap, eCall_ap, oNone_ap, oSome_ap, eSl_ap, cFor_ap, eMtL_ap, aKw_ap, gNm_ap, gTp2, gTp3, gSb_ap, Out.bind, Out.ofO, exq, fin, callE_ap, List.getElem?_cons_succ, List.getElem?_cons_zero, List.set_cons_succ, List.set_cons_zero, List.map_cons, List.map_nil, List.replicate, List.cons_append, List.nil_append, List.length_cons, List.length_nil, Bool.not_true, Bool.not_false, if_true, if_false, ite_true, ite_false, reduceIte, Bool.false_eq_true, Bool.true_eq_false, Nat.reduceAdd, unD, Option.map_some, Nat.zero_le, sz1, sz2, sz3, sz4, sz5, sz6, sz7, sz8, sz9, sz10, sz11, sz12, sz13, sz14, sz15, sz16, Nat.reduceSub, Nat.reduceLeDiff, reduceCtorEq, Bool.and_true, Bool.true_and, Bool.and_false, Bool.false_and, Bool.or_true, Bool.or_false, Bool.true_or, Bool.false_or]
    rename_i ws
    have hw := sm_tup.1 hw
    simp only [eVar_ap, eK_ap, aNil_ap, aCons_ap, eOp2_ap, eOp1_ap, eChain_ap, bOf_ap, bNot_ap, bAnd_ap, bOr_ap, eAnd_ap, eOr_ap, eNot_ap, eIf_ap, eTup_ap, eLst_ap, eLstM_ap, cNop_ap, cBreak_ap, cCont_ap, cSeq_ap, cExpr_ap, cSet_ap, cRet_ap, cRetN_ap, cIf_ap, cAsg_ap, cPar2_ap, cPar3_ap, bYes_ap, eCall_ap, oNone_ap, oSome_ap, eSl_ap, cFor_ap, eMtL_ap, aKw_ap, gNm_ap, gTp2, gTp3, gSb_ap, Out.bind, Out.ofO, exq, fin, callE_ap, List.getElem?_cons_succ, List.getElem?_cons_zero, List.set_cons_succ, List.set_cons_zero, List.map_cons, List.map_nil, List.replicate, List.cons_append, List.nil_append, List.length_cons, List.length_nil, Bool.not_true, Bool.not_false, if_true, if_false, ite_true, ite_false, reduceIte, Bool.false_eq_true, Bool.true_eq_false, Nat.reduceAdd, unD, Option.map_some, Nat.zero_le, sz1, sz2, sz3, sz4, sz5, sz6, sz7, sz8, sz9, sz10, sz11, sz12, sz13, sz14, sz15, sz16, Nat.reduceSub, Nat.reduceLeDiff, reduceCtorEq, Bool.and_true, Bool.true_and, Bool.and_false, Bool.false_and, Bool.or_true, Bool.or_false, Bool.true_or, Bool.false_or, opEq_sh (x := .tuple ws) (y := .tuple []) (n := n + 2) (m := 1) (sm_tup.2 hw) rfl (by omega), eqv_tnil, unD, Option.map_some]
    cases h2 : ws.isEmpty <;> try simp only [eVar_ap, eK_ap, aNil_ap, aCons_ap, eOp2_ap, eOp1_ap, eChain_ap, bOf_ap, bNot_ap, bAnd_ap, bOr_ap, eAnd_ap, eOr_ap, eNot_ap, eIf_ap, eTup_ap, eLst_ap, eLstM_ap, cNop_ap, cBreak_ap, cCont_ap, cSeq_ap, cExpr_ap, cSet_ap, cRet_ap, cRetN_ap, cIf_ap, cAsg_ap, cPar2_ap, cPar3_ap, bYes_ap, eCall_ap, oNone_ap, oSome_ap, eSl_ap, cFor_ap, eMtL_ap, aKw_ap, gNm_ap, gTp2, gTp3, gSb_ap, Out.bind, Out.ofO, exq, fin, callE_ap, List.getElem?_cons_succ, List.getElem?_cons_zero, List.set_cons_succ, List.set_cons_zero, List.map_cons, List.map_nil, List.replicate, List.cons_append, List.nil_append, List.length_cons, List.length_nil, Bool.not_true, Bool.not_false, if_true, if_false, ite_true, ite_false, reduceIte, Bool.false_eq_true, Bool.true_eq_false, Nat.reduceAdd, unD, Option.map_some, Nat.zero_le, sz1, sz2, sz3, sz4, sz5, sz6, sz7, sz8, sz9, sz10, sz11, sz12, sz13, sz14, sz15, sz16, Nat.reduceSub, Nat.reduceLeDiff, reduceCtorEq, Bool.and_true, Bool.true_and, Bool.and_false, Bool.false_and, Bool.or_true, Bool.or_false, Bool.true_or, Bool.false_or]
    rw [eLc_y ws W.d (fun x => .bool (ixOk x fs.length)) (grd := fun _ => True) (iSq_tup rfl) trivial (len_le hw.1) fun x hx => ⟨_, rfl, by simp only [eVar_ap, eK_ap, aNil_ap, aCons_ap, eOp2_ap, eOp1_ap, eChain_ap, bOf_ap, bNot_ap, bAnd_ap, bOr_ap, eAnd_ap, eOr_ap, eNot_ap, eIf_ap, eTup_ap, eLst_ap, eLstM_ap, cNop_ap, cBreak_ap, cCont_ap, cSeq_ap, cExpr_ap, cSet_ap, cRet_ap, cRetN_ap, cIf_ap, cAsg_ap, cPar2_ap, cPar3_ap, bYes_ap, eCall_ap, oNone_ap, oSome_ap, eSl_ap, cFor_ap, eMtL_ap, aKw_ap, gNm_ap, gTp2, gTp3, gSb_ap, Out.bind, Out.ofO, exq, fin, callE_ap, List.getElem?_cons_succ, List.getElem?_cons_zero, List.set_cons_succ, List.set_cons_zero, List.map_cons, List.map_nil, List.replicate, List.cons_append, List.nil_append, List.length_cons, List.length_nil, Bool.not_true, Bool.not_false, if_true, if_false, ite_true, ite_false, reduceIte, Bool.false_eq_true, Bool.true_eq_false, Nat.reduceAdd, unD, Option.map_some, Nat.zero_le, sz1, sz2, sz3, sz4, sz5, sz6, sz7, sz8, sz9, sz10, sz11, sz12, sz13, sz14, sz15, sz16, Nat.reduceSub, Nat.reduceLeDiff, reduceCtorEq, Bool.and_true, Bool.true_and, Bool.and_false, Bool.false_and, Bool.or_true, Bool.or_false, Bool.true_or, Bool.false_or, wipeR, bLen_tup, callP_d (ixs_ok (hw.2 x hx))]⟩]
    simp only [eVar_ap, eK_ap, aNil_ap, aCons_ap, eOp2_ap, eOp1_ap, eChain_ap, bOf_ap, bNot_ap, bAnd_ap, bOr_ap, eAnd_ap, eOr_ap, eNot_ap, eIf_ap, eTup_ap, eLst_ap, eLstM_ap, cNop_ap, cBreak_ap, cCont_ap, cSeq_ap, cExpr_ap, cSet_ap, cRet_ap, cRetN_ap, cIf_ap, cAsg_ap, cPar2_ap, cPar3_ap, bYes_ap, eCall_ap, oNone_ap, oSome_ap, eSl_ap, cFor_ap, eMtL_ap, aKw_ap, gNm_ap, gTp2, gTp3, gSb_ap, Out.bind, Out.ofO, exq, fin, callE_ap, List.getElem?_cons_succ, List.getElem?_cons_zero, List.set_cons_succ, List.set_cons_zero, List.map_cons, List.map_nil, List.replicate, List.cons_append, List.nil_append, List.length_cons, List.length_nil, Bool.not_true, Bool.not_false, if_true, if_false, ite_true, ite_false, reduceIte, Bool.false_eq_true, Bool.true_eq_false, Nat.reduceAdd, unD, Option.map_some, Nat.zero_le, sz1, sz2, sz3, sz4, sz5, sz6, sz7, sz8, sz9, sz10, sz11, sz12, sz13, sz14, sz15, sz16, Nat.reduceSub, Nat.reduceLeDiff, reduceCtorEq, Bool.and_true, Bool.true_and, Bool.and_false, Bool.false_and, Bool.or_true, Bool.or_false, Bool.true_or, Bool.false_or, bAll_map]
    cases h3 : ws.all (fun x => ixOk x fs.length) <;> try simp only [eVar_ap, eK_ap, aNil_ap, aCons_ap, eOp2_ap, eOp1_ap, eChain_ap, bOf_ap, bNot_ap, bAnd_ap, bOr_ap, eAnd_ap, eOr_ap, eNot_ap, eIf_ap, eTup_ap, eLst_ap, eLstM_ap, cNop_ap, cBreak_ap, cCont_ap, cSeq_ap, cExpr_ap, cSet_ap, cRet_ap, cRetN_ap, cIf_ap, cAsg_ap, cPar2_ap, cPar3_ap, bYes_ap, eCall_ap, oNone_ap, oSome_ap, eSl_ap, cFor_ap, eMtL_ap, aKw_ap, gNm_ap, gTp2, gTp3, gSb_ap, Out.bind, Out.ofO, exq, fin, callE_ap, List.getElem?_cons_succ, List.getElem?_cons_zero, List.set_cons_succ, List.set_cons_zero, List.map_cons, List.map_nil, List.replicate, List.cons_append, List.nil_append, List.length_cons, List.length_nil, Bool.not_true, Bool.not_false, if_true, if_false, ite_true, ite_false, reduceIte, Bool.false_eq_true, Bool.true_eq_false, Nat.reduceAdd, unD, Option.map_some, Nat.zero_le, sz1, sz2, sz3, sz4, sz5, sz6, sz7, sz8, sz9, sz10, sz11, sz12, sz13, sz14, sz15, sz16, Nat.reduceSub, Nat.reduceLeDiff, reduceCtorEq, Bool.and_true, Bool.true_and, Bool.and_false, Bool.false_and, Bool.or_true, Bool.or_false, Bool.true_or, Bool.false_or]
    simp only [eVar_ap, eK_ap, aNil_ap, aCons_ap, eOp2_ap, eOp1_ap, eChain_ap, bOf_ap, bNot_ap, bAnd_ap, bOr_ap, eAnd_ap, eOr_ap, eNot_ap, eIf_ap, eTup_ap, eLst_ap, eLstM_ap, cNop_ap, cBreak_ap, cCont_ap, cSeq_ap, cExpr_ap, cSet_ap, cRet_ap, cRetN_ap, cIf_ap, cAsg_ap, cPar2_ap, cPar3_ap, bYes_ap, eCall_ap, oNone_ap, oSome_ap, eSl_ap, cFor_ap, eMtL_ap, aKw_ap, gNm_ap, gTp2, gTp3, gSb_ap, Out.bind, Out.ofO, exq, fin, callE_ap, List.getElem?_cons_succ, List.getElem?_cons_zero, List.set_cons_succ, List.set_cons_zero, List.map_cons, List.map_nil, List.replicate, List.cons_append, List.nil_append, List.length_cons, List.length_nil, Bool.not_true, Bool.not_false, if_true, if_false, ite_true, ite_false, reduceIte, Bool.false_eq_true, Bool.true_eq_false, Nat.reduceAdd, unD, Option.map_some, Nat.zero_le, sz1, sz2, sz3, sz4, sz5, sz6, sz7, sz8, sz9, sz10, sz11, sz12, sz13, sz14, sz15, sz16, Nat.reduceSub, Nat.reduceLeDiff, reduceCtorEq, Bool.and_true, Bool.true_and, Bool.and_false, Bool.false_and, Bool.or_true, Bool.or_false, Bool.true_or, Bool.false_or, opIsi_d, isiTup]
    cases m <;> simp only [isT, mOk] <;> try simp only [eVar_ap, eK_ap, aNil_ap, aCons_ap, eOp2_ap, eOp1_ap, eChain_ap, bOf_ap, bNot_ap, bAnd_ap, bOr_ap, eAnd_ap, eOr_ap, eNot_ap, eIf_ap, eTup_ap, eLst_ap, eLstM_ap, cNop_ap, cBreak_ap, cCont_ap, cSeq_ap, cExpr_ap, cSet_ap, cRet_ap, cRetN_ap, cIf_ap, cAsg_ap, cPar2_ap, cPar3_ap, bYes_ap, eCall_ap, oNone_ap, oSome_ap, eSl_ap, cFor_ap, eMtL_ap, aKw_ap, gNm_ap, gTp2, gTp3, gSb_ap, Out.bind, Out.ofO, exq, fin, callE_ap, List.getElem?_cons_succ, List.getElem?_cons_zero, List.set_cons_succ, List.set_cons_zero, List.map_cons, List.map_nil, List.replicate, List.cons_append, List.nil_append, List.length_cons, List.length_nil, Bool.not_true, Bool.not_false, if_true, if_false, ite_true, ite_false, reduceIte, Bool.false_eq_true, Bool.true_eq_false, Nat.reduceAdd, unD, Option.map_some, Nat.zero_le, sz1, sz2, sz3, sz4, sz5, sz6, sz7, sz8, sz9, sz10, sz11, sz12, sz13, sz14, sz15, sz16, Nat.reduceSub, Nat.reduceLeDiff, reduceCtorEq, Bool.and_true, Bool.true_and, Bool.and_false, Bool.false_and, Bool.or_true, Bool.or_false, Bool.true_or, Bool.false_or]
    rename_i ms
    have hm := sm_tup.1 hm
    simp only [eVar_ap, eK_ap, aNil_ap, aCons_ap, eOp2_ap, eOp1_ap, eChain_ap, bOf_ap, bNot_ap, bAnd_ap, bOr_ap, eAnd_ap, eOr_ap, eNot_ap, eIf_ap, eTup_ap, eLst_ap, eLstM_ap, cNop_ap, cBreak_ap, cCont_ap, cSeq_ap, cExpr_ap, cSet_ap, cRet_ap, cRetN_ap, cIf_ap, cAsg_ap, cPar2_ap, cPar3_ap, bYes_ap, eCall_ap, oNone_ap, oSome_ap, eSl_ap, cFor_ap, eMtL_ap, aKw_ap, gNm_ap, gTp2, gTp3, gSb_ap, Out.bind, Out.ofO, exq, fin, callE_ap, List.getElem?_cons_succ, List.getElem?_cons_zero, List.set_cons_succ, List.set_cons_zero, List.map_cons, List.map_nil, List.replicate, List.cons_append, List.nil_append, List.length_cons, List.length_nil, Bool.not_true, Bool.not_false, if_true, if_false, ite_true, ite_false, reduceIte, Bool.false_eq_true, Bool.true_eq_false, Nat.reduceAdd, unD, Option.map_some, Nat.zero_le, sz1, sz2, sz3, sz4, sz5, sz6, sz7, sz8, sz9, sz10, sz11, sz12, sz13, sz14, sz15, sz16, Nat.reduceSub, Nat.reduceLeDiff, reduceCtorEq, Bool.and_true, Bool.true_and, Bool.and_false, Bool.false_and, Bool.or_true, Bool.or_false, Bool.true_or, Bool.false_or, opNe_sh (x := .tuple ms) (y := .tuple []) (n := n + 2) (m := 1) (sm_tup.2 hm) rfl (by omega), eqv_tnil, unD, Option.map_some]
    cases h4 : ms.isEmpty <;> try simp only [eVar_ap, eK_ap, aNil_ap, aCons_ap, eOp2_ap, eOp1_ap, eChain_ap, bOf_ap, bNot_ap, bAnd_ap, bOr_ap, eAnd_ap, eOr_ap, eNot_ap, eIf_ap, eTup_ap, eLst_ap, eLstM_ap, cNop_ap, cBreak_ap, cCont_ap, cSeq_ap, cExpr_ap, cSet_ap, cRet_ap, cRetN_ap, cIf_ap, cAsg_ap, cPar2_ap, cPar3_ap, bYes_ap, eCall_ap, oNone_ap, oSome_ap, eSl_ap, cFor_ap, eMtL_ap, aKw_ap, gNm_ap, gTp2, gTp3, gSb_ap, Out.bind, Out.ofO, exq, fin, callE_ap, List.getElem?_cons_succ, List.getElem?_cons_zero, List.set_cons_succ, List.set_cons_zero, List.map_cons, List.map_nil, List.replicate, List.cons_append, List.nil_append, List.length_cons, List.length_nil, Bool.not_true, Bool.not_false, if_true, if_false, ite_true, ite_false, reduceIte, Bool.false_eq_true, Bool.true_eq_false, Nat.reduceAdd, unD, Option.map_some, Nat.zero_le, sz1, sz2, sz3, sz4, sz5, sz6, sz7, sz8, sz9, sz10, sz11, sz12, sz13, sz14, sz15, sz16, Nat.reduceSub, Nat.reduceLeDiff, reduceCtorEq, Bool.and_true, Bool.true_and, Bool.and_false, Bool.false_and, Bool.or_true, Bool.or_false, Bool.true_or, Bool.false_or]
    rw [eLc_y ms W.d (fun x => .bool (mtOk x ws.length)) (grd := fun _ => True) (iSq_tup rfl) trivial (len_le hm.1) fun x hx => ⟨_, rfl, by simp only [eVar_ap, eK_ap, aNil_ap, aCons_ap, eOp2_ap, eOp1_ap, eChain_ap, bOf_ap, bNot_ap, bAnd_ap, bOr_ap, eAnd_ap, eOr_ap, eNot_ap, eIf_ap, eTup_ap, eLst_ap, eLstM_ap, cNop_ap, cBreak_ap, cCont_ap, cSeq_ap, cExpr_ap, cSet_ap, cRet_ap, cRetN_ap, cIf_ap, cAsg_ap, cPar2_ap, cPar3_ap, bYes_ap, eCall_ap, oNone_ap, oSome_ap, eSl_ap, cFor_ap, eMtL_ap, aKw_ap, gNm_ap, gTp2, gTp3, gSb_ap, Out.bind, Out.ofO, exq, fin, callE_ap, List.getElem?_cons_succ, List.getElem?_cons_zero, List.set_cons_succ, List.set_cons_zero, List.map_cons, List.map_nil, List.replicate, List.cons_append, List.nil_append, List.length_cons, List.length_nil, Bool.not_true, Bool.not_false, if_true, if_false, ite_true, ite_false, reduceIte, Bool.false_eq_true, Bool.true_eq_false, Nat.reduceAdd, unD, Option.map_some, Nat.zero_le, sz1, sz2, sz3, sz4, sz5, sz6, sz7, sz8, sz9, sz10, sz11, sz12, sz13, sz14, sz15, sz16, Nat.reduceSub, Nat.reduceLeDiff, reduceCtorEq, Bool.and_true, Bool.true_and, Bool.and_false, Bool.false_and, Bool.or_true, Bool.or_false, Bool.true_or, Bool.false_or, wipeR, bLen_tup, callP_d (mates_ok (hm.2 x hx) hw.1)]⟩]
    simp only [eVar_ap, eK_ap, aNil_ap, aCons_ap, eOp2_ap, eOp1_ap, eChain_ap, bOf_ap, bNot_ap, bAnd_ap, bOr_ap, eAnd_ap, eOr_ap, eNot_ap, eIf_ap, eTup_ap, eLst_ap, eLstM_ap, cNop_ap, cBreak_ap, cCont_ap, cSeq_ap, cExpr_ap, cSet_ap, cRet_ap, cRetN_ap, cIf_ap, cAsg_ap, cPar2_ap, cPar3_ap, bYes_ap, eCall_ap, oNone_ap, oSome_ap, eSl_ap, cFor_ap, eMtL_ap, aKw_ap, gNm_ap, gTp2, gTp3, gSb_ap, Out.bind, Out.ofO, exq, fin, callE_ap, List.getElem?_cons_succ, List.getElem?_cons_zero, List.set_cons_succ, List.set_cons_zero, List.map_cons, List.map_nil, List.replicate, List.cons_append, List.nil_append, List.length_cons, List.length_nil, Bool.not_true, Bool.not_false, if_true, if_false, ite_true, ite_false, reduceIte, Bool.false_eq_true, Bool.true_eq_false, Nat.reduceAdd, unD, Option.map_some, Nat.zero_le, sz1, sz2, sz3, sz4, sz5, sz6, sz7, sz8, sz9, sz10, sz11, sz12, sz13, sz14, sz15, sz16, Nat.reduceSub, Nat.reduceLeDiff, reduceCtorEq, Bool.and_true, Bool.true_and, Bool.and_false, Bool.false_and, Bool.or_true, Bool.or_false, Bool.true_or, Bool.false_or, bAll_map]
  · simp only [eVar_ap, eK_ap, aNil_ap, aCons_ap, eOp2_ap, eOp1_ap, eChain_ap, bOf_ap, bNot_ap, bAnd_ap, bOr_ap, eAnd_ap, eOr_ap, eNot_ap, eIf_ap, eTup_ap, eLst_ap, eLstM_ap, cNop_ap, cBreak_ap, cCont_ap, cSeq_ap, cExpr_ap, cSet_ap, cRet_ap, cRetN_ap, cIf_ap, cAsg_ap, cPar2_ap, cPar3_ap, bYes_ap, eCall_ap, oNone_ap, oSome_ap, eSl_ap, cFor_ap, eMtL_ap, aKw_ap, gNm_ap, gTp2, gTp3, gSb_ap, Out.bind, Out.ofO, exq, fin, callE_ap, List.getElem?_cons_succ, List.getElem?_cons_zero, List.set_cons_succ, List.set_cons_zero, List.map_cons, List.map_nil, List.replicate, List.cons_append, List.nil_append, List.length_cons, List.length_nil, Bool.not_true, Bool.not_false, if_true, if_false, ite_true, ite_false, reduceIte, Bool.false_eq_true, Bool.true_eq_false, Nat.reduceAdd, unD, Option.map_some, Nat.zero_le, sz1, sz2, sz3, sz4, sz5, sz6, sz7, sz8, sz9, sz10, sz11, sz12, sz13, sz14, sz15, sz16, Nat.reduceSub, Nat.reduceLeDiff, reduceCtorEq, Bool.and_true, Bool.true_and, Bool.and_false, Bool.false_and, Bool.or_true, Bool.or_false, Bool.true_or, Bool.false_or, r3, show decide (r.length + 1 + 1 + 1 + 1 = 3) = false from decide_eq_false (by omega)]; rfl
theorem tbl_eq : tbl x = (tblA x && match x with | .tuple [f, w, m] => decide (szD f ≤ 6) && (decide (szD w ≤ 16) && decide (szD m ≤ 4)) | _ => false) := by
  unfold tbl tblA
  split <;> simp
theorem tbl_ok {n : Nat} (hx : sm (n + 3) x = true) (hn : n ≤ 60) : m_is_table [.d x] S = .ok (.d (.bool (tbl x))) S := by
  unfold m_is_table defM b_is_table
  rw [tbl_eq]
  simp only [eVar_ap, eK_ap, aNil_ap, aCons_ap, eOp2_ap, eOp1_ap, eChain_ap, bOf_ap, bNot_ap, bAnd_ap, bOr_ap, eAnd_ap, eOr_ap, eNot_ap, eIf_ap, eTup_ap, eLst_ap, eLstM_ap, cNop_ap, cBreak_ap, cCont_ap, cSeq_ap, cExpr_ap, cSet_ap, cRet_ap, cRetN_ap, cIf_ap, cAsg_ap, cPar2_ap, cPar3_ap, bYes_ap, eCall_ap, oNone_ap, oSome_ap, eSl_ap, cFor_ap, eMtL_ap, aKw_ap, gNm_ap, gTp2, gTp3, gSb_ap, Out.bind, Out.ofO, exq, fin, callE_ap, List.getElem?_cons_succ, List.getElem?_cons_zero, List.set_cons_succ, List.set_cons_zero, List.map_cons, List.map_nil, List.replicate, List.cons_append, List.nil_append, List.length_cons, List.length_nil, Bool.not_true, Bool.not_false, if_true, if_false, ite_true, ite_false, reduceIte, Bool.false_eq_true, Bool.true_eq_false, Nat.reduceAdd, unD, Option.map_some, Nat.zero_le, sz1, sz2, sz3, sz4, sz5, sz6, sz7, sz8, sz9, sz10, sz11, sz12, sz13, sz14, sz15, sz16, Nat.reduceSub, Nat.reduceLeDiff, reduceCtorEq, Bool.and_true, Bool.true_and, Bool.and_false, Bool.false_and, Bool.or_true, Bool.or_false, Bool.true_or, Bool.false_or, callP_d (any_ok hx hn)]
  cases h : tblA x <;> try simp only [eVar_ap, eK_ap, aNil_ap, aCons_ap, eOp2_ap, eOp1_ap, eChain_ap, bOf_ap, bNot_ap, bAnd_ap, bOr_ap, eAnd_ap, eOr_ap, eNot_ap, eIf_ap, eTup_ap, eLst_ap, eLstM_ap, cNop_ap, cBreak_ap, cCont_ap, cSeq_ap, cExpr_ap, cSet_ap, cRet_ap, cRetN_ap, cIf_ap, cAsg_ap, cPar2_ap, cPar3_ap, bYes_ap, eCall_ap, oNone_ap, oSome_ap, eSl_ap, cFor_ap, eMtL_ap, aKw_ap, gNm_ap, gTp2, gTp3, gSb_ap, Out.bind, Out.ofO, exq, fin, callE_ap, List.getElem?_cons_succ, List.getElem?_cons_zero, List.set_cons_succ, List.set_cons_zero, List.map_cons, List.map_nil, List.replicate, List.cons_append, List.nil_append, List.length_cons, List.length_nil, Bool.not_true, Bool.not_false, if_true, if_false, ite_true, ite_false, reduceIte, Bool.false_eq_true, Bool.true_eq_false, Nat.reduceAdd, unD, Option.map_some, Nat.zero_le, sz1, sz2, sz3, sz4, sz5, sz6, sz7, sz8, sz9, sz10, sz11, sz12, sz13, sz14, sz15, sz16, Nat.reduceSub, Nat.reduceLeDiff, reduceCtorEq, Bool.and_true, Bool.true_and, Bool.and_false, Bool.false_and, Bool.or_true, Bool.or_false, Bool.true_or, Bool.false_or]
  unfold tblA at h
  split at h
  · rename_i f w m
    simp only [Bool.and_eq_true] at h
    obtain ⟨fs, rfl⟩ := fOk_tup h.1
    obtain ⟨ws, rfl⟩ := wOk_tup h.2.1
    obtain ⟨ms, rfl⟩ := mOk_tup h.2.2
    simp only [eVar_ap, eK_ap, aNil_ap, aCons_ap, eOp2_ap, eOp1_ap, eChain_ap, bOf_ap, bNot_ap, bAnd_ap, bOr_ap, eAnd_ap, eOr_ap, eNot_ap, eIf_ap, eTup_ap, eLst_ap, eLstM_ap, cNop_ap, cBreak_ap, cCont_ap, cSeq_ap, cExpr_ap, cSet_ap, cRet_ap, cRetN_ap, cIf_ap, cAsg_ap, cPar2_ap, cPar3_ap, bYes_ap, eCall_ap, oNone_ap, oSome_ap, eSl_ap, cFor_ap, eMtL_ap, aKw_ap, gNm_ap, gTp2, gTp3, gSb_ap, Out.bind, Out.ofO, exq, fin, callE_ap, List.getElem?_cons_succ, List.getElem?_cons_zero, List.set_cons_succ, List.set_cons_zero, List.map_cons, List.map_nil, List.replicate, List.cons_append, List.nil_append, List.length_cons, List.length_nil, Bool.not_true, Bool.not_false, if_true, if_false, ite_true, ite_false, reduceIte, Bool.false_eq_true, Bool.true_eq_false, Nat.reduceAdd, unD, Option.map_some, Nat.zero_le, sz1, sz2, sz3, sz4, sz5, sz6, sz7, sz8, sz9, sz10, sz11, sz12, sz13, sz14, sz15, sz16, Nat.reduceSub, Nat.reduceLeDiff, reduceCtorEq, Bool.and_true, Bool.true_and, Bool.and_false, Bool.false_and, Bool.or_true, Bool.or_false, Bool.true_or, Bool.false_or, opIx_tup (xs := [.tuple fs, .tuple ws, .tuple ms]) (i := 0) (d := .tuple fs) rfl, opIx_tup (xs := [.tuple fs, .tuple ws, .tuple ms]) (i := 1) (d := .tuple ws) rfl, opIx_tup (xs := [.tuple fs, .tuple ws, .tuple ms]) (i := 2) (d := .tuple ms) rfl, bLen_tup, opInt_int, szD,
      show decide ((fs.length : Int) ≤ 6) = decide (fs.length ≤ 6) by simp; omega, show decide ((ws.length : Int) ≤ 16) = decide (ws.length ≤ 16) by simp; omega, show decide ((ms.length : Int) ≤ 4) = decide (ms.length ≤ 4) by simp; omega]
    by_cases h1 : fs.length ≤ 6 <;> simp only [eVar_ap, eK_ap, aNil_ap, aCons_ap, eOp2_ap, eOp1_ap, eChain_ap, bOf_ap, bNot_ap, bAnd_ap, bOr_ap, eAnd_ap, eOr_ap, eNot_ap, eIf_ap, eTup_ap, eLst_ap, eLstM_ap, cNop_ap, cBreak_ap, cCont_ap, cSeq_ap, cExpr_ap, cSet_ap, cRet_ap, cRetN_ap, cIf_ap, cAsg_ap, cPar2_ap, cPar3_ap, bYes_ap, eCall_ap, oNone_ap, oSome_ap, eSl_ap, cFor_ap, eMtL_ap, aKw_ap, gNm_ap, gTp2, gTp3, gSb_ap, Out.bind, Out.ofO, exq, fin, callE_ap, List.getElem?_cons_succ, List.getElem?_cons_zero, List.set_cons_succ, List.set_cons_zero, List.map_cons, List.map_nil, List.replicate, List.cons_append, List.nil_append, List.length_cons, List.length_nil, Bool.not_true, Bool.not_false, if_true, if_false, ite_true, ite_false, reduceIte, Bool.false_eq_true, Bool.true_eq_false, Nat.reduceAdd, unD, Option.map_some, Nat.zero_le, sz1, sz2, sz3, sz4, sz5, sz6, sz7, sz8, sz9, sz10, sz11, sz12, sz13, sz14, sz15, sz16, Nat.reduceSub, Nat.reduceLeDiff, reduceCtorEq, Bool.and_true, Bool.true_and, Bool.and_false, Bool.false_and, Bool.or_true, Bool.or_false, Bool.true_or, Bool.false_or, h1, decide_true, decide_false]
    by_cases h2 : ws.length ≤ 16 <;> simp only [eVar_ap, eK_ap, aNil_ap, aCons_ap, eOp2_ap, eOp1_ap, eChain_ap, bOf_ap, bNot_ap, bAnd_ap, bOr_ap, eAnd_ap, eOr_ap, eNot_ap, eIf_ap, eTup_ap, eLst_ap, eLstM_ap, cNop_ap, cBreak_ap, cCont_ap, cSeq_ap, cExpr_ap, cSet_ap, cRet_ap, cRetN_ap, cIf_ap, cAsg_ap, cPar2_ap, cPar3_ap, bYes_ap, eCall_ap, oNone_ap, oSome_ap, eSl_ap, cFor_ap, eMtL_ap, aKw_ap, gNm_ap, gTp2, gTp3, gSb_ap, Out.bind, Out.ofO, exq, fin, callE_ap, List.getElem?_cons_succ, List.getElem?_cons_zero, List.set_cons_succ, List.set_cons_zero, List.map_cons, List.map_nil, List.replicate, List.cons_append, List.nil_append, List.length_cons, List.length_nil, Bool.not_true, Bool.not_false, if_true, if_false, ite_true, ite_false, reduceIte, Bool.false_eq_true, Bool.true_eq_false, Nat.reduceAdd, unD, Option.map_some, Nat.zero_le, sz1, sz2, sz3, sz4, sz5, sz6, sz7, sz8, sz9, sz10, sz11, sz12, sz13, sz14, sz15, sz16, Nat.reduceSub, Nat.reduceLeDiff, reduceCtorEq, Bool.and_true, Bool.true_and, Bool.and_false, Bool.false_and, Bool.or_true, Bool.or_false, Bool.true_or, Bool.false_or, h2, decide_true, decide_false]
    rfl
  · cases h
theorem mt_elt {ρ : Rho} {ks : List PyData} {n k : Nat} {i j : Nat} (h1 : ρ[i]? = some (some (.d (.tuple ks)))) (h2 : ρ[j]? = some (some (.d (.int (k : Int))))) (hl : ks.length = n) (h : (ks.all fun k => inR k 0 ((n : Int) - 1)) = true) (hk : k < ks.length) :
    (eAnd (eOp2 (opLe) (eOp2 opIx (eVar i) (eVar j)) (eVar j)) (eOp2 (opEq) (eOp2 opIx (eVar i) (eOp2 opIx (eVar i) (eVar j))) (eOp2 opIx (eVar i) (eVar j)))) ρ S = .ok (.d (.bool (mtAt ks k))) S := by
  obtain ⟨m, e, hm⟩ := inR_at h hk
  obtain ⟨m2, e2, _⟩ := inR_at h (k := m) (by omega)
  simp only [eVar_ap, eK_ap, aNil_ap, aCons_ap, eOp2_ap, eOp1_ap, eChain_ap, bOf_ap, bNot_ap, bAnd_ap, bOr_ap, eAnd_ap, eOr_ap, eNot_ap, eIf_ap, eTup_ap, eLst_ap, eLstM_ap, cNop_ap, cBreak_ap, cCont_ap, cSeq_ap, cExpr_ap, cSet_ap, cRet_ap, cRetN_ap, cIf_ap, cAsg_ap, cPar2_ap, cPar3_ap, bYes_ap, eCall_ap, oNone_ap, oSome_ap, eSl_ap, cFor_ap, eMtL_ap, aKw_ap, gNm_ap, gTp2, gTp3, gSb_ap, Out.bind, Out.ofO, exq, fin, callE_ap, List.getElem?_cons_succ, List.getElem?_cons_zero, List.set_cons_succ, List.set_cons_zero, List.map_cons, List.map_nil, List.replicate, List.cons_append, List.nil_append, List.length_cons, List.length_nil, Bool.not_true, Bool.not_false, if_true, if_false, ite_true, ite_false, reduceIte, Bool.false_eq_true, Bool.true_eq_false, Nat.reduceAdd, unD, Option.map_some, Nat.zero_le, sz1, sz2, sz3, sz4, sz5, sz6, sz7, sz8, sz9, sz10, sz11, sz12, sz13, sz14, sz15, sz16, Nat.reduceSub, Nat.reduceLeDiff, reduceCtorEq, Bool.and_true, Bool.true_and, Bool.and_false, Bool.false_and, Bool.or_true, Bool.or_false, Bool.true_or, Bool.false_or, h1, h2, opIx_tup (atI_getD (xs := ks) hk), mtAt, e, opInt_int, Int.toNat_natCast, e2]
  cases h3 : decide ((m : Int) ≤ (k : Int)) <;> try simp only [eVar_ap, eK_ap, aNil_ap, aCons_ap, eOp2_ap, eOp1_ap, eChain_ap, bOf_ap, bNot_ap, bAnd_ap, bOr_ap, eAnd_ap, eOr_ap, eNot_ap, eIf_ap, eTup_ap, eLst_ap, eLstM_ap, cNop_ap, cBreak_ap, cCont_ap, cSeq_ap, cExpr_ap, cSet_ap, cRet_ap, cRetN_ap, cIf_ap, cAsg_ap, cPar2_ap, cPar3_ap, bYes_ap, eCall_ap, oNone_ap, oSome_ap, eSl_ap, cFor_ap, eMtL_ap, aKw_ap, gNm_ap, gTp2, gTp3, gSb_ap, Out.bind, Out.ofO, exq, fin, callE_ap, List.getElem?_cons_succ, List.getElem?_cons_zero, List.set_cons_succ, List.set_cons_zero, List.map_cons, List.map_nil, List.replicate, List.cons_append, List.nil_append, List.length_cons, List.length_nil, Bool.not_true, Bool.not_false, if_true, if_false, ite_true, ite_false, reduceIte, Bool.false_eq_true, Bool.true_eq_false, Nat.reduceAdd, unD, Option.map_some, Nat.zero_le, sz1, sz2, sz3, sz4, sz5, sz6, sz7, sz8, sz9, sz10, sz11, sz12, sz13, sz14, sz15, sz16, Nat.reduceSub, Nat.reduceLeDiff, reduceCtorEq, Bool.and_true, Bool.true_and, Bool.and_false, Bool.false_and, Bool.or_true, Bool.or_false, Bool.true_or, Bool.false_or]
  simp only [eVar_ap, eK_ap, aNil_ap, aCons_ap, eOp2_ap, eOp1_ap, eChain_ap, bOf_ap, bNot_ap, bAnd_ap, bOr_ap, eAnd_ap, eOr_ap, eNot_ap, eIf_ap, eTup_ap, eLst_ap, eLstM_ap, cNop_ap, cBreak_ap, cCont_ap, cSeq_ap, cExpr_ap, cSet_ap, cRet_ap, cRetN_ap, cIf_ap, cAsg_ap, cPar2_ap, cPar3_ap, bYes_ap, eCall_ap, oNone_ap, oSome_ap, eSl_ap, cFor_ap, eMtL_ap, aKw_ap, gNm_ap, gTp2, gTp3, gSb_ap, Out.bind, Out.ofO, exq, fin, callE_ap, List.getElem?_cons_succ, List.getElem?_cons_zero, List.set_cons_succ, List.set_cons_zero, List.map_cons, List.map_nil, List.replicate, List.cons_append, List.nil_append, List.length_cons, List.length_nil, Bool.not_true, Bool.not_false, if_true, if_false, ite_true, ite_false, reduceIte, Bool.false_eq_true, Bool.true_eq_false, Nat.reduceAdd, unD, Option.map_some, Nat.zero_le, sz1, sz2, sz3, sz4, sz5, sz6, sz7, sz8, sz9, sz10, sz11, sz12, sz13, sz14, sz15, sz16, Nat.reduceSub, Nat.reduceLeDiff, reduceCtorEq, Bool.and_true, Bool.true_and, Bool.and_false, Bool.false_and, Bool.or_true, Bool.or_false, Bool.true_or, Bool.false_or, h1, h2, opIx_tup (atI_getD (xs := ks) hk), e, opIx_tup (atI_getD (xs := ks) (k := m) (by omega)), e2, opEq_int]
theorem range_elt {ks : List PyData} {ρ : Rho} {m : EM} (hm : m ρ S = .ok (.d (.tuple ks)) S) (hl : ks.length ≤ 1000) : iRg1 (eCall bLen (aCons m aNil)) ρ S = .ok ⟨(List.range ks.length).map fun (k : Nat) => W.d (.int (k : Int)), fun _ => True⟩ S := iRg1_nat (by simp only [eVar_ap, eK_ap, aNil_ap, aCons_ap, eOp2_ap, eOp1_ap, eChain_ap, bOf_ap, bNot_ap, bAnd_ap, bOr_ap, eAnd_ap, eOr_ap, eNot_ap, eIf_ap, eTup_ap, eLst_ap, eLstM_ap, cNop_ap, cBreak_ap, cCont_ap, cSeq_ap, cExpr_ap, cSet_ap, cRet_ap, cRetN_ap, cIf_ap, cAsg_ap, cPar2_ap, cPar3_ap, bYes_ap, eCall_ap, oNone_ap, oSome_ap, eSl_ap, cFor_ap, eMtL_ap, aKw_ap, gNm_ap, gTp2, gTp3, gSb_ap, Out.bind, Out.ofO, exq, fin, callE_ap, List.getElem?_cons_succ, List.getElem?_cons_zero, List.set_cons_succ, List.set_cons_zero, List.map_cons, List.map_nil, List.replicate, List.cons_append, List.nil_append, List.length_cons, List.length_nil, Bool.not_true, Bool.not_false, if_true, if_false, ite_true, ite_false, reduceIte, Bool.false_eq_true, Bool.true_eq_false, Nat.reduceAdd, unD, Option.map_some, Nat.zero_le, sz1, sz2, sz3, sz4, sz5, sz6, sz7, sz8, sz9, sz10, sz11, sz12, sz13, sz14, sz15, sz16, Nat.reduceSub, Nat.reduceLeDiff, reduceCtorEq, Bool.and_true, Bool.true_and, Bool.and_false, Bool.false_and, Bool.or_true, Bool.or_false, Bool.true_or, Bool.false_or, hm, bLen_tup]) (by omega)
end
end Law
end

section
namespace Law
open PySem PySem.Spec PyProof.Rows L2 Sh
open Classical
section
variable {S : Sto} {x : PyData} {xs : List PyData}
noncomputable def bRow : SM := (cSeq (cIf (bOr (bNot (bOf (eOp1 (opIsi "tuple") (eVar 4)))) (bOr (bOf (eOp2 (opNe) (eCall bLen (aCons (eVar 4) aNil)) (eCall bLen (aCons (eVar 2) aNil)))) (bNot (bOf (eCall bAll (aCons (eLc (iSq (eVar 4)) (gNm 8) (bYes) (eAnd (eOp1 (opIsi "int") (eVar 8)) (eAnd (eNot (eOp1 (opIsi "bool") (eVar 8))) (eChain (opLe) (opLt) (eInt 0) (eVar 8) (eCall bLen (aCons (eVar 2) aNil))))) [8]) aNil)))))) (cRet (eBl false)) (cNop)) (cIf (bNot (bOf (eCall bAll (aCons (eLc (iRg1 (eCall bLen (aCons (eVar 4) aNil))) (gNm 8) (bYes) (eAnd (eOp2 (opLe) (eOp2 opIx (eVar 4) (eVar 8)) (eVar 8)) (eOp2 (opEq) (eOp2 opIx (eVar 4) (eOp2 opIx (eVar 4) (eVar 8))) (eOp2 opIx (eVar 4) (eVar 8)))) [8]) aNil)))) (cRet (eBl false)) (cNop)))
theorem law_row {n : Nat} {ws ms fs : List PyData} {t x : PyData} (hx : sm (n + 1) x = true) : bRow [some (W.d t), some (.d (.tuple fs)), some (.d (.tuple ws)), some (.d (.tuple ms)), some (.d x), none, none, none, none] S = .ok (if mtOk x ws.length = true then .nx [some (W.d t), some (.d (.tuple fs)), some (.d (.tuple ws)), some (.d (.tuple ms)), some (.d x), none, none, none, none] else .rt (.d (.bool false))) S := by
  unfold bRow
  simp only [eVar_ap, eK_ap, aNil_ap, aCons_ap, eOp2_ap, eOp1_ap, eChain_ap, bOf_ap, bNot_ap, bAnd_ap, bOr_ap, eAnd_ap, eOr_ap, eNot_ap, eIf_ap, eTup_ap, eLst_ap, eLstM_ap, cNop_ap, cBreak_ap, cCont_ap, cSeq_ap, cExpr_ap, cSet_ap, cRet_ap, cRetN_ap, cIf_ap, cAsg_ap, cPar2_ap, cPar3_ap, bYes_ap, eCall_ap, oNone_ap, oSome_ap, eSl_ap, cFor_ap, eMtL_ap, aKw_ap, gNm_ap, gTp2, gTp3, gSb_ap, Out.bind, Out.ofO, exq, fin, callE_ap, List.getElem?_cons_succ, List.getElem?_cons_zero, List.set_cons_succ, List.set_cons_zero, List.map_cons, List.map_nil, List.replicate, List.cons_append, List.nil_append, List.length_cons, List.length_nil, Bool.not_true, Bool.not_false, if_true, if_false, ite_true, ite_false, reduceIte, Bool.false_eq_true, Bool.true_eq_false, Nat.reduceAdd, unD, Option.map_some, Nat.zero_le, sz1, sz2, sz3, sz4, sz5, sz6, sz7, sz8, sz9, sz10, sz11, sz12, sz13, sz14, sz15, sz16, Nat.reduceSub, Nat.reduceLeDiff, reduceCtorEq, Bool.and_true, Bool.true_and, Bool.and_false, Bool.false_and, Bool.or_true, Bool.or_false, Bool.true_or, Bool.false_or, opIsi_d, isiTup]
  cases x <;> simp only [isT, mtOk] <;> try simp only [eVar_ap, eK_ap, aNil_ap, aCons_ap, eOp2_ap, eOp1_ap, eChain_ap, bOf_ap, bNot_ap, bAnd_ap, bOr_ap, eAnd_ap, eOr_ap, eNot_ap, eIf_ap, eTup_ap, eLst_ap, eLstM_ap, cNop_ap, cBreak_ap, cCont_ap, cSeq_ap, cExpr_ap, cSet_ap, cRet_ap, cRetN_ap, cIf_ap, cAsg_ap, cPar2_ap, cPar3_ap, bYes_ap, eCall_ap, oNone_ap, oSome_ap, eSl_ap, cFor_ap, eMtL_ap, aKw_ap, gNm_ap, gTp2, gTp3, gSb_ap, Out.bind, Out.ofO, exq, fin, callE_ap, List.getElem?_cons_succ, List.getElem?_cons_zero, List.set_cons_succ, List.set_cons_zero, List.map_cons, List.map_nil, List.replicate, List.cons_append, List.nil_append, List.length_cons, List.length_nil, Bool.not_true, Bool.not_false, if_true, if_false, ite_true, ite_false, reduceIte, Bool.false_eq_true, Bool.true_eq_false, Nat.reduceAdd, unD, Option.map_some, Nat.zero_le, sz1, sz2, sz3, sz4, sz5, sz6, sz7, sz8, sz9, sz10, sz11, sz12, sz13, sz14, sz15, sz16, Nat.reduceSub, Nat.reduceLeDiff, reduceCtorEq, Bool.and_true, Bool.true_and, Bool.and_false, Bool.false_and, Bool.or_true, Bool.or_false, Bool.true_or, Bool.false_or]
  rename_i ks
  have hk := sm_tup.1 hx
  simp only [eVar_ap, eK_ap, aNil_ap, aCons_ap, eOp2_ap, eOp1_ap, eChain_ap, bOf_ap, bNot_ap, bAnd_ap, bOr_ap, eAnd_ap, eOr_ap, eNot_ap, eIf_ap, eTup_ap, eLst_ap, eLstM_ap, cNop_ap, cBreak_ap, cCont_ap, cSeq_ap, cExpr_ap, cSet_ap, cRet_ap, cRetN_ap, cIf_ap, cAsg_ap, cPar2_ap, cPar3_ap, bYes_ap, eCall_ap, oNone_ap, oSome_ap, eSl_ap, cFor_ap, eMtL_ap, aKw_ap, gNm_ap, gTp2, gTp3, gSb_ap, Out.bind, Out.ofO, exq, fin, callE_ap, List.getElem?_cons_succ, List.getElem?_cons_zero, List.set_cons_succ, List.set_cons_zero, List.map_cons, List.map_nil, List.replicate, List.cons_append, List.nil_append, List.length_cons, List.length_nil, Bool.not_true, Bool.not_false, if_true, if_false, ite_true, ite_false, reduceIte, Bool.false_eq_true, Bool.true_eq_false, Nat.reduceAdd, unD, Option.map_some, Nat.zero_le, sz1, sz2, sz3, sz4, sz5, sz6, sz7, sz8, sz9, sz10, sz11, sz12, sz13, sz14, sz15, sz16, Nat.reduceSub, Nat.reduceLeDiff, reduceCtorEq, Bool.and_true, Bool.true_and, Bool.and_false, Bool.false_and, Bool.or_true, Bool.or_false, Bool.true_or, Bool.false_or, bLen_tup, opNe_int]
  by_cases h6 : ks.length = ws.length
  · rw [← h6]
    simp only [eVar_ap, eK_ap, aNil_ap, aCons_ap, eOp2_ap, eOp1_ap, eChain_ap, bOf_ap, bNot_ap, bAnd_ap, bOr_ap, eAnd_ap, eOr_ap, eNot_ap, eIf_ap, eTup_ap, eLst_ap, eLstM_ap, cNop_ap, cBreak_ap, cCont_ap, cSeq_ap, cExpr_ap, cSet_ap, cRet_ap, cRetN_ap, cIf_ap, cAsg_ap, cPar2_ap, cPar3_ap, bYes_ap, eCall_ap, oNone_ap, oSome_ap, eSl_ap, cFor_ap, eMtL_ap, aKw_ap, gNm_ap, gTp2, gTp3, gSb_ap, Out.bind, Out.ofO, exq, fin, callE_ap, List.getElem?_cons_succ, List.getElem?_cons_zero, List.set_cons_succ, List.set_cons_zero, List.map_cons, List.map_nil, List.replicate, List.cons_append, List.nil_append, List.length_cons, List.length_nil, Bool.not_true, Bool.not_false, if_true, if_false, ite_true, ite_false, reduceIte, Bool.false_eq_true, Bool.true_eq_false, Nat.reduceAdd, unD, Option.map_some, Nat.zero_le, sz1, sz2, sz3, sz4, sz5, sz6, sz7, sz8, sz9, sz10, sz11, sz12, sz13, sz14, sz15, sz16, Nat.reduceSub, Nat.reduceLeDiff, reduceCtorEq, Bool.and_true, Bool.true_and, Bool.and_false, Bool.false_and, Bool.or_true, Bool.or_false, Bool.true_or, Bool.false_or, show ((ks.length : Int) == (ks.length : Int)) = true by simp, decide_true]
    rw [eLc_y ks W.d (fun k => .bool (inR k 0 ((ks.length : Int) - 1))) (grd := fun _ => True) (iSq_tup rfl) trivial (len_le hk.1) fun x hx => ⟨_, rfl, elt_lt rfl (by simp only [eVar_ap, eK_ap, aNil_ap, aCons_ap, eOp2_ap, eOp1_ap, eChain_ap, bOf_ap, bNot_ap, bAnd_ap, bOr_ap, eAnd_ap, eOr_ap, eNot_ap, eIf_ap, eTup_ap, eLst_ap, eLstM_ap, cNop_ap, cBreak_ap, cCont_ap, cSeq_ap, cExpr_ap, cSet_ap, cRet_ap, cRetN_ap, cIf_ap, cAsg_ap, cPar2_ap, cPar3_ap, bYes_ap, eCall_ap, oNone_ap, oSome_ap, eSl_ap, cFor_ap, eMtL_ap, aKw_ap, gNm_ap, gTp2, gTp3, gSb_ap, Out.bind, Out.ofO, exq, fin, callE_ap, List.getElem?_cons_succ, List.getElem?_cons_zero, List.set_cons_succ, List.set_cons_zero, List.map_cons, List.map_nil, List.replicate, List.cons_append, List.nil_append, List.length_cons, List.length_nil, Bool.not_true, Bool.not_false, if_true, if_false, ite_true, ite_false, reduceIte, Bool.false_eq_true, Bool.true_eq_false, Nat.reduceAdd, unD, Option.map_some, Nat.zero_le, sz1, sz2, sz3, sz4, sz5, sz6, sz7, sz8, sz9, sz10, sz11, sz12, sz13, sz14, sz15, sz16, Nat.reduceSub, Nat.reduceLeDiff, reduceCtorEq, Bool.and_true, Bool.true_and, Bool.and_false, Bool.false_and, Bool.or_true, Bool.or_false, Bool.true_or, Bool.false_or, wipeR, bLen_tup, h6])⟩]
    simp only [eVar_ap, eK_ap, aNil_ap, aCons_ap, eOp2_ap, eOp1_ap, eChain_ap, bOf_ap, bNot_ap, bAnd_ap, bOr_ap, eAnd_ap, eOr_ap, eNot_ap, eIf_ap, eTup_ap, eLst_ap, eLstM_ap, cNop_ap, cBreak_ap, cCont_ap, cSeq_ap, cExpr_ap, cSet_ap, cRet_ap, cRetN_ap, cIf_ap, cAsg_ap, cPar2_ap, cPar3_ap, bYes_ap, eCall_ap, oNone_ap, oSome_ap, eSl_ap, cFor_ap, eMtL_ap, aKw_ap, gNm_ap, gTp2, gTp3, gSb_ap, Out.bind, Out.ofO, exq, fin, callE_ap, List.getElem?_cons_succ, List.getElem?_cons_zero, List.set_cons_succ, List.set_cons_zero, List.map_cons, List.map_nil, List.replicate, List.cons_append, List.nil_append, List.length_cons, List.length_nil, Bool.not_true, Bool.not_false, if_true, if_false, ite_true, ite_false, reduceIte, Bool.false_eq_true, Bool.true_eq_false, Nat.reduceAdd, unD, Option.map_some, Nat.zero_le, sz1, sz2, sz3, sz4, sz5, sz6, sz7, sz8, sz9, sz10, sz11, sz12, sz13, sz14, sz15, sz16, Nat.reduceSub, Nat.reduceLeDiff, reduceCtorEq, Bool.and_true, Bool.true_and, Bool.and_false, Bool.false_and, Bool.or_true, Bool.or_false, Bool.true_or, Bool.false_or, bAll_map]
    cases h7 : ks.all (fun k => inR k 0 ((ks.length : Int) - 1))
    · simp only [eVar_ap, eK_ap, aNil_ap, aCons_ap, eOp2_ap, eOp1_ap, eChain_ap, bOf_ap, bNot_ap, bAnd_ap, bOr_ap, eAnd_ap, eOr_ap, eNot_ap, eIf_ap, eTup_ap, eLst_ap, eLstM_ap, cNop_ap, cBreak_ap, cCont_ap, cSeq_ap, cExpr_ap, cSet_ap, cRet_ap, cRetN_ap, cIf_ap, cAsg_ap, cPar2_ap, cPar3_ap, bYes_ap, eCall_ap, oNone_ap, oSome_ap, eSl_ap, cFor_ap, eMtL_ap, aKw_ap, gNm_ap, gTp2, gTp3, gSb_ap, Out.bind, Out.ofO, exq, fin, callE_ap, List.getElem?_cons_succ, List.getElem?_cons_zero, List.set_cons_succ, List.set_cons_zero, List.map_cons, List.map_nil, List.replicate, List.cons_append, List.nil_append, List.length_cons, List.length_nil, Bool.not_true, Bool.not_false, if_true, if_false, ite_true, ite_false, reduceIte, Bool.false_eq_true, Bool.true_eq_false, Nat.reduceAdd, unD, Option.map_some, Nat.zero_le, sz1, sz2, sz3, sz4, sz5, sz6, sz7, sz8, sz9, sz10, sz11, sz12, sz13, sz14, sz15, sz16, Nat.reduceSub, Nat.reduceLeDiff, reduceCtorEq, Bool.and_true, Bool.true_and, Bool.and_false, Bool.false_and, Bool.or_true, Bool.or_false, Bool.true_or, Bool.false_or]
    · simp only [eVar_ap, eK_ap, aNil_ap, aCons_ap, eOp2_ap, eOp1_ap, eChain_ap, bOf_ap, bNot_ap, bAnd_ap, bOr_ap, eAnd_ap, eOr_ap, eNot_ap, eIf_ap, eTup_ap, eLst_ap, eLstM_ap, cNop_ap, cBreak_ap, cCont_ap, cSeq_ap, cExpr_ap, cSet_ap, cRet_ap, cRetN_ap, cIf_ap, cAsg_ap, cPar2_ap, cPar3_ap, bYes_ap, eCall_ap, oNone_ap, oSome_ap, eSl_ap, cFor_ap, eMtL_ap, aKw_ap, gNm_ap, gTp2, gTp3, gSb_ap, Out.bind, Out.ofO, exq, fin, callE_ap, List.getElem?_cons_succ, List.getElem?_cons_zero, List.set_cons_succ, List.set_cons_zero, List.map_cons, List.map_nil, List.replicate, List.cons_append, List.nil_append, List.length_cons, List.length_nil, Bool.not_true, Bool.not_false, if_true, if_false, ite_true, ite_false, reduceIte, Bool.false_eq_true, Bool.true_eq_false, Nat.reduceAdd, unD, Option.map_some, Nat.zero_le, sz1, sz2, sz3, sz4, sz5, sz6, sz7, sz8, sz9, sz10, sz11, sz12, sz13, sz14, sz15, sz16, Nat.reduceSub, Nat.reduceLeDiff, reduceCtorEq, Bool.and_true, Bool.true_and, Bool.and_false, Bool.false_and, Bool.or_true, Bool.or_false, Bool.true_or, Bool.false_or]
      rw [eLc_y (List.range ks.length) (fun (k : Nat) => .d (.int (k : Int))) (fun k => .bool (mtAt ks k)) (grd := fun _ => True) (range_elt rfl hk.1) trivial (by rw [List.length_range]; exact len_le hk.1) fun k hk => ⟨_, rfl, mt_elt rfl rfl rfl h7 (List.mem_range.1 hk)⟩]
      simp only [eVar_ap, eK_ap, aNil_ap, aCons_ap, eOp2_ap, eOp1_ap, eChain_ap, bOf_ap, bNot_ap, bAnd_ap, bOr_ap, eAnd_ap, eOr_ap, eNot_ap, eIf_ap, eTup_ap, eLst_ap, eLstM_ap, cNop_ap, cBreak_ap, cCont_ap, cSeq_ap, cExpr_ap, cSet_ap, cRet_ap, cRetN_ap, cIf_ap, cAsg_ap, cPar2_ap, cPar3_ap, bYes_ap, eCall_ap, oNone_ap, oSome_ap, eSl_ap, cFor_ap, eMtL_ap, aKw_ap, gNm_ap, gTp2, gTp3, gSb_ap, Out.bind, Out.ofO, exq, fin, callE_ap, List.getElem?_cons_succ, List.getElem?_cons_zero, List.set_cons_succ, List.set_cons_zero, List.map_cons, List.map_nil, List.replicate, List.cons_append, List.nil_append, List.length_cons, List.length_nil, Bool.not_true, Bool.not_false, if_true, if_false, ite_true, ite_false, reduceIte, Bool.false_eq_true, Bool.true_eq_false, Nat.reduceAdd, unD, Option.map_some, Nat.zero_le, sz1, sz2, sz3, sz4, sz5, sz6, sz7, sz8, sz9, sz10, sz11, sz12, sz13, sz14, sz15, sz16, Nat.reduceSub, Nat.reduceLeDiff, reduceCtorEq, Bool.and_true, Bool.true_and, Bool.and_false, Bool.false_and, Bool.or_true, Bool.or_false, Bool.true_or, Bool.false_or, bAll_map]
      cases h8 : (List.range ks.length).all (fun w => mtAt ks w)
      · simp only [eVar_ap, eK_ap, aNil_ap, aCons_ap, eOp2_ap, eOp1_ap, eChain_ap, bOf_ap, bNot_ap, bAnd_ap, bOr_ap, eAnd_ap, eOr_ap, eNot_ap, eIf_ap, eTup_ap, eLst_ap, eLstM_ap, cNop_ap, cBreak_ap, cCont_ap, cSeq_ap, cExpr_ap, cSet_ap, cRet_ap, cRetN_ap, cIf_ap, cAsg_ap, cPar2_ap, cPar3_ap, bYes_ap, eCall_ap, oNone_ap, oSome_ap, eSl_ap, cFor_ap, eMtL_ap, aKw_ap, gNm_ap, gTp2, gTp3, gSb_ap, Out.bind, Out.ofO, exq, fin, callE_ap, List.getElem?_cons_succ, List.getElem?_cons_zero, List.set_cons_succ, List.set_cons_zero, List.map_cons, List.map_nil, List.replicate, List.cons_append, List.nil_append, List.length_cons, List.length_nil, Bool.not_true, Bool.not_false, if_true, if_false, ite_true, ite_false, reduceIte, Bool.false_eq_true, Bool.true_eq_false, Nat.reduceAdd, unD, Option.map_some, Nat.zero_le, sz1, sz2, sz3, sz4, sz5, sz6, sz7, sz8, sz9, sz10, sz11, sz12, sz13, sz14, sz15, sz16, Nat.reduceSub, Nat.reduceLeDiff, reduceCtorEq, Bool.and_true, Bool.true_and, Bool.and_false, Bool.false_and, Bool.or_true, Bool.or_false, Bool.true_or, Bool.false_or]
      · simp only [eVar_ap, eK_ap, aNil_ap, aCons_ap, eOp2_ap, eOp1_ap, eChain_ap, bOf_ap, bNot_ap, bAnd_ap, bOr_ap, eAnd_ap, eOr_ap, eNot_ap, eIf_ap, eTup_ap, eLst_ap, eLstM_ap, cNop_ap, cBreak_ap, cCont_ap, cSeq_ap, cExpr_ap, cSet_ap, cRet_ap, cRetN_ap, cIf_ap, cAsg_ap, cPar2_ap, cPar3_ap, bYes_ap, eCall_ap, oNone_ap, oSome_ap, eSl_ap, cFor_ap, eMtL_ap, aKw_ap, gNm_ap, gTp2, gTp3, gSb_ap, Out.bind, Out.ofO, exq, fin, callE_ap, List.getElem?_cons_succ, List.getElem?_cons_zero, List.set_cons_succ, List.set_cons_zero, List.map_cons, List.map_nil, List.replicate, List.cons_append, List.nil_append, List.length_cons, List.length_nil, Bool.not_true, Bool.not_false, if_true, if_false, ite_true, ite_false, reduceIte, Bool.false_eq_true, Bool.true_eq_false, Nat.reduceAdd, unD, Option.map_some, Nat.zero_le, sz1, sz2, sz3, sz4, sz5, sz6, sz7, sz8, sz9, sz10, sz11, sz12, sz13, sz14, sz15, sz16, Nat.reduceSub, Nat.reduceLeDiff, reduceCtorEq, Bool.and_true, Bool.true_and, Bool.and_false, Bool.false_and, Bool.or_true, Bool.or_false, Bool.true_or, Bool.false_or]
  · simp only [eVar_ap, eK_ap, aNil_ap, aCons_ap, eOp2_ap, eOp1_ap, eChain_ap, bOf_ap, bNot_ap, bAnd_ap, bOr_ap, eAnd_ap, eOr_ap, eNot_ap, eIf_ap, eTup_ap, eLst_ap, eLstM_ap, cNop_ap, cBreak_ap, cCont_ap, cSeq_ap, cExpr_ap, cSet_ap, cRet_ap, cRetN_ap, cIf_ap, cAsg_ap, cPar2_ap, cPar3_ap, bYes_ap, eCall_ap, oNone_ap, oSome_ap, eSl_ap, cFor_ap, eMtL_ap, aKw_ap, gNm_ap, gTp2, gTp3, gSb_ap, Out.bind, Out.ofO, exq, fin, callE_ap, List.getElem?_cons_succ, List.getElem?_cons_zero, List.set_cons_succ, List.set_cons_zero, List.map_cons, List.map_nil, List.replicate, List.cons_append, List.nil_append, List.length_cons, List.length_nil, Bool.not_true, Bool.not_false, if_true, if_false, ite_true, ite_false, reduceIte, Bool.false_eq_true, Bool.true_eq_false, Nat.reduceAdd, unD, Option.map_some, Nat.zero_le, sz1, sz2, sz3, sz4, sz5, sz6, sz7, sz8, sz9, sz10, sz11, sz12, sz13, sz14, sz15, sz16, Nat.reduceSub, Nat.reduceLeDiff, reduceCtorEq, Bool.and_true, Bool.true_and, Bool.and_false, Bool.false_and, Bool.or_true, Bool.or_false, Bool.true_or, Bool.false_or, show ((ks.length : Int) == (ws.length : Int)) = false by simp; omega, h6, decide_false]
end
end Law
end

section
namespace Law
open PySem PySem.Spec PyProof.Rows L2 Sh
open Classical
section
variable {S : Sto} {x : PyData} {xs : List PyData}
theorem law_tbl_ok {n : Nat} (hx : sm (n + 3) x = true) (hn : n ≤ 60) : m__law_is_table [.d x] S = .ok (.d (.bool (tbl x))) S := by
  unfold m__law_is_table defM b__law_is_table
  simp only [eVar_ap, eK_ap, aNil_ap, aCons_ap, eOp2_ap, eOp1_ap, eChain_ap, bOf_ap, bNot_ap, bAnd_ap, bOr_ap, eAnd_ap, eOr_ap, eNot_ap, eIf_ap, eTup_ap, eLst_ap, eLstM_ap, cNop_ap, cBreak_ap, cCont_ap, cSeq_ap, cExpr_ap, cSet_ap, cRet_ap, cRetN_ap, cIf_ap, cAsg_ap, cPar2_ap, cPar3_ap, bYes_ap, eCall_ap, oNone_ap, oSome_ap, eSl_ap, cFor_ap, eMtL_ap, aKw_ap, gNm_ap, gTp2, gTp3, gSb_ap, Out.bind, Out.ofO, exq, fin, callE_ap, List.getElem?_cons_succ, List.getElem?_cons_zero, List.set_cons_succ, List.set_cons_zero, List.map_cons, List.map_nil, List.replicate, List.cons_append, List.nil_append, List.length_cons, List.length_nil, Bool.not_true, Bool.not_false, if_true, if_false, ite_true, ite_false, reduceIte, Bool.false_eq_true, Bool.true_eq_false, Nat.reduceAdd, unD, Option.map_some, Nat.zero_le, sz1, sz2, sz3, sz4, sz5, sz6, sz7, sz8, sz9, sz10, sz11, sz12, sz13, sz14, sz15, sz16, Nat.reduceSub, Nat.reduceLeDiff, reduceCtorEq, Bool.and_true, Bool.true_and, Bool.and_false, Bool.false_and, Bool.or_true, Bool.or_false, Bool.true_or, Bool.false_or, opIsi_d, isiTup]
  cases x <;> simp only [isT] <;> try (simp only [eVar_ap, eK_ap, aNil_ap, aCons_ap, eOp2_ap, eOp1_ap, eChain_ap, bOf_ap, bNot_ap, bAnd_ap, bOr_ap, eAnd_ap, eOr_ap, eNot_ap, eIf_ap, eTup_ap, eLst_ap, eLstM_ap, cNop_ap, cBreak_ap, cCont_ap, cSeq_ap, cExpr_ap, cSet_ap, cRet_ap, cRetN_ap, cIf_ap, cAsg_ap, cPar2_ap, cPar3_ap, bYes_ap, eCall_ap, oNone_ap, oSome_ap, eSl_ap, cFor_ap, eMtL_ap, aKw_ap, gNm_ap, gTp2, gTp3, gSb_ap, Out.bind, Out.ofO, exq, fin, callE_ap, List.getElem?_cons_succ, List.getElem?_cons_zero, List.set_cons_succ, List.set_cons_zero, List.map_cons, List.map_nil, List.replicate, List.cons_append, List.nil_append, List.length_cons, List.length_nil, Bool.not_true, Bool.not_false, if_true, if_false, ite_true, ite_false, reduceIte, Bool.false_eq_true, Bool.true_eq_false, Nat.reduceAdd, unD, Option.map_some, Nat.zero_le, sz1, sz2, sz3, sz4, sz5, sz6, sz7, sz8, sz9, sz10, sz11, sz12, sz13, sz14, sz15, sz16, Nat.reduceSub, Nat.reduceLeDiff, reduceCtorEq, Bool.and_true, Bool.true_and, Bool.and_false, Bool.false_and, Bool.or_true, Bool.or_false, Bool.true_or, Bool.false_or]; rfl)
  rename_i ks
  have hs := sm_tup.1 hx
  simp only [eVar_ap, eK_ap, aNil_ap, aCons_ap, eOp2_ap, eOp1_ap, eChain_ap, bOf_ap, bNot_ap, bAnd_ap, bOr_ap, eAnd_ap, eOr_ap, eNot_ap, eIf_ap, eTup_ap, eLst_ap, eLstM_ap, cNop_ap, cBreak_ap, cCont_ap, cSeq_ap, cExpr_ap, cSet_ap, cRet_ap, cRetN_ap, cIf_ap, cAsg_ap, cPar2_ap, cPar3_ap, bYes_ap, eCall_ap, oNone_ap, oSome_ap, eSl_ap, cFor_ap, eMtL_ap, aKw_ap, gNm_ap, gTp2, gTp3, gSb_ap, Out.bind, Out.ofO, exq, fin, callE_ap, List.getElem?_cons_succ, List.getElem?_cons_zero, List.set_cons_succ, List.set_cons_zero, List.map_cons, List.map_nil, List.replicate, List.cons_append, List.nil_append, List.length_cons, List.length_nil, Bool.not_true, Bool.not_false, if_true, if_false, ite_true, ite_false, reduceIte, Bool.false_eq_true, Bool.true_eq_false, Nat.reduceAdd, unD, Option.map_some, Nat.zero_le, sz1, sz2, sz3, sz4, sz5, sz6, sz7, sz8, sz9, sz10, sz11, sz12, sz13, sz14, sz15, sz16, Nat.reduceSub, Nat.reduceLeDiff, reduceCtorEq, Bool.and_true, Bool.true_and, Bool.and_false, Bool.false_and, Bool.or_true, Bool.or_false, Bool.true_or, Bool.false_or, bLen_tup, opNe_int]
  by_cases hl : ks.length = 3
  · match ks, hl with
    | [f, w, m], _ =>
    have hf := hs.2 f (by simp)
    have hw := hs.2 w (by simp)
    have hm := hs.2 m (by simp)
    simp only [eVar_ap, eK_ap, aNil_ap, aCons_ap, eOp2_ap, eOp1_ap, eChain_ap, bOf_ap, bNot_ap, bAnd_ap, bOr_ap, eAnd_ap, eOr_ap, eNot_ap, eIf_ap, eTup_ap, eLst_ap, eLstM_ap, cNop_ap, cBreak_ap, cCont_ap, cSeq_ap, cExpr_ap, cSet_ap, cRet_ap, cRetN_ap, cIf_ap, cAsg_ap, cPar2_ap, cPar3_ap, bYes_ap, eCall_ap, oNone_ap, oSome_ap, eSl_ap, cFor_ap, eMtL_ap, aKw_ap, gNm_ap, gTp2, gTp3, gSb_ap, Out.bind, Out.ofO, exq, fin, callE_ap, List.getElem?_cons_succ, List.getElem?_cons_zero, List.set_cons_succ, List.set_cons_zero, List.map_cons, List.map_nil, List.replicate, List.cons_append, List.nil_append, List.length_cons, List.length_nil, Bool.not_true, Bool.not_false, if_true, if_false, ite_true, ite_false, reduceIte, Bool.false_eq_true, Bool.true_eq_false, Nat.reduceAdd, unD, Option.map_some, Nat.zero_le, sz1, sz2, sz3, sz4, sz5, sz6, sz7, sz8, sz9, sz10, sz11, sz12, sz13, sz14, sz15, sz16, Nat.reduceSub, Nat.reduceLeDiff, reduceCtorEq, Bool.and_true, Bool.true_and, Bool.and_false, Bool.false_and, Bool.or_true, Bool.or_false, Bool.true_or, Bool.false_or, show ((((0 + 1 + 1 + 1 : Nat) : Int) == 3)) = true from rfl]
    rw [eLc_y [f, w, m] W.d (fun x => .bool (isT x)) (grd := fun _ => True) (iSq_tup rfl) trivial (len_le hs.1) fun x hx => ⟨_, rfl, by simp only [eVar_ap, eK_ap, aNil_ap, aCons_ap, eOp2_ap, eOp1_ap, eChain_ap, bOf_ap, bNot_ap, bAnd_ap, bOr_ap, eAnd_ap, eOr_ap, eNot_ap, eIf_ap, eTup_ap, eLst_ap, eLstM_ap, cNop_ap, cBreak_ap, cCont_ap, cSeq_ap, cExpr_ap, cSet_ap, cRet_ap, cRetN_ap, cIf_ap, cAsg_ap, cPar2_ap, cPar3_ap, bYes_ap, eCall_ap, oNone_ap, oSome_ap, eSl_ap, cFor_ap, eMtL_ap, aKw_ap, gNm_ap, gTp2, gTp3, gSb_ap, Out.bind, Out.ofO, exq, fin, callE_ap, List.getElem?_cons_succ, List.getElem?_cons_zero, List.set_cons_succ, List.set_cons_zero, List.map_cons, List.map_nil, List.replicate, List.cons_append, List.nil_append, List.length_cons, List.length_nil, Bool.not_true, Bool.not_false, if_true, if_false, ite_true, ite_false, reduceIte, Bool.false_eq_true, Bool.true_eq_false, Nat.reduceAdd, unD, Option.map_some, Nat.zero_le, sz1, sz2, sz3, sz4, sz5, sz6, sz7, sz8, sz9, sz10, sz11, sz12, sz13, sz14, sz15, sz16, Nat.reduceSub, Nat.reduceLeDiff, reduceCtorEq, Bool.and_true, Bool.true_and, Bool.and_false, Bool.false_and, Bool.or_true, Bool.or_false, Bool.true_or, Bool.false_or, wipeR, opIsi_d, isiTup]⟩]
    have ht0 : bAll [W.d (.list [.bool (isT f), .bool (isT w), .bool (isT m)])] S = .ok (.d (.bool ([f, w, m].all isT))) S := bAll_map (l := [f, w, m])
    simp only [eVar_ap, eK_ap, aNil_ap, aCons_ap, eOp2_ap, eOp1_ap, eChain_ap, bOf_ap, bNot_ap, bAnd_ap, bOr_ap, eAnd_ap, eOr_ap, eNot_ap, eIf_ap, eTup_ap, eLst_ap, eLstM_ap, cNop_ap, cBreak_ap, cCont_ap, cSeq_ap, cExpr_ap, cSet_ap, cRet_ap, cRetN_ap, cIf_ap, cAsg_ap, cPar2_ap, cPar3_ap, bYes_ap, eCall_ap, oNone_ap, oSome_ap, eSl_ap, cFor_ap, eMtL_ap, aKw_ap, gNm_ap, gTp2, gTp3, gSb_ap, Out.bind, Out.ofO, exq, fin, callE_ap, List.getElem?_cons_succ, List.getElem?_cons_zero, List.set_cons_succ, List.set_cons_zero, List.map_cons, List.map_nil, List.replicate, List.cons_append, List.nil_append, List.length_cons, List.length_nil, Bool.not_true, Bool.not_false, if_true, if_false, ite_true, ite_false, reduceIte, Bool.false_eq_true, Bool.true_eq_false, Nat.reduceAdd, unD, Option.map_some, Nat.zero_le, sz1, sz2, sz3, sz4, sz5, sz6, sz7, sz8, sz9, sz10, sz11, sz12, sz13, sz14, sz15, sz16, Nat.reduceSub, Nat.reduceLeDiff, reduceCtorEq, Bool.and_true, Bool.true_and, Bool.and_false, Bool.false_and, Bool.or_true, Bool.or_false, Bool.true_or, Bool.false_or, ht0]
    cases ht : [f, w, m].all isT
    · have : tbl (.tuple [f, w, m]) = false := by
        cases h : tbl (.tuple [f, w, m]) with
        | false => rfl
        | true =>
          simp only [tbl, Bool.and_eq_true] at h
          obtain ⟨fs, rfl⟩ := fOk_tup h.1.1
          obtain ⟨ws, rfl⟩ := wOk_tup h.1.2.1
          obtain ⟨ms, rfl⟩ := mOk_tup h.1.2.2
          cases ht
      simp only [eVar_ap, eK_ap, aNil_ap, aCons_ap, eOp2_ap, eOp1_ap, eChain_ap, bOf_ap, bNot_ap, bAnd_ap, bOr_ap, eAnd_ap, eOr_ap, eNot_ap, eIf_ap, eTup_ap, eLst_ap, eLstM_ap, cNop_ap, cBreak_ap, cCont_ap, cSeq_ap, cExpr_ap, cSet_ap, cRet_ap, cRetN_ap, cIf_ap, cAsg_ap, cPar2_ap, cPar3_ap, bYes_ap, eCall_ap, oNone_ap, oSome_ap, eSl_ap, cFor_ap, eMtL_ap, aKw_ap, gNm_ap, gTp2, gTp3, gSb_ap, Out.bind, Out.ofO, exq, fin, callE_ap, List.getElem?_cons_succ, List.getElem?_cons_zero, List.set_cons_succ, List.set_cons_zero, List.map_cons, List.map_nil, List.replicate, List.cons_append, List.nil_append, List.length_cons, List.length_nil, Bool.not_true, Bool.not_false, if_true, if_false, ite_true, ite_false, reduceIte, Bool.false_eq_true, Bool.true_eq_false, Nat.reduceAdd, unD, Option.map_some, Nat.zero_le, sz1, sz2, sz3, sz4, sz5, sz6, sz7, sz8, sz9, sz10, sz11, sz12, sz13, sz14, sz15, sz16, Nat.reduceSub, Nat.reduceLeDiff, reduceCtorEq, Bool.and_true, Bool.true_and, Bool.and_false, Bool.false_and, Bool.or_true, Bool.or_false, Bool.true_or, Bool.false_or, this]
    · simp only [List.all_cons, List.all_nil, Bool.and_true, Bool.and_eq_true] at ht
      obtain ⟨fs, rfl⟩ := isT_iff.1 ht.1
      obtain ⟨ws, rfl⟩ := isT_iff.1 ht.2.1
      obtain ⟨ms, rfl⟩ := isT_iff.1 ht.2.2
      have hf := sm_tup.1 hf
      have hw := sm_tup.1 hw
      have hm := sm_tup.1 hm
      clear hs hx ht
      simp only [eVar_ap, eK_ap, aNil_ap, aCons_ap, eOp2_ap, eOp1_ap, eChain_ap, bOf_ap, bNot_ap, bAnd_ap, bOr_ap, eAnd_ap, eOr_ap, eNot_ap, eIf_ap, eTup_ap, eLst_ap, eLstM_ap, cNop_ap, cBreak_ap, cCont_ap, cSeq_ap, cExpr_ap, cSet_ap, cRet_ap, cRetN_ap, cIf_ap, cAsg_ap, cPar2_ap, cPar3_ap, bYes_ap, eCall_ap, oNone_ap, oSome_ap, eSl_ap, cFor_ap, eMtL_ap, aKw_ap, gNm_ap, gTp2, gTp3, gSb_ap, Out.bind, Out.ofO, exq, fin, callE_ap, List.getElem?_cons_succ, List.getElem?_cons_zero, List.set_cons_succ, List.set_cons_zero, List.map_cons, List.map_nil, List.replicate, List.cons_append, List.nil_append, List.length_cons, List.length_nil, Bool.not_true, Bool.not_false, if_true, if_false, ite_true, ite_false, reduceIte, Bool.false_eq_true, Bool.true_eq_false, Nat.reduceAdd, unD, Option.map_some, Nat.zero_le, sz1, sz2, sz3, sz4, sz5, sz6, sz7, sz8, sz9, sz10, sz11, sz12, sz13, sz14, sz15, sz16, Nat.reduceSub, Nat.reduceLeDiff, reduceCtorEq, Bool.and_true, Bool.true_and, Bool.and_false, Bool.false_and, Bool.or_true, Bool.or_false, Bool.true_or, Bool.false_or, bLen_tup, opInt_int]
      by_cases h1 : fs.length ≤ 6
      · simp only [eVar_ap, eK_ap, aNil_ap, aCons_ap, eOp2_ap, eOp1_ap, eChain_ap, bOf_ap, bNot_ap, bAnd_ap, bOr_ap, eAnd_ap, eOr_ap, eNot_ap, eIf_ap, eTup_ap, eLst_ap, eLstM_ap, cNop_ap, cBreak_ap, cCont_ap, cSeq_ap, cExpr_ap, cSet_ap, cRet_ap, cRetN_ap, cIf_ap, cAsg_ap, cPar2_ap, cPar3_ap, bYes_ap, eCall_ap, oNone_ap, oSome_ap, eSl_ap, cFor_ap, eMtL_ap, aKw_ap, gNm_ap, gTp2, gTp3, gSb_ap, Out.bind, Out.ofO, exq, fin, callE_ap, List.getElem?_cons_succ, List.getElem?_cons_zero, List.set_cons_succ, List.set_cons_zero, List.map_cons, List.map_nil, List.replicate, List.cons_append, List.nil_append, List.length_cons, List.length_nil, Bool.not_true, Bool.not_false, if_true, if_false, ite_true, ite_false, reduceIte, Bool.false_eq_true, Bool.true_eq_false, Nat.reduceAdd, unD, Option.map_some, Nat.zero_le, sz1, sz2, sz3, sz4, sz5, sz6, sz7, sz8, sz9, sz10, sz11, sz12, sz13, sz14, sz15, sz16, Nat.reduceSub, Nat.reduceLeDiff, reduceCtorEq, Bool.and_true, Bool.true_and, Bool.and_false, Bool.false_and, Bool.or_true, Bool.or_false, Bool.true_or, Bool.false_or, show decide ((6 : Int) < (fs.length : Int)) = false from decide_eq_false (by omega)]
        rw [eLc_y fs W.d (fun x => .bool (lowN x)) (grd := fun _ => True) (iSq_tup rfl) trivial (len_le hf.1) fun x hx => ⟨_, rfl, by simp only [eVar_ap, eK_ap, aNil_ap, aCons_ap, eOp2_ap, eOp1_ap, eChain_ap, bOf_ap, bNot_ap, bAnd_ap, bOr_ap, eAnd_ap, eOr_ap, eNot_ap, eIf_ap, eTup_ap, eLst_ap, eLstM_ap, cNop_ap, cBreak_ap, cCont_ap, cSeq_ap, cExpr_ap, cSet_ap, cRet_ap, cRetN_ap, cIf_ap, cAsg_ap, cPar2_ap, cPar3_ap, bYes_ap, eCall_ap, oNone_ap, oSome_ap, eSl_ap, cFor_ap, eMtL_ap, aKw_ap, gNm_ap, gTp2, gTp3, gSb_ap, Out.bind, Out.ofO, exq, fin, callE_ap, List.getElem?_cons_succ, List.getElem?_cons_zero, List.set_cons_succ, List.set_cons_zero, List.map_cons, List.map_nil, List.replicate, List.cons_append, List.nil_append, List.length_cons, List.length_nil, Bool.not_true, Bool.not_false, if_true, if_false, ite_true, ite_false, reduceIte, Bool.false_eq_true, Bool.true_eq_false, Nat.reduceAdd, unD, Option.map_some, Nat.zero_le, sz1, sz2, sz3, sz4, sz5, sz6, sz7, sz8, sz9, sz10, sz11, sz12, sz13, sz14, sz15, sz16, Nat.reduceSub, Nat.reduceLeDiff, reduceCtorEq, Bool.and_true, Bool.true_and, Bool.and_false, Bool.false_and, Bool.or_true, Bool.or_false, Bool.true_or, Bool.false_or, wipeR, callP_d (law_low_ok (hf.2 x hx))]⟩]
        simp only [eVar_ap, eK_ap, aNil_ap, aCons_ap, eOp2_ap, eOp1_ap, eChain_ap, bOf_ap, bNot_ap, bAnd_ap, bOr_ap, eAnd_ap, eOr_ap, eNot_ap, eIf_ap, eTup_ap, eLst_ap, eLstM_ap, cNop_ap, cBreak_ap, cCont_ap, cSeq_ap, cExpr_ap, cSet_ap, cRet_ap, cRetN_ap, cIf_ap, cAsg_ap, cPar2_ap, cPar3_ap, bYes_ap, eCall_ap, oNone_ap, oSome_ap, eSl_ap, cFor_ap, eMtL_ap, aKw_ap, gNm_ap, gTp2, gTp3, gSb_ap, Out.bind, Out.ofO, exq, fin, callE_ap, List.getElem?_cons_succ, List.getElem?_cons_zero, List.set_cons_succ, List.set_cons_zero, List.map_cons, List.map_nil, List.replicate, List.cons_append, List.nil_append, List.length_cons, List.length_nil, Bool.not_true, Bool.not_false, if_true, if_false, ite_true, ite_false, reduceIte, Bool.false_eq_true, Bool.true_eq_false, Nat.reduceAdd, unD, Option.map_some, Nat.zero_le, sz1, sz2, sz3, sz4, sz5, sz6, sz7, sz8, sz9, sz10, sz11, sz12, sz13, sz14, sz15, sz16, Nat.reduceSub, Nat.reduceLeDiff, reduceCtorEq, Bool.and_true, Bool.true_and, Bool.and_false, Bool.false_and, Bool.or_true, Bool.or_false, Bool.true_or, Bool.false_or, bAll_map]
        cases h2 : fs.all lowN
        · simp only [eVar_ap, eK_ap, aNil_ap, aCons_ap, eOp2_ap, eOp1_ap, eChain_ap, bOf_ap, bNot_ap, bAnd_ap, bOr_ap, eAnd_ap, eOr_ap, eNot_ap, eIf_ap, eTup_ap, eLst_ap, eLstM_ap, cNop_ap, cBreak_ap, cCont_ap, cSeq_ap, cExpr_ap, cSet_ap, cRet_ap, cRetN_ap, cIf_ap, cAsg_ap, cPar2_ap, cPar3_ap, bYes_ap, eCall_ap, oNone_ap, oSome_ap, eSl_ap, cFor_ap, eMtL_ap, aKw_ap, gNm_ap, gTp2, gTp3, gSb_ap, Out.bind, Out.ofO, exq, fin, callE_ap, List.getElem?_cons_succ, List.getElem?_cons_zero, List.set_cons_succ, List.set_cons_zero, List.map_cons, List.map_nil, List.replicate, List.cons_append, List.nil_append, List.length_cons, List.length_nil, Bool.not_true, Bool.not_false, if_true, if_false, ite_true, ite_false, reduceIte, Bool.false_eq_true, Bool.true_eq_false, Nat.reduceAdd, unD, Option.map_some, Nat.zero_le, sz1, sz2, sz3, sz4, sz5, sz6, sz7, sz8, sz9, sz10, sz11, sz12, sz13, sz14, sz15, sz16, Nat.reduceSub, Nat.reduceLeDiff, reduceCtorEq, Bool.and_true, Bool.true_and, Bool.and_false, Bool.false_and, Bool.or_true, Bool.or_false, Bool.true_or, Bool.false_or, tbl, fOk, h2]
        · simp only [eVar_ap, eK_ap, aNil_ap, aCons_ap, eOp2_ap, eOp1_ap, eChain_ap, bOf_ap, bNot_ap, bAnd_ap, bOr_ap, eAnd_ap, eOr_ap, eNot_ap, eIf_ap, eTup_ap, eLst_ap, eLstM_ap, cNop_ap, cBreak_ap, cCont_ap, cSeq_ap, cExpr_ap, cSet_ap, cRet_ap, cRetN_ap, cIf_ap, cAsg_ap, cPar2_ap, cPar3_ap, bYes_ap, eCall_ap, oNone_ap, oSome_ap, eSl_ap, cFor_ap, eMtL_ap, aKw_ap, gNm_ap, gTp2, gTp3, gSb_ap, Out.bind, Out.ofO, exq, fin, callE_ap, List.getElem?_cons_succ, List.getElem?_cons_zero, List.set_cons_succ, List.set_cons_zero, List.map_cons, List.map_nil, List.replicate, List.cons_append, List.nil_append, List.length_cons, List.length_nil, Bool.not_true, Bool.not_false, if_true, if_false, ite_true, ite_false, reduceIte, Bool.false_eq_true, Bool.true_eq_false, Nat.reduceAdd, unD, Option.map_some, Nat.zero_le, sz1, sz2, sz3, sz4, sz5, sz6, sz7, sz8, sz9, sz10, sz11, sz12, sz13, sz14, sz15, sz16, Nat.reduceSub, Nat.reduceLeDiff, reduceCtorEq, Bool.and_true, Bool.true_and, Bool.and_false, Bool.false_and, Bool.or_true, Bool.or_false, Bool.true_or, Bool.false_or]
          have e : ((fs.length : Int) - 1).toNat = fs.length - 1 := by omega
          rw [eLc_d (List.range (fs.length - 1)) (fun (k : Nat) => .d (.int (k : Int))) (fun k => .int (k : Int)) (fun k => !ltD (fs.getD k .none) (fs.getD (k + 1) .none)) (grd := fun _ => True) (by rw [← e]; exact iRg1_at (by simp only [eVar_ap, eK_ap, aNil_ap, aCons_ap, eOp2_ap, eOp1_ap, eChain_ap, bOf_ap, bNot_ap, bAnd_ap, bOr_ap, eAnd_ap, eOr_ap, eNot_ap, eIf_ap, eTup_ap, eLst_ap, eLstM_ap, cNop_ap, cBreak_ap, cCont_ap, cSeq_ap, cExpr_ap, cSet_ap, cRet_ap, cRetN_ap, cIf_ap, cAsg_ap, cPar2_ap, cPar3_ap, bYes_ap, eCall_ap, oNone_ap, oSome_ap, eSl_ap, cFor_ap, eMtL_ap, aKw_ap, gNm_ap, gTp2, gTp3, gSb_ap, Out.bind, Out.ofO, exq, fin, callE_ap, List.getElem?_cons_succ, List.getElem?_cons_zero, List.set_cons_succ, List.set_cons_zero, List.map_cons, List.map_nil, List.replicate, List.cons_append, List.nil_append, List.length_cons, List.length_nil, Bool.not_true, Bool.not_false, if_true, if_false, ite_true, ite_false, reduceIte, Bool.false_eq_true, Bool.true_eq_false, Nat.reduceAdd, unD, Option.map_some, Nat.zero_le, sz1, sz2, sz3, sz4, sz5, sz6, sz7, sz8, sz9, sz10, sz11, sz12, sz13, sz14, sz15, sz16, Nat.reduceSub, Nat.reduceLeDiff, reduceCtorEq, Bool.and_true, Bool.true_and, Bool.and_false, Bool.false_and, Bool.or_true, Bool.or_false, Bool.true_or, Bool.false_or, bLen_tup, opSub_int]) ⟨by omega, by omega⟩) trivial (by rw [List.length_range]; exact len_le (by omega)) fun k hk => ?_]
          · simp only [eVar_ap, eK_ap, aNil_ap, aCons_ap, eOp2_ap, eOp1_ap, eChain_ap, bOf_ap, bNot_ap, bAnd_ap, bOr_ap, eAnd_ap, eOr_ap, eNot_ap, eIf_ap, eTup_ap, eLst_ap, eLstM_ap, cNop_ap, cBreak_ap, cCont_ap, cSeq_ap, cExpr_ap, cSet_ap, cRet_ap, cRetN_ap, cIf_ap, cAsg_ap, cPar2_ap, cPar3_ap, bYes_ap, eCall_ap, oNone_ap, oSome_ap, eSl_ap, cFor_ap, eMtL_ap, aKw_ap, gNm_ap, gTp2, gTp3, gSb_ap, Out.bind, Out.ofO, exq, fin, callE_ap, List.getElem?_cons_succ, List.getElem?_cons_zero, List.set_cons_succ, List.set_cons_zero, List.map_cons, List.map_nil, List.replicate, List.cons_append, List.nil_append, List.length_cons, List.length_nil, Bool.not_true, Bool.not_false, if_true, if_false, ite_true, ite_false, reduceIte, Bool.false_eq_true, Bool.true_eq_false, Nat.reduceAdd, unD, Option.map_some, Nat.zero_le, sz1, sz2, sz3, sz4, sz5, sz6, sz7, sz8, sz9, sz10, sz11, sz12, sz13, sz14, sz15, sz16, Nat.reduceSub, Nat.reduceLeDiff, reduceCtorEq, Bool.and_true, Bool.true_and, Bool.and_false, Bool.false_and, Bool.or_true, Bool.or_false, Bool.true_or, Bool.false_or]
            rw [opNe_sh (n := 1) (m := 1) (sm_list.2 ⟨by rw [List.length_map]; exact Nat.le_trans (List.length_filter_le _ _) (by rw [List.length_range]; omega), fun x hx => ?_⟩) rfl]
            · have ea : ((List.range (fs.length - 1)).filter fun k => !ltD (fs.getD k .none) (fs.getD (k + 1) .none)).isEmpty = ascD fs := by
                rw [ascD_range, Bool.eq_iff_iff]
                simp only [List.isEmpty_iff, List.filter_eq_nil_iff, List.all_eq_true, Bool.not_eq_true', Bool.not_eq_false]
              simp only [eVar_ap, eK_ap, aNil_ap, aCons_ap, eOp2_ap, eOp1_ap, eChain_ap, bOf_ap, bNot_ap, bAnd_ap, bOr_ap, eAnd_ap, eOr_ap, eNot_ap, eIf_ap, eTup_ap, eLst_ap, eLstM_ap, cNop_ap, cBreak_ap, cCont_ap, cSeq_ap, cExpr_ap, cSet_ap, cRet_ap, cRetN_ap, cIf_ap, cAsg_ap, cPar2_ap, cPar3_ap, bYes_ap, eCall_ap, oNone_ap, oSome_ap, eSl_ap, cFor_ap, eMtL_ap, aKw_ap, gNm_ap, gTp2, gTp3, gSb_ap, Out.bind, Out.ofO, exq, fin, callE_ap, List.getElem?_cons_succ, List.getElem?_cons_zero, List.set_cons_succ, List.set_cons_zero, List.map_cons, List.map_nil, List.replicate, List.cons_append, List.nil_append, List.length_cons, List.length_nil, Bool.not_true, Bool.not_false, if_true, if_false, ite_true, ite_false, reduceIte, Bool.false_eq_true, Bool.true_eq_false, Nat.reduceAdd, unD, Option.map_some, Nat.zero_le, sz1, sz2, sz3, sz4, sz5, sz6, sz7, sz8, sz9, sz10, sz11, sz12, sz13, sz14, sz15, sz16, Nat.reduceSub, Nat.reduceLeDiff, reduceCtorEq, Bool.and_true, Bool.true_and, Bool.and_false, Bool.false_and, Bool.or_true, Bool.or_false, Bool.true_or, Bool.false_or, eqv_lnil, List.isEmpty_map, ea]
              cases h3 : ascD fs
              · simp only [eVar_ap, eK_ap, aNil_ap, aCons_ap, eOp2_ap, eOp1_ap, eChain_ap, bOf_ap, bNot_ap, bAnd_ap, bOr_ap, eAnd_ap, eOr_ap, eNot_ap, eIf_ap, eTup_ap, eLst_ap, eLstM_ap, cNop_ap, cBreak_ap, cCont_ap, cSeq_ap, cExpr_ap, cSet_ap, cRet_ap, cRetN_ap, cIf_ap, cAsg_ap, cPar2_ap, cPar3_ap, bYes_ap, eCall_ap, oNone_ap, oSome_ap, eSl_ap, cFor_ap, eMtL_ap, aKw_ap, gNm_ap, gTp2, gTp3, gSb_ap, Out.bind, Out.ofO, exq, fin, callE_ap, List.getElem?_cons_succ, List.getElem?_cons_zero, List.set_cons_succ, List.set_cons_zero, List.map_cons, List.map_nil, List.replicate, List.cons_append, List.nil_append, List.length_cons, List.length_nil, Bool.not_true, Bool.not_false, if_true, if_false, ite_true, ite_false, reduceIte, Bool.false_eq_true, Bool.true_eq_false, Nat.reduceAdd, unD, Option.map_some, Nat.zero_le, sz1, sz2, sz3, sz4, sz5, sz6, sz7, sz8, sz9, sz10, sz11, sz12, sz13, sz14, sz15, sz16, Nat.reduceSub, Nat.reduceLeDiff, reduceCtorEq, Bool.and_true, Bool.true_and, Bool.and_false, Bool.false_and, Bool.or_true, Bool.or_false, Bool.true_or, Bool.false_or, tbl, fOk, h2, h3]
              · simp only [eVar_ap, eK_ap, aNil_ap, aCons_ap, eOp2_ap, eOp1_ap, eChain_ap, bOf_ap, bNot_ap, bAnd_ap, bOr_ap, eAnd_ap, eOr_ap, eNot_ap, eIf_ap, eTup_ap, eLst_ap, eLstM_ap, cNop_ap, cBreak_ap, cCont_ap, cSeq_ap, cExpr_ap, cSet_ap, cRet_ap, cRetN_ap, cIf_ap, cAsg_ap, cPar2_ap, cPar3_ap, bYes_ap, eCall_ap, oNone_ap, oSome_ap, eSl_ap, cFor_ap, eMtL_ap, aKw_ap, gNm_ap, gTp2, gTp3, gSb_ap, Out.bind, Out.ofO, exq, fin, callE_ap, List.getElem?_cons_succ, List.getElem?_cons_zero, List.set_cons_succ, List.set_cons_zero, List.map_cons, List.map_nil, List.replicate, List.cons_append, List.nil_append, List.length_cons, List.length_nil, Bool.not_true, Bool.not_false, if_true, if_false, ite_true, ite_false, reduceIte, Bool.false_eq_true, Bool.true_eq_false, Nat.reduceAdd, unD, Option.map_some, Nat.zero_le, sz1, sz2, sz3, sz4, sz5, sz6, sz7, sz8, sz9, sz10, sz11, sz12, sz13, sz14, sz15, sz16, Nat.reduceSub, Nat.reduceLeDiff, reduceCtorEq, Bool.and_true, Bool.true_and, Bool.and_false, Bool.false_and, Bool.or_true, Bool.or_false, Bool.true_or, Bool.false_or, bLen_tup, opInt_int]
                have efs : fOk (.tuple fs) = true := by simp only [fOk, h2, h3, Bool.and_self]
                by_cases b1 : 1 ≤ ws.length
                · simp only [eVar_ap, eK_ap, aNil_ap, aCons_ap, eOp2_ap, eOp1_ap, eChain_ap, bOf_ap, bNot_ap, bAnd_ap, bOr_ap, eAnd_ap, eOr_ap, eNot_ap, eIf_ap, eTup_ap, eLst_ap, eLstM_ap, cNop_ap, cBreak_ap, cCont_ap, cSeq_ap, cExpr_ap, cSet_ap, cRet_ap, cRetN_ap, cIf_ap, cAsg_ap, cPar2_ap, cPar3_ap, bYes_ap, eCall_ap, oNone_ap, oSome_ap, eSl_ap, cFor_ap, eMtL_ap, aKw_ap, gNm_ap, gTp2, gTp3, gSb_ap, Out.bind, Out.ofO, exq, fin, callE_ap, List.getElem?_cons_succ, List.getElem?_cons_zero, List.set_cons_succ, List.set_cons_zero, List.map_cons, List.map_nil, List.replicate, List.cons_append, List.nil_append, List.length_cons, List.length_nil, Bool.not_true, Bool.not_false, if_true, if_false, ite_true, ite_false, reduceIte, Bool.false_eq_true, Bool.true_eq_false, Nat.reduceAdd, unD, Option.map_some, Nat.zero_le, sz1, sz2, sz3, sz4, sz5, sz6, sz7, sz8, sz9, sz10, sz11, sz12, sz13, sz14, sz15, sz16, Nat.reduceSub, Nat.reduceLeDiff, reduceCtorEq, Bool.and_true, Bool.true_and, Bool.and_false, Bool.false_and, Bool.or_true, Bool.or_false, Bool.true_or, Bool.false_or, show decide ((1 : Int) ≤ (ws.length : Int)) = true from decide_eq_true (by omega)]
                  by_cases b2 : ws.length ≤ 16
                  · simp only [eVar_ap, eK_ap, aNil_ap, aCons_ap, eOp2_ap, eOp1_ap, eChain_ap, bOf_ap, bNot_ap, bAnd_ap, bOr_ap, eAnd_ap, eOr_ap, eNot_ap, eIf_ap, eTup_ap, eLst_ap, eLstM_ap, cNop_ap, cBreak_ap, cCont_ap, cSeq_ap, cExpr_ap, cSet_ap, cRet_ap, cRetN_ap, cIf_ap, cAsg_ap, cPar2_ap, cPar3_ap, bYes_ap, eCall_ap, oNone_ap, oSome_ap, eSl_ap, cFor_ap, eMtL_ap, aKw_ap, gNm_ap, gTp2, gTp3, gSb_ap, Out.bind, Out.ofO, exq, fin, callE_ap, List.getElem?_cons_succ, List.getElem?_cons_zero, List.set_cons_succ, List.set_cons_zero, List.map_cons, List.map_nil, List.replicate, List.cons_append, List.nil_append, List.length_cons, List.length_nil, Bool.not_true, Bool.not_false, if_true, if_false, ite_true, ite_false, reduceIte, Bool.false_eq_true, Bool.true_eq_false, Nat.reduceAdd, unD, Option.map_some, Nat.zero_le, sz1, sz2, sz3, sz4, sz5, sz6, sz7, sz8, sz9, sz10, sz11, sz12, sz13, sz14, sz15, sz16, Nat.reduceSub, Nat.reduceLeDiff, reduceCtorEq, Bool.and_true, Bool.true_and, Bool.and_false, Bool.false_and, Bool.or_true, Bool.or_false, Bool.true_or, Bool.false_or, show decide ((ws.length : Int) ≤ 16) = true from decide_eq_true (by omega)]
                    by_cases b3 : 1 ≤ ms.length
                    · simp only [eVar_ap, eK_ap, aNil_ap, aCons_ap, eOp2_ap, eOp1_ap, eChain_ap, bOf_ap, bNot_ap, bAnd_ap, bOr_ap, eAnd_ap, eOr_ap, eNot_ap, eIf_ap, eTup_ap, eLst_ap, eLstM_ap, cNop_ap, cBreak_ap, cCont_ap, cSeq_ap, cExpr_ap, cSet_ap, cRet_ap, cRetN_ap, cIf_ap, cAsg_ap, cPar2_ap, cPar3_ap, bYes_ap, eCall_ap, oNone_ap, oSome_ap, eSl_ap, cFor_ap, eMtL_ap, aKw_ap, gNm_ap, gTp2, gTp3, gSb_ap, Out.bind, Out.ofO, exq, fin, callE_ap, List.getElem?_cons_succ, List.getElem?_cons_zero, List.set_cons_succ, List.set_cons_zero, List.map_cons, List.map_nil, List.replicate, List.cons_append, List.nil_append, List.length_cons, List.length_nil, Bool.not_true, Bool.not_false, if_true, if_false, ite_true, ite_false, reduceIte, Bool.false_eq_true, Bool.true_eq_false, Nat.reduceAdd, unD, Option.map_some, Nat.zero_le, sz1, sz2, sz3, sz4, sz5, sz6, sz7, sz8, sz9, sz10, sz11, sz12, sz13, sz14, sz15, sz16, Nat.reduceSub, Nat.reduceLeDiff, reduceCtorEq, Bool.and_true, Bool.true_and, Bool.and_false, Bool.false_and, Bool.or_true, Bool.or_false, Bool.true_or, Bool.false_or, bLen_tup, opInt_int, show decide ((1 : Int) ≤ (ms.length : Int)) = true from decide_eq_true (by omega)]
                      by_cases b4 : ms.length ≤ 4
                      · simp only [eVar_ap, eK_ap, aNil_ap, aCons_ap, eOp2_ap, eOp1_ap, eChain_ap, bOf_ap, bNot_ap, bAnd_ap, bOr_ap, eAnd_ap, eOr_ap, eNot_ap, eIf_ap, eTup_ap, eLst_ap, eLstM_ap, cNop_ap, cBreak_ap, cCont_ap, cSeq_ap, cExpr_ap, cSet_ap, cRet_ap, cRetN_ap, cIf_ap, cAsg_ap, cPar2_ap, cPar3_ap, bYes_ap, eCall_ap, oNone_ap, oSome_ap, eSl_ap, cFor_ap, eMtL_ap, aKw_ap, gNm_ap, gTp2, gTp3, gSb_ap, Out.bind, Out.ofO, exq, fin, callE_ap, List.getElem?_cons_succ, List.getElem?_cons_zero, List.set_cons_succ, List.set_cons_zero, List.map_cons, List.map_nil, List.replicate, List.cons_append, List.nil_append, List.length_cons, List.length_nil, Bool.not_true, Bool.not_false, if_true, if_false, ite_true, ite_false, reduceIte, Bool.false_eq_true, Bool.true_eq_false, Nat.reduceAdd, unD, Option.map_some, Nat.zero_le, sz1, sz2, sz3, sz4, sz5, sz6, sz7, sz8, sz9, sz10, sz11, sz12, sz13, sz14, sz15, sz16, Nat.reduceSub, Nat.reduceLeDiff, reduceCtorEq, Bool.and_true, Bool.true_and, Bool.and_false, Bool.false_and, Bool.or_true, Bool.or_false, Bool.true_or, Bool.false_or, show decide ((ms.length : Int) ≤ 4) = true from decide_eq_true (by omega)]
                        rw [eLc_y ws W.d (fun x => .bool (ixOk x fs.length)) (grd := fun _ => True) (iSq_tup rfl) trivial (len_le hw.1) fun x hx => ⟨_, rfl, by simp only [eVar_ap, eK_ap, aNil_ap, aCons_ap, eOp2_ap, eOp1_ap, eChain_ap, bOf_ap, bNot_ap, bAnd_ap, bOr_ap, eAnd_ap, eOr_ap, eNot_ap, eIf_ap, eTup_ap, eLst_ap, eLstM_ap, cNop_ap, cBreak_ap, cCont_ap, cSeq_ap, cExpr_ap, cSet_ap, cRet_ap, cRetN_ap, cIf_ap, cAsg_ap, cPar2_ap, cPar3_ap, bYes_ap, eCall_ap, oNone_ap, oSome_ap, eSl_ap, cFor_ap, eMtL_ap, aKw_ap, gNm_ap, gTp2, gTp3, gSb_ap, Out.bind, Out.ofO, exq, fin, callE_ap, List.getElem?_cons_succ, List.getElem?_cons_zero, List.set_cons_succ, List.set_cons_zero, List.map_cons, List.map_nil, List.replicate, List.cons_append, List.nil_append, List.length_cons, List.length_nil, Bool.not_true, Bool.not_false, if_true, if_false, ite_true, ite_false, reduceIte, Bool.false_eq_true, Bool.true_eq_false, Nat.reduceAdd, unD, Option.map_some, Nat.zero_le, sz1, sz2, sz3, sz4, sz5, sz6, sz7, sz8, sz9, sz10, sz11, sz12, sz13, sz14, sz15, sz16, Nat.reduceSub, Nat.reduceLeDiff, reduceCtorEq, Bool.and_true, Bool.true_and, Bool.and_false, Bool.false_and, Bool.or_true, Bool.or_false, Bool.true_or, Bool.false_or, wipeR, bLen_tup, callP_d (law_ixs_ok (hw.2 x hx))]⟩]
                        simp only [eVar_ap, eK_ap, aNil_ap, aCons_ap, eOp2_ap, eOp1_ap, eChain_ap, bOf_ap, bNot_ap, bAnd_ap, bOr_ap, eAnd_ap, eOr_ap, eNot_ap, eIf_ap, eTup_ap, eLst_ap, eLstM_ap, cNop_ap, cBreak_ap, cCont_ap, cSeq_ap, cExpr_ap, cSet_ap, cRet_ap, cRetN_ap, cIf_ap, cAsg_ap, cPar2_ap, cPar3_ap, bYes_ap, eCall_ap, oNone_ap, oSome_ap, eSl_ap, cFor_ap, eMtL_ap, aKw_ap, gNm_ap, gTp2, gTp3, gSb_ap, Out.bind, Out.ofO, exq, fin, callE_ap, List.getElem?_cons_succ, List.getElem?_cons_zero, List.set_cons_succ, List.set_cons_zero, List.map_cons, List.map_nil, List.replicate, List.cons_append, List.nil_append, List.length_cons, List.length_nil, Bool.not_true, Bool.not_false, if_true, if_false, ite_true, ite_false, reduceIte, Bool.false_eq_true, Bool.true_eq_false, Nat.reduceAdd, unD, Option.map_some, Nat.zero_le, sz1, sz2, sz3, sz4, sz5, sz6, sz7, sz8, sz9, sz10, sz11, sz12, sz13, sz14, sz15, sz16, Nat.reduceSub, Nat.reduceLeDiff, reduceCtorEq, Bool.and_true, Bool.true_and, Bool.and_false, Bool.false_and, Bool.or_true, Bool.or_false, Bool.true_or, Bool.false_or, bAll_map]
                        have et : tbl (.tuple [.tuple fs, .tuple ws, .tuple ms]) = ((ws.all fun x => ixOk x fs.length) && ms.all fun x => mtOk x ws.length) := by
                          have i1 : ws.isEmpty = false := by cases ws <;> first | rfl | cases b1
                          have i2 : ms.isEmpty = false := by cases ms <;> first | rfl | cases b3
                          simp only [tbl, efs, wOk, mOk, i1, i2, szD, h1, b2, b4, decide_true, Bool.not_false, Bool.true_and, Bool.and_true]
                        cases h4 : ws.all (fun x => ixOk x fs.length)
                        · simp only [eVar_ap, eK_ap, aNil_ap, aCons_ap, eOp2_ap, eOp1_ap, eChain_ap, bOf_ap, bNot_ap, bAnd_ap, bOr_ap, eAnd_ap, eOr_ap, eNot_ap, eIf_ap, eTup_ap, eLst_ap, eLstM_ap, cNop_ap, cBreak_ap, cCont_ap, cSeq_ap, cExpr_ap, cSet_ap, cRet_ap, cRetN_ap, cIf_ap, cAsg_ap, cPar2_ap, cPar3_ap, bYes_ap, eCall_ap, oNone_ap, oSome_ap, eSl_ap, cFor_ap, eMtL_ap, aKw_ap, gNm_ap, gTp2, gTp3, gSb_ap, Out.bind, Out.ofO, exq, fin, callE_ap, List.getElem?_cons_succ, List.getElem?_cons_zero, List.set_cons_succ, List.set_cons_zero, List.map_cons, List.map_nil, List.replicate, List.cons_append, List.nil_append, List.length_cons, List.length_nil, Bool.not_true, Bool.not_false, if_true, if_false, ite_true, ite_false, reduceIte, Bool.false_eq_true, Bool.true_eq_false, Nat.reduceAdd, unD, Option.map_some, Nat.zero_le, sz1, sz2, sz3, sz4, sz5, sz6, sz7, sz8, sz9, sz10, sz11, sz12, sz13, sz14, sz15, sz16, Nat.reduceSub, Nat.reduceLeDiff, reduceCtorEq, Bool.and_true, Bool.true_and, Bool.and_false, Bool.false_and, Bool.or_true, Bool.or_false, Bool.true_or, Bool.false_or, et, h4]
                        · simp only [eVar_ap, eK_ap, aNil_ap, aCons_ap, eOp2_ap, eOp1_ap, eChain_ap, bOf_ap, bNot_ap, bAnd_ap, bOr_ap, eAnd_ap, eOr_ap, eNot_ap, eIf_ap, eTup_ap, eLst_ap, eLstM_ap, cNop_ap, cBreak_ap, cCont_ap, cSeq_ap, cExpr_ap, cSet_ap, cRet_ap, cRetN_ap, cIf_ap, cAsg_ap, cPar2_ap, cPar3_ap, bYes_ap, eCall_ap, oNone_ap, oSome_ap, eSl_ap, cFor_ap, eMtL_ap, aKw_ap, gNm_ap, gTp2, gTp3, gSb_ap, Out.bind, Out.ofO, exq, fin, callE_ap, List.getElem?_cons_succ, List.getElem?_cons_zero, List.set_cons_succ, List.set_cons_zero, List.map_cons, List.map_nil, List.replicate, List.cons_append, List.nil_append, List.length_cons, List.length_nil, Bool.not_true, Bool.not_false, if_true, if_false, ite_true, ite_false, reduceIte, Bool.false_eq_true, Bool.true_eq_false, Nat.reduceAdd, unD, Option.map_some, Nat.zero_le, sz1, sz2, sz3, sz4, sz5, sz6, sz7, sz8, sz9, sz10, sz11, sz12, sz13, sz14, sz15, sz16, Nat.reduceSub, Nat.reduceLeDiff, reduceCtorEq, Bool.and_true, Bool.true_and, Bool.and_false, Bool.false_and, Bool.or_true, Bool.or_false, Bool.true_or, Bool.false_or]
                          rw [iSq_tup (xs := ms) rfl]
                          simp only [eVar_ap, eK_ap, aNil_ap, aCons_ap, eOp2_ap, eOp1_ap, eChain_ap, bOf_ap, bNot_ap, bAnd_ap, bOr_ap, eAnd_ap, eOr_ap, eNot_ap, eIf_ap, eTup_ap, eLst_ap, eLstM_ap, cNop_ap, cBreak_ap, cCont_ap, cSeq_ap, cExpr_ap, cSet_ap, cRet_ap, cRetN_ap, cIf_ap, cAsg_ap, cPar2_ap, cPar3_ap, bYes_ap, eCall_ap, oNone_ap, oSome_ap, eSl_ap, cFor_ap, eMtL_ap, aKw_ap, gNm_ap, gTp2, gTp3, gSb_ap, Out.bind, Out.ofO, exq, fin, callE_ap, List.getElem?_cons_succ, List.getElem?_cons_zero, List.set_cons_succ, List.set_cons_zero, List.map_cons, List.map_nil, List.replicate, List.cons_append, List.nil_append, List.length_cons, List.length_nil, Bool.not_true, Bool.not_false, if_true, if_false, ite_true, ite_false, reduceIte, Bool.false_eq_true, Bool.true_eq_false, Nat.reduceAdd, unD, Option.map_some, Nat.zero_le, sz1, sz2, sz3, sz4, sz5, sz6, sz7, sz8, sz9, sz10, sz11, sz12, sz13, sz14, sz15, sz16, Nat.reduceSub, Nat.reduceLeDiff, reduceCtorEq, Bool.and_true, Bool.true_and, Bool.and_false, Bool.false_and, Bool.or_true, Bool.or_false, Bool.true_or, Bool.false_or]
                          have hloop := forL_all (mk := W.d) (grd := fun _ => True) (g := gNm 4) (body := bRow)
                            (S := S) (t := fun x => mtOk x ws.length) (w0 := .d (.bool false)) (P := fun ρ => ∃ a, ρ = [some (W.d (.tuple [.tuple fs, .tuple ws, .tuple ms])), some (.d (.tuple fs)), some (.d (.tuple ws)), some (.d (.tuple ms)), a, none, none, none, none]) trivial ms ?_ _ ⟨none, rfl⟩
                          · unfold bRow at hloop
                            cases h5 : ms.all (fun x => mtOk x ws.length)
                            · rw [show forL _ _ _ _ _ _ = _ from hloop.2 h5]; simp only [eVar_ap, eK_ap, aNil_ap, aCons_ap, eOp2_ap, eOp1_ap, eChain_ap, bOf_ap, bNot_ap, bAnd_ap, bOr_ap, eAnd_ap, eOr_ap, eNot_ap, eIf_ap, eTup_ap, eLst_ap, eLstM_ap, cNop_ap, cBreak_ap, cCont_ap, cSeq_ap, cExpr_ap, cSet_ap, cRet_ap, cRetN_ap, cIf_ap, cAsg_ap, cPar2_ap, cPar3_ap, bYes_ap, eCall_ap, oNone_ap, oSome_ap, eSl_ap, cFor_ap, eMtL_ap, aKw_ap, gNm_ap, gTp2, gTp3, gSb_ap, Out.bind, Out.ofO, exq, fin, callE_ap, List.getElem?_cons_succ, List.getElem?_cons_zero, List.set_cons_succ, List.set_cons_zero, List.map_cons, List.map_nil, List.replicate, List.cons_append, List.nil_append, List.length_cons, List.length_nil, Bool.not_true, Bool.not_false, if_true, if_false, ite_true, ite_false, reduceIte, Bool.false_eq_true, Bool.true_eq_false, Nat.reduceAdd, unD, Option.map_some, Nat.zero_le, sz1, sz2, sz3, sz4, sz5, sz6, sz7, sz8, sz9, sz10, sz11, sz12, sz13, sz14, sz15, sz16, Nat.reduceSub, Nat.reduceLeDiff, reduceCtorEq, Bool.and_true, Bool.true_and, Bool.and_false, Bool.false_and, Bool.or_true, Bool.or_false, Bool.true_or, Bool.false_or, et, h4, h5]
                            · obtain ⟨ρ', _, e5⟩ := hloop.1 h5
                              rw [show forL _ _ _ _ _ _ = _ from e5]; simp only [eVar_ap, eK_ap, aNil_ap, aCons_ap, eOp2_ap, eOp1_ap, eChain_ap, bOf_ap, bNot_ap, bAnd_ap, bOr_ap, eAnd_ap, eOr_ap, eNot_ap, eIf_ap, eTup_ap, eLst_ap, eLstM_ap, cNop_ap, cBreak_ap, cCont_ap, cSeq_ap, cExpr_ap, cSet_ap, cRet_ap, cRetN_ap, cIf_ap, cAsg_ap, cPar2_ap, cPar3_ap, bYes_ap, eCall_ap, oNone_ap, oSome_ap, eSl_ap, cFor_ap, eMtL_ap, aKw_ap, gNm_ap, gTp2, gTp3, gSb_ap, Out.bind, Out.ofO, exq, fin, callE_ap, List.getElem?_cons_succ, List.getElem?_cons_zero, List.set_cons_succ, List.set_cons_zero, List.map_cons, List.map_nil, List.replicate, List.cons_append, List.nil_append, List.length_cons, List.length_nil, Bool.not_true, Bool.not_false, if_true, if_false, ite_true, ite_false, reduceIte, Bool.false_eq_true, Bool.true_eq_false, Nat.reduceAdd, unD, Option.map_some, Nat.zero_le, sz1, sz2, sz3, sz4, sz5, sz6, sz7, sz8, sz9, sz10, sz11, sz12, sz13, sz14, sz15, sz16, Nat.reduceSub, Nat.reduceLeDiff, reduceCtorEq, Bool.and_true, Bool.true_and, Bool.and_false, Bool.false_and, Bool.or_true, Bool.or_false, Bool.true_or, Bool.false_or, et, h4, h5]
                          · rintro x hx _ ⟨a, rfl⟩
                            have hr := law_row (S := S) (ws := ws) (ms := ms) (fs := fs) (t := .tuple [.tuple fs, .tuple ws, .tuple ms]) (hm.2 x hx)
                            exact ⟨_, rfl, fun h => ⟨_, .inl (by rw [if_pos h] at hr; exact hr), _, rfl⟩, fun h => by rw [h, if_neg (by decide)] at hr; exact hr⟩
                      · simp only [eVar_ap, eK_ap, aNil_ap, aCons_ap, eOp2_ap, eOp1_ap, eChain_ap, bOf_ap, bNot_ap, bAnd_ap, bOr_ap, eAnd_ap, eOr_ap, eNot_ap, eIf_ap, eTup_ap, eLst_ap, eLstM_ap, cNop_ap, cBreak_ap, cCont_ap, cSeq_ap, cExpr_ap, cSet_ap, cRet_ap, cRetN_ap, cIf_ap, cAsg_ap, cPar2_ap, cPar3_ap, bYes_ap, eCall_ap, oNone_ap, oSome_ap, eSl_ap, cFor_ap, eMtL_ap, aKw_ap, gNm_ap, gTp2, gTp3, gSb_ap, Out.bind, Out.ofO, exq, fin, callE_ap, List.getElem?_cons_succ, List.getElem?_cons_zero, List.set_cons_succ, List.set_cons_zero, List.map_cons, List.map_nil, List.replicate, List.cons_append, List.nil_append, List.length_cons, List.length_nil, Bool.not_true, Bool.not_false, if_true, if_false, ite_true, ite_false, reduceIte, Bool.false_eq_true, Bool.true_eq_false, Nat.reduceAdd, unD, Option.map_some, Nat.zero_le, sz1, sz2, sz3, sz4, sz5, sz6, sz7, sz8, sz9, sz10, sz11, sz12, sz13, sz14, sz15, sz16, Nat.reduceSub, Nat.reduceLeDiff, reduceCtorEq, Bool.and_true, Bool.true_and, Bool.and_false, Bool.false_and, Bool.or_true, Bool.or_false, Bool.true_or, Bool.false_or, show decide ((ms.length : Int) ≤ 4) = false from decide_eq_false (by omega), tbl, szD, b4, decide_false]
                    · simp only [eVar_ap, eK_ap, aNil_ap, aCons_ap, eOp2_ap, eOp1_ap, eChain_ap, bOf_ap, bNot_ap, bAnd_ap, bOr_ap, eAnd_ap, eOr_ap, eNot_ap, eIf_ap, eTup_ap, eLst_ap, eLstM_ap, cNop_ap, cBreak_ap, cCont_ap, cSeq_ap, cExpr_ap, cSet_ap, cRet_ap, cRetN_ap, cIf_ap, cAsg_ap, cPar2_ap, cPar3_ap, bYes_ap, eCall_ap, oNone_ap, oSome_ap, eSl_ap, cFor_ap, eMtL_ap, aKw_ap, gNm_ap, gTp2, gTp3, gSb_ap, Out.bind, Out.ofO, exq, fin, callE_ap, List.getElem?_cons_succ, List.getElem?_cons_zero, List.set_cons_succ, List.set_cons_zero, List.map_cons, List.map_nil, List.replicate, List.cons_append, List.nil_append, List.length_cons, List.length_nil, Bool.not_true, Bool.not_false, if_true, if_false, ite_true, ite_false, reduceIte, Bool.false_eq_true, Bool.true_eq_false, Nat.reduceAdd, unD, Option.map_some, Nat.zero_le, sz1, sz2, sz3, sz4, sz5, sz6, sz7, sz8, sz9, sz10, sz11, sz12, sz13, sz14, sz15, sz16, Nat.reduceSub, Nat.reduceLeDiff, reduceCtorEq, Bool.and_true, Bool.true_and, Bool.and_false, Bool.false_and, Bool.or_true, Bool.or_false, Bool.true_or, Bool.false_or, bLen_tup, opInt_int, show decide ((1 : Int) ≤ (ms.length : Int)) = false from decide_eq_false (by omega), tbl, mOk, show ms.isEmpty = true by cases ms <;> first | rfl | (exact absurd (Nat.succ_le_succ (Nat.zero_le _)) b3)]
                  · simp only [eVar_ap, eK_ap, aNil_ap, aCons_ap, eOp2_ap, eOp1_ap, eChain_ap, bOf_ap, bNot_ap, bAnd_ap, bOr_ap, eAnd_ap, eOr_ap, eNot_ap, eIf_ap, eTup_ap, eLst_ap, eLstM_ap, cNop_ap, cBreak_ap, cCont_ap, cSeq_ap, cExpr_ap, cSet_ap, cRet_ap, cRetN_ap, cIf_ap, cAsg_ap, cPar2_ap, cPar3_ap, bYes_ap, eCall_ap, oNone_ap, oSome_ap, eSl_ap, cFor_ap, eMtL_ap, aKw_ap, gNm_ap, gTp2, gTp3, gSb_ap, Out.bind, Out.ofO, exq, fin, callE_ap, List.getElem?_cons_succ, List.getElem?_cons_zero, List.set_cons_succ, List.set_cons_zero, List.map_cons, List.map_nil, List.replicate, List.cons_append, List.nil_append, List.length_cons, List.length_nil, Bool.not_true, Bool.not_false, if_true, if_false, ite_true, ite_false, reduceIte, Bool.false_eq_true, Bool.true_eq_false, Nat.reduceAdd, unD, Option.map_some, Nat.zero_le, sz1, sz2, sz3, sz4, sz5, sz6, sz7, sz8, sz9, sz10, sz11, sz12, sz13, sz14, sz15, sz16, Nat.reduceSub, Nat.reduceLeDiff, reduceCtorEq, Bool.and_true, Bool.true_and, Bool.and_false, Bool.false_and, Bool.or_true, Bool.or_false, Bool.true_or, Bool.false_or, show decide ((ws.length : Int) ≤ 16) = false from decide_eq_false (by omega), tbl, szD, b2, decide_false]
                · simp only [eVar_ap, eK_ap, aNil_ap, aCons_ap, eOp2_ap, eOp1_ap, eChain_ap, bOf_ap, bNot_ap, bAnd_ap, bOr_ap, eAnd_ap, eOr_ap, eNot_ap, eIf_ap, eTup_ap, eLst_ap, eLstM_ap, cNop_ap, cBreak_ap, cCont_ap, cSeq_ap, cExpr_ap, cSet_ap, cRet_ap, cRetN_ap, cIf_ap, cAsg_ap, cPar2_ap, cPar3_ap, bYes_ap, eCall_ap, oNone_ap, oSome_ap, eSl_ap, cFor_ap, eMtL_ap, aKw_ap, gNm_ap, gTp2, gTp3, gSb_ap, Out.bind, Out.ofO, exq, fin, callE_ap, List.getElem?_cons_succ, List.getElem?_cons_zero, List.set_cons_succ, List.set_cons_zero, List.map_cons, List.map_nil, List.replicate, List.cons_append, List.nil_append, List.length_cons, List.length_nil, Bool.not_true, Bool.not_false, if_true, if_false, ite_true, ite_false, reduceIte, Bool.false_eq_true, Bool.true_eq_false, Nat.reduceAdd, unD, Option.map_some, Nat.zero_le, sz1, sz2, sz3, sz4, sz5, sz6, sz7, sz8, sz9, sz10, sz11, sz12, sz13, sz14, sz15, sz16, Nat.reduceSub, Nat.reduceLeDiff, reduceCtorEq, Bool.and_true, Bool.true_and, Bool.and_false, Bool.false_and, Bool.or_true, Bool.or_false, Bool.true_or, Bool.false_or, show decide ((1 : Int) ≤ (ws.length : Int)) = false from decide_eq_false (by omega), tbl, wOk, show ws.isEmpty = true by cases ws <;> first | rfl | (exact absurd (Nat.succ_le_succ (Nat.zero_le _)) b1)]
            · obtain ⟨k, _, rfl⟩ := List.mem_map.1 hx; rfl
          · rw [List.mem_range] at hk
            refine ⟨_, rfl, ?_, fun _ => by simp only [eVar_ap, eK_ap, aNil_ap, aCons_ap, eOp2_ap, eOp1_ap, eChain_ap, bOf_ap, bNot_ap, bAnd_ap, bOr_ap, eAnd_ap, eOr_ap, eNot_ap, eIf_ap, eTup_ap, eLst_ap, eLstM_ap, cNop_ap, cBreak_ap, cCont_ap, cSeq_ap, cExpr_ap, cSet_ap, cRet_ap, cRetN_ap, cIf_ap, cAsg_ap, cPar2_ap, cPar3_ap, bYes_ap, eCall_ap, oNone_ap, oSome_ap, eSl_ap, cFor_ap, eMtL_ap, aKw_ap, gNm_ap, gTp2, gTp3, gSb_ap, Out.bind, Out.ofO, exq, fin, callE_ap, List.getElem?_cons_succ, List.getElem?_cons_zero, List.set_cons_succ, List.set_cons_zero, List.map_cons, List.map_nil, List.replicate, List.cons_append, List.nil_append, List.length_cons, List.length_nil, Bool.not_true, Bool.not_false, if_true, if_false, ite_true, ite_false, reduceIte, Bool.false_eq_true, Bool.true_eq_false, Nat.reduceAdd, unD, Option.map_some, Nat.zero_le, sz1, sz2, sz3, sz4, sz5, sz6, sz7, sz8, sz9, sz10, sz11, sz12, sz13, sz14, sz15, sz16, Nat.reduceSub, Nat.reduceLeDiff, reduceCtorEq, Bool.and_true, Bool.true_and, Bool.and_false, Bool.false_and, Bool.or_true, Bool.or_false, Bool.true_or, Bool.false_or, wipeR]⟩
            simp only [eVar_ap, eK_ap, aNil_ap, aCons_ap, eOp2_ap, eOp1_ap, eChain_ap, bOf_ap, bNot_ap, bAnd_ap, bOr_ap, eAnd_ap, eOr_ap, eNot_ap, eIf_ap, eTup_ap, eLst_ap, eLstM_ap, cNop_ap, cBreak_ap, cCont_ap, cSeq_ap, cExpr_ap, cSet_ap, cRet_ap, cRetN_ap, cIf_ap, cAsg_ap, cPar2_ap, cPar3_ap, bYes_ap, eCall_ap, oNone_ap, oSome_ap, eSl_ap, cFor_ap, eMtL_ap, aKw_ap, gNm_ap, gTp2, gTp3, gSb_ap, Out.bind, Out.ofO, exq, fin, callE_ap, List.getElem?_cons_succ, List.getElem?_cons_zero, List.set_cons_succ, List.set_cons_zero, List.map_cons, List.map_nil, List.replicate, List.cons_append, List.nil_append, List.length_cons, List.length_nil, Bool.not_true, Bool.not_false, if_true, if_false, ite_true, ite_false, reduceIte, Bool.false_eq_true, Bool.true_eq_false, Nat.reduceAdd, unD, Option.map_some, Nat.zero_le, sz1, sz2, sz3, sz4, sz5, sz6, sz7, sz8, sz9, sz10, sz11, sz12, sz13, sz14, sz15, sz16, Nat.reduceSub, Nat.reduceLeDiff, reduceCtorEq, Bool.and_true, Bool.true_and, Bool.and_false, Bool.false_and, Bool.or_true, Bool.or_false, Bool.true_or, Bool.false_or, wipeR, opIx_tup (atI_getD (xs := fs) (k := k) (by omega)), opAdd_int, opIx_tup (atI_getD' (xs := fs) (k := k + 1) (i := (k : Int) + 1) (by omega) (by omega)), opLt_D (lowN_str h2) (getD_mem (xs := fs) (k := k) (by omega)) (getD_mem (xs := fs) (k := k + 1) (by omega))]
      · simp only [eVar_ap, eK_ap, aNil_ap, aCons_ap, eOp2_ap, eOp1_ap, eChain_ap, bOf_ap, bNot_ap, bAnd_ap, bOr_ap, eAnd_ap, eOr_ap, eNot_ap, eIf_ap, eTup_ap, eLst_ap, eLstM_ap, cNop_ap, cBreak_ap, cCont_ap, cSeq_ap, cExpr_ap, cSet_ap, cRet_ap, cRetN_ap, cIf_ap, cAsg_ap, cPar2_ap, cPar3_ap, bYes_ap, eCall_ap, oNone_ap, oSome_ap, eSl_ap, cFor_ap, eMtL_ap, aKw_ap, gNm_ap, gTp2, gTp3, gSb_ap, Out.bind, Out.ofO, exq, fin, callE_ap, List.getElem?_cons_succ, List.getElem?_cons_zero, List.set_cons_succ, List.set_cons_zero, List.map_cons, List.map_nil, List.replicate, List.cons_append, List.nil_append, List.length_cons, List.length_nil, Bool.not_true, Bool.not_false, if_true, if_false, ite_true, ite_false, reduceIte, Bool.false_eq_true, Bool.true_eq_false, Nat.reduceAdd, unD, Option.map_some, Nat.zero_le, sz1, sz2, sz3, sz4, sz5, sz6, sz7, sz8, sz9, sz10, sz11, sz12, sz13, sz14, sz15, sz16, Nat.reduceSub, Nat.reduceLeDiff, reduceCtorEq, Bool.and_true, Bool.true_and, Bool.and_false, Bool.false_and, Bool.or_true, Bool.or_false, Bool.true_or, Bool.false_or, show decide ((6 : Int) < (fs.length : Int)) = true from decide_eq_true (by omega), tbl, szD, h1, decide_false]
  · simp only [eVar_ap, eK_ap, aNil_ap, aCons_ap, eOp2_ap, eOp1_ap, eChain_ap, bOf_ap, bNot_ap, bAnd_ap, bOr_ap, eAnd_ap, eOr_ap, eNot_ap, eIf_ap, eTup_ap, eLst_ap, eLstM_ap, cNop_ap, cBreak_ap, cCont_ap, cSeq_ap, cExpr_ap, cSet_ap, cRet_ap, cRetN_ap, cIf_ap, cAsg_ap, cPar2_ap, cPar3_ap, bYes_ap, eCall_ap, oNone_ap, oSome_ap, eSl_ap, cFor_ap, eMtL_ap, aKw_ap, gNm_ap, gTp2, gTp3, gSb_ap, Out.bind, Out.ofO, exq, fin, callE_ap, List.getElem?_cons_succ, List.getElem?_cons_zero, List.set_cons_succ, List.set_cons_zero, List.map_cons, List.map_nil, List.replicate, List.cons_append, List.nil_append, List.length_cons, List.length_nil, Bool.not_true, Bool.not_false, if_true, if_false, ite_true, ite_false, reduceIte, Bool.false_eq_true, Bool.true_eq_false, Nat.reduceAdd, unD, Option.map_some, Nat.zero_le, sz1, sz2, sz3, sz4, sz5, sz6, sz7, sz8, sz9, sz10, sz11, sz12, sz13, sz14, sz15, sz16, Nat.reduceSub, Nat.reduceLeDiff, reduceCtorEq, Bool.and_true, Bool.true_and, Bool.and_false, Bool.false_and, Bool.or_true, Bool.or_false, Bool.true_or, Bool.false_or, show ((ks.length : Int) == 3) = false by simp; omega]
    have : tbl (.tuple ks) = false := by
      unfold tbl
      split
      · rename_i q; cases q; exact absurd rfl hl
      · rfl
    simp only [eVar_ap, eK_ap, aNil_ap, aCons_ap, eOp2_ap, eOp1_ap, eChain_ap, bOf_ap, bNot_ap, bAnd_ap, bOr_ap, eAnd_ap, eOr_ap, eNot_ap, eIf_ap, eTup_ap, eLst_ap, eLstM_ap, cNop_ap, cBreak_ap, cCont_ap, cSeq_ap, cExpr_ap, cSet_ap, cRet_ap, cRetN_ap, cIf_ap, cAsg_ap, cPar2_ap, cPar3_ap, bYes_ap, eCall_ap, oNone_ap, oSome_ap, eSl_ap, cFor_ap, eMtL_ap, aKw_ap, gNm_ap, gTp2, gTp3, gSb_ap, Out.bind, Out.ofO, exq, fin, callE_ap, List.getElem?_cons_succ, List.getElem?_cons_zero, List.set_cons_succ, List.set_cons_zero, List.map_cons, List.map_nil, List.replicate, List.cons_append, List.nil_append, List.length_cons, List.length_nil, Bool.not_true, Bool.not_false, if_true, if_false, ite_true, ite_false, reduceIte, Bool.false_eq_true, Bool.true_eq_false, Nat.reduceAdd, unD, Option.map_some, Nat.zero_le, sz1, sz2, sz3, sz4, sz5, sz6, sz7, sz8, sz9, sz10, sz11, sz12, sz13, sz14, sz15, sz16, Nat.reduceSub, Nat.reduceLeDiff, reduceCtorEq, Bool.and_true, Bool.true_and, Bool.and_false, Bool.false_and, Bool.or_true, Bool.or_false, Bool.true_or, Bool.false_or, this]
end
end Law
end

section
namespace Law
open PySem PySem.Spec PyProof.Rows L2 Sh
open Classical
section
variable {S : Sto} {x : PyData} {xs : List PyData}
theorem draw' {n : Nat} {many : Int} (hW : Well S n) (h0 : 0 < many) (h1 : many < 2 ^ 62) : ∃ (k : Nat) (S' : Sto), m__law_draw [.ref n, .d (.int many)] S = .ok (.d (.int k)) S' ∧ (k : Int) < many ∧ Well S' n ∧ S'.length = S.length ∧ ∀ j, j ≠ n → S'[j]? = S[j]? := draw_any hW h0 h1
theorem well_eq : m__law_well = mWell := rfl
theorem law_is_ok {a b : Bool} : m__law_is [.d (.bool a), .d (.bool b)] S = .ok (.d (.bool (a == b))) S := by
  cases a <;> cases b <;> rfl
/-- first places -/
def idxN (l : Nat) : List Nat → Nat
  | [] => 0
  | z :: r => if z = l then 0 else idxN l r + 1
theorem idxOf_N {l : Nat} : ∀ {ls : List Nat}, l ∈ ls → idxOf (.int (l : Int)) (ls.map fun (k : Nat) => PyData.int (k : Int)) = some (idxN l ls)
  | [], h => nomatch h
  | z :: r, h => by
    simp only [List.map_cons, idxOf, idxN, PyData.eqv]
    by_cases e : z = l
    · simp [e]
    · have : ((z : Int) == (l : Int)) = false := by simp; omega
      simp [this, e, idxOf_N ((List.mem_cons.1 h).resolve_left fun q => e q.symm)]
theorem idxN_le {l : Nat} : ∀ {ls : List Nat} {w : Nat}, ls[w]? = some l → idxN l ls ≤ w
  | [], _, h => by cases h
  | z :: r, 0, h => by
    simp only [List.getElem?_cons_zero, Option.some.injEq] at h
    simp [idxN, h]
  | z :: r, w + 1, h => by
    have := idxN_le (ls := r) (w := w) (by simpa using h)
    simp only [idxN]; split <;> omega
theorem idxN_at {l : Nat} : ∀ {ls : List Nat}, l ∈ ls → ls[idxN l ls]? = some l
  | [], h => nomatch h
  | z :: r, h => by
    simp only [idxN]
    split
    · rename_i e; simp [e]
    · rename_i e
      rw [List.getElem?_cons_succ]
      exact idxN_at ((List.mem_cons.1 h).resolve_left fun q => e q.symm)
theorem mates_at {ls : List Nat} (hl : ls.length ≤ 1000) : m__law_mates [.d (.list (ls.map fun (k : Nat) => PyData.int (k : Int)))] S = .ok (.d (.tuple (ls.map fun l => .int (idxN l ls : Nat)))) S := by
  unfold m__law_mates defM b__law_mates
  simp only [eVar_ap, eK_ap, aNil_ap, aCons_ap, eOp2_ap, eOp1_ap, eChain_ap, bOf_ap, bNot_ap, bAnd_ap, bOr_ap, eAnd_ap, eOr_ap, eNot_ap, eIf_ap, eTup_ap, eLst_ap, eLstM_ap, cNop_ap, cBreak_ap, cCont_ap, cSeq_ap, cExpr_ap, cSet_ap, cRet_ap, cRetN_ap, cIf_ap, cAsg_ap, cPar2_ap, cPar3_ap, bYes_ap, eCall_ap, oNone_ap, oSome_ap, eSl_ap, cFor_ap, eMtL_ap, aKw_ap, gNm_ap, gTp2, gTp3, gSb_ap, Out.bind, Out.ofO, exq, fin, callE_ap, List.getElem?_cons_succ, List.getElem?_cons_zero, List.set_cons_succ, List.set_cons_zero, List.map_cons, List.map_nil, List.replicate, List.cons_append, List.nil_append, List.length_cons, List.length_nil, Bool.not_true, Bool.not_false, if_true, if_false, ite_true, ite_false, reduceIte, Bool.false_eq_true, Bool.true_eq_false, Nat.reduceAdd, unD, Option.map_some, Nat.zero_le, sz1, sz2, sz3, sz4, sz5, sz6, sz7, sz8, sz9, sz10, sz11, sz12, sz13, sz14, sz15, sz16, Nat.reduceSub, Nat.reduceLeDiff, reduceCtorEq, Bool.and_true, Bool.true_and, Bool.and_false, Bool.false_and, Bool.or_true, Bool.or_false, Bool.true_or, Bool.false_or]
  have e : (ls.map fun (k : Nat) => PyData.int (k : Int)).map W.d = ls.map fun (k : Nat) => W.d (.int (k : Int)) := by rw [List.map_map]; rfl
  have sh : SeqAt.shaped (.list (ls.map fun (k : Nat) => PyData.int (k : Int))) = true := by
    have := shaped_ints (l := ls.map fun (k : Nat) => (k : Int))
    rw [List.map_map] at this; exact this
  rw [eLc_y ls (fun (k : Nat) => W.d (.int (k : Int))) (fun l => .int (idxN l ls : Nat)) (grd := fun _ => True) (by rw [iSq_list rfl, e]) trivial (len_le hl) fun l hx => ⟨_, rfl, ?_⟩]
  · simp only [eVar_ap, eK_ap, aNil_ap, aCons_ap, eOp2_ap, eOp1_ap, eChain_ap, bOf_ap, bNot_ap, bAnd_ap, bOr_ap, eAnd_ap, eOr_ap, eNot_ap, eIf_ap, eTup_ap, eLst_ap, eLstM_ap, cNop_ap, cBreak_ap, cCont_ap, cSeq_ap, cExpr_ap, cSet_ap, cRet_ap, cRetN_ap, cIf_ap, cAsg_ap, cPar2_ap, cPar3_ap, bYes_ap, eCall_ap, oNone_ap, oSome_ap, eSl_ap, cFor_ap, eMtL_ap, aKw_ap, gNm_ap, gTp2, gTp3, gSb_ap, Out.bind, Out.ofO, exq, fin, callE_ap, List.getElem?_cons_succ, List.getElem?_cons_zero, List.set_cons_succ, List.set_cons_zero, List.map_cons, List.map_nil, List.replicate, List.cons_append, List.nil_append, List.length_cons, List.length_nil, Bool.not_true, Bool.not_false, if_true, if_false, ite_true, ite_false, reduceIte, Bool.false_eq_true, Bool.true_eq_false, Nat.reduceAdd, unD, Option.map_some, Nat.zero_le, sz1, sz2, sz3, sz4, sz5, sz6, sz7, sz8, sz9, sz10, sz11, sz12, sz13, sz14, sz15, sz16, Nat.reduceSub, Nat.reduceLeDiff, reduceCtorEq, Bool.and_true, Bool.true_and, Bool.and_false, Bool.false_and, Bool.or_true, Bool.or_false, Bool.true_or, Bool.false_or, bTuple_list]
  · simp only [eVar_ap, eK_ap, aNil_ap, aCons_ap, eOp2_ap, eOp1_ap, eChain_ap, bOf_ap, bNot_ap, bAnd_ap, bOr_ap, eAnd_ap, eOr_ap, eNot_ap, eIf_ap, eTup_ap, eLst_ap, eLstM_ap, cNop_ap, cBreak_ap, cCont_ap, cSeq_ap, cExpr_ap, cSet_ap, cRet_ap, cRetN_ap, cIf_ap, cAsg_ap, cPar2_ap, cPar3_ap, bYes_ap, eCall_ap, oNone_ap, oSome_ap, eSl_ap, cFor_ap, eMtL_ap, aKw_ap, gNm_ap, gTp2, gTp3, gSb_ap, Out.bind, Out.ofO, exq, fin, callE_ap, List.getElem?_cons_succ, List.getElem?_cons_zero, List.set_cons_succ, List.set_cons_zero, List.map_cons, List.map_nil, List.replicate, List.cons_append, List.nil_append, List.length_cons, List.length_nil, Bool.not_true, Bool.not_false, if_true, if_false, ite_true, ite_false, reduceIte, Bool.false_eq_true, Bool.true_eq_false, Nat.reduceAdd, unD, Option.map_some, Nat.zero_le, sz1, sz2, sz3, sz4, sz5, sz6, sz7, sz8, sz9, sz10, sz11, sz12, sz13, sz14, sz15, sz16, Nat.reduceSub, Nat.reduceLeDiff, reduceCtorEq, Bool.and_true, Bool.true_and, Bool.and_false, Bool.false_and, Bool.or_true, Bool.or_false, Bool.true_or, Bool.false_or, wipeR, isL_list, mIndex, if_pos (show shp (.list (ls.map fun (k : Nat) => PyData.int (k : Int))) (.int (l : Int)) from ⟨sh, rfl⟩), idxOf_N hx]
theorem mates_mt {ls : List Nat} : mtOk (.tuple (ls.map fun l => .int (idxN l ls : Nat))) ls.length = true := by
  have key : ∀ w, w < ls.length → ∃ l, ls[w]? = some l ∧ (ls.map fun l => PyData.int (idxN l ls : Nat)).getD w .none = .int (idxN l ls : Nat) := fun w hw => ⟨ls[w], by simp [hw], by simp [hw]⟩
  have lt : ∀ l ∈ ls, idxN l ls < ls.length := fun l hl => by
    have := idxN_at hl
    rcases Nat.lt_or_ge (idxN l ls) ls.length with g | g
    · exact g
    · rw [List.getElem?_eq_none g] at this; cases this
  simp only [mtOk, List.length_map, decide_true, Bool.true_and, Bool.and_eq_true, List.all_eq_true, List.mem_map, List.mem_range]
  refine ⟨?_, fun w hw => ?_⟩
  · rintro _ ⟨l, hl, rfl⟩
    have := lt l hl
    simp only [inR, Bool.and_eq_true, decide_eq_true_eq]
    omega
  · obtain ⟨l, e1, e2⟩ := key w hw
    have hm := List.mem_of_getElem? e1
    obtain ⟨l2, e3, e4⟩ := key (idxN l ls) (lt l hm)
    rw [idxN_at hm] at e3
    cases e3
    simp only [mtAt, e2, Int.toNat_natCast, e4, Bool.and_eq_true, decide_eq_true_eq, beq_self_eq_true, and_true]
    have := idxN_le e1
    omega
abbrev nms : List PyData := [.str "a", .str "b7", .str "cat", .str "d", .str "ee", .str "f0"]
theorem fok_nms : ∀ k < 7, fOk (.tuple (nms.take k)) = true := by decide +kernel
theorem ix_range {l : List Nat} {n : Nat} (h : l.Sublist (List.range n)) : ixOk (.tuple (l.map fun (k : Nat) => PyData.int (k : Int))) n = true := by
  have hp := List.Pairwise.sublist h List.pairwise_lt_range
  simp only [ixOk, ascD_ints hp, Bool.and_true, List.all_eq_true, List.mem_map]
  rintro _ ⟨k, hk, rfl⟩
  have := List.mem_range.1 (h.subset hk)
  simp only [inR, Bool.and_eq_true, decide_eq_true_eq]
  omega
/-- a table of the law's: what it is, and how great -/
structure Tab (T : PyData) : Prop where
  tb : tbl T = true
  ex : ∃ fs ws ms, T = .tuple [.tuple fs, .tuple ws, .tuple ms] ∧ Sq 0 6 fs ∧ Sq 1 8 ws ∧ Sq 1 4 ms ∧ (∀ w ∈ ws, ∃ ks, w = .tuple ks ∧ Sq 0 6 ks) ∧ (∀ w ∈ ms, ∃ ks, w = .tuple ks ∧ Sq 0 8 ks ∧ ks.length = ws.length)
theorem ints_sq {l : List Nat} {k : Nat} (h : l.length ≤ k) : Sq 0 k (l.map fun (k : Nat) => PyData.int (k : Int)) := ⟨by simpa using h, fun x hx => by
  obtain ⟨i, _, rfl⟩ := List.mem_map.1 hx; rfl⟩
theorem ints_back {ys : List PyData} (h : ∀ y ∈ ys, ∃ k : Nat, y = .int (k : Int)) : ∃ l : List Nat, ys = l.map fun (k : Nat) => PyData.int (k : Int) := by
  induction ys with
  | nil => exact ⟨[], rfl⟩
  | cons y r ih =>
    obtain ⟨k, rfl⟩ := h y (by simp)
    obtain ⟨l, rfl⟩ := ih fun z hz => h z (by simp [hz])
    exact ⟨k :: l, rfl⟩
theorem table_ok {n : Nat} (hW : Well S n) : ∃ T S', m__law_table [.ref n, .d (.int 8), .d (.int 4), .d (.int 6)] S = .ok (.d T) S' ∧ Well S' n ∧ Tab T := by
  unfold m__law_table defM b__law_table
  obtain ⟨k1, S1, e1, h1, W1, _, _⟩ := draw' hW (many := 8) (by decide) (by decide)
  obtain ⟨k2, S2, e2, h2, W2, _, _⟩ := draw' W1 (many := 6 + 1) (by decide) (by decide)
  simp only [eVar_ap, eK_ap, aNil_ap, aCons_ap, eOp2_ap, eOp1_ap, eChain_ap, bOf_ap, bNot_ap, bAnd_ap, bOr_ap, eAnd_ap, eOr_ap, eNot_ap, eIf_ap, eTup_ap, eLst_ap, eLstM_ap, cNop_ap, cBreak_ap, cCont_ap, cSeq_ap, cExpr_ap, cSet_ap, cRet_ap, cRetN_ap, cIf_ap, cAsg_ap, cPar2_ap, cPar3_ap, bYes_ap, eCall_ap, oNone_ap, oSome_ap, eSl_ap, cFor_ap, eMtL_ap, aKw_ap, gNm_ap, gTp2, gTp3, gSb_ap, Out.bind, Out.ofO, exq, fin, callE_ap, List.getElem?_cons_succ, List.getElem?_cons_zero, List.set_cons_succ, List.set_cons_zero, List.map_cons, List.map_nil, List.replicate, List.cons_append, List.nil_append, List.length_cons, List.length_nil, Bool.not_true, Bool.not_false, if_true, if_false, ite_true, ite_false, reduceIte, Bool.false_eq_true, Bool.true_eq_false, Nat.reduceAdd, unD, Option.map_some, Nat.zero_le, sz1, sz2, sz3, sz4, sz5, sz6, sz7, sz8, sz9, sz10, sz11, sz12, sz13, sz14, sz15, sz16, Nat.reduceSub, Nat.reduceLeDiff, reduceCtorEq, Bool.and_true, Bool.true_and, Bool.and_false, Bool.false_and, Bool.or_true, Bool.or_false, Bool.true_or, Bool.false_or, e1, opAdd_int, e2, mkTup, opSl_tup, cutTo]
  have ek : (1 : Int) + (k1 : Int) = ((k1 + 1 : Nat) : Int) := by omega
  rw [ek]
  have hk2 : k2 < 7 := by omega
  have hn : (nms.take k2).length = k2 := by rw [List.length_take, show nms.length = 6 from rfl]; omega
  -- rows
  obtain ⟨ys, S3, e3, W3, hl3, hy3⟩ := eLc_inv (Inv := fun S => Well S n) (Pe := fun y => ∃ l : List Nat, y = .tuple (l.map fun (k : Nat) => PyData.int (k : Int)) ∧ l.Sublist (List.range k2)) (grd := fun _ => True)
    (im := iRg1 (eVar 4)) (g := gNm 10) (vs := [10]) (mk := fun (k : Nat) => W.d (.int (k : Int))) (S := S2) (S1 := S2) (ρ := [some (W.ref n), some (W.d (.int 8)), some (W.d (.int 4)), some (W.d (.int 6)), some (W.d (.int ((k1 + 1 : Nat) : Int))), some (W.d (.tuple (nms.take k2))), none, none, none, none, none, none])
    (elt := eCall bTuple (aCons (eLc (iRg1 (eCall bLen (aCons (eVar 5) aNil))) (gNm 11) (bOf (eOp2 (opEq) (eCall (callE m__law_draw) (aCons (eVar 0) (aCons (eInt 2) aNil))) (eInt 0))) (eVar 11) [11]) aNil))
    (List.range (k1 + 1)) (iRg1_nat rfl (by omega)) (by rw [List.length_range]; exact len_le (by omega)) W2 (fun _ _ => trivial) (fun k _ S hW => by
      refine ⟨_, _, rfl, ?_⟩
      obtain ⟨l', S', hs, e, hW'⟩ := eLc_flt (Inv := fun S => Well S n) (grd := fun _ => True) (im := iRg1 (eCall bLen (aCons (eVar 5) aNil))) (g := gNm 11) (vs := [11]) (mk := fun (k : Nat) => W.d (.int (k : Int))) (S := S) (S1 := S)
        (ρ := [some (W.ref n), some (W.d (.int 8)), some (W.d (.int 4)), some (W.d (.int 6)), some (W.d (.int ((k1 + 1 : Nat) : Int))), some (W.d (.tuple (nms.take k2))), none, none, none, none, some (W.d (.int (k : Int))), none])
        (tt := bOf (eOp2 (opEq) (eCall (callE m__law_draw) (aCons (eVar 0) (aCons (eInt 2) aNil))) (eInt 0))) (elt := eVar 11) (fun (k : Nat) => PyData.int (k : Int)) (List.range k2)
        (iRg1_nat (by simp only [eVar_ap, eK_ap, aNil_ap, aCons_ap, eOp2_ap, eOp1_ap, eChain_ap, bOf_ap, bNot_ap, bAnd_ap, bOr_ap, eAnd_ap, eOr_ap, eNot_ap, eIf_ap, eTup_ap, eLst_ap, eLstM_ap, cNop_ap, cBreak_ap, cCont_ap, cSeq_ap, cExpr_ap, cSet_ap, cRet_ap, cRetN_ap, cIf_ap, cAsg_ap, cPar2_ap, cPar3_ap, bYes_ap, eCall_ap, oNone_ap, oSome_ap, eSl_ap, cFor_ap, eMtL_ap, aKw_ap, gNm_ap, gTp2, gTp3, gSb_ap, Out.bind, Out.ofO, exq, fin, callE_ap, List.getElem?_cons_succ, List.getElem?_cons_zero, List.set_cons_succ, List.set_cons_zero, List.map_cons, List.map_nil, List.replicate, List.cons_append, List.nil_append, List.length_cons, List.length_nil, Bool.not_true, Bool.not_false, if_true, if_false, ite_true, ite_false, reduceIte, Bool.false_eq_true, Bool.true_eq_false, Nat.reduceAdd, unD, Option.map_some, Nat.zero_le, sz1, sz2, sz3, sz4, sz5, sz6, sz7, sz8, sz9, sz10, sz11, sz12, sz13, sz14, sz15, sz16, Nat.reduceSub, Nat.reduceLeDiff, reduceCtorEq, Bool.and_true, Bool.true_and, Bool.and_false, Bool.false_and, Bool.or_true, Bool.or_false, Bool.true_or, Bool.false_or, bLen_tup]; rw [hn]) (by omega)) (by rw [List.length_range]; exact len_le (by omega)) hW (fun _ _ => trivial) (fun j _ S hW => by
          obtain ⟨k, S', e, _, hW', _, _⟩ := draw' hW (many := 2) (by decide) (by decide)
          exact ⟨_, _, rfl, (k : Int) == 0, S', by simp only [eVar_ap, eK_ap, aNil_ap, aCons_ap, eOp2_ap, eOp1_ap, eChain_ap, bOf_ap, bNot_ap, bAnd_ap, bOr_ap, eAnd_ap, eOr_ap, eNot_ap, eIf_ap, eTup_ap, eLst_ap, eLstM_ap, cNop_ap, cBreak_ap, cCont_ap, cSeq_ap, cExpr_ap, cSet_ap, cRet_ap, cRetN_ap, cIf_ap, cAsg_ap, cPar2_ap, cPar3_ap, bYes_ap, eCall_ap, oNone_ap, oSome_ap, eSl_ap, cFor_ap, eMtL_ap, aKw_ap, gNm_ap, gTp2, gTp3, gSb_ap, Out.bind, Out.ofO, exq, fin, callE_ap, List.getElem?_cons_succ, List.getElem?_cons_zero, List.set_cons_succ, List.set_cons_zero, List.map_cons, List.map_nil, List.replicate, List.cons_append, List.nil_append, List.length_cons, List.length_nil, Bool.not_true, Bool.not_false, if_true, if_false, ite_true, ite_false, reduceIte, Bool.false_eq_true, Bool.true_eq_false, Nat.reduceAdd, unD, Option.map_some, Nat.zero_le, sz1, sz2, sz3, sz4, sz5, sz6, sz7, sz8, sz9, sz10, sz11, sz12, sz13, sz14, sz15, sz16, Nat.reduceSub, Nat.reduceLeDiff, reduceCtorEq, Bool.and_true, Bool.true_and, Bool.and_false, Bool.false_and, Bool.or_true, Bool.or_false, Bool.true_or, Bool.false_or, wipeR, e, opEq_int], hW', fun _ => by simp only [eVar_ap, eK_ap, aNil_ap, aCons_ap, eOp2_ap, eOp1_ap, eChain_ap, bOf_ap, bNot_ap, bAnd_ap, bOr_ap, eAnd_ap, eOr_ap, eNot_ap, eIf_ap, eTup_ap, eLst_ap, eLstM_ap, cNop_ap, cBreak_ap, cCont_ap, cSeq_ap, cExpr_ap, cSet_ap, cRet_ap, cRetN_ap, cIf_ap, cAsg_ap, cPar2_ap, cPar3_ap, bYes_ap, eCall_ap, oNone_ap, oSome_ap, eSl_ap, cFor_ap, eMtL_ap, aKw_ap, gNm_ap, gTp2, gTp3, gSb_ap, Out.bind, Out.ofO, exq, fin, callE_ap, List.getElem?_cons_succ, List.getElem?_cons_zero, List.set_cons_succ, List.set_cons_zero, List.map_cons, List.map_nil, List.replicate, List.cons_append, List.nil_append, List.length_cons, List.length_nil, Bool.not_true, Bool.not_false, if_true, if_false, ite_true, ite_false, reduceIte, Bool.false_eq_true, Bool.true_eq_false, Nat.reduceAdd, unD, Option.map_some, Nat.zero_le, sz1, sz2, sz3, sz4, sz5, sz6, sz7, sz8, sz9, sz10, sz11, sz12, sz13, sz14, sz15, sz16, Nat.reduceSub, Nat.reduceLeDiff, reduceCtorEq, Bool.and_true, Bool.true_and, Bool.and_false, Bool.false_and, Bool.or_true, Bool.or_false, Bool.true_or, Bool.false_or, wipeR]⟩)
      exact ⟨_, S', by simp only [eVar_ap, eK_ap, aNil_ap, aCons_ap, eOp2_ap, eOp1_ap, eChain_ap, bOf_ap, bNot_ap, bAnd_ap, bOr_ap, eAnd_ap, eOr_ap, eNot_ap, eIf_ap, eTup_ap, eLst_ap, eLstM_ap, cNop_ap, cBreak_ap, cCont_ap, cSeq_ap, cExpr_ap, cSet_ap, cRet_ap, cRetN_ap, cIf_ap, cAsg_ap, cPar2_ap, cPar3_ap, bYes_ap, eCall_ap, oNone_ap, oSome_ap, eSl_ap, cFor_ap, eMtL_ap, aKw_ap, gNm_ap, gTp2, gTp3, gSb_ap, Out.bind, Out.ofO, exq, fin, callE_ap, List.getElem?_cons_succ, List.getElem?_cons_zero, List.set_cons_succ, List.set_cons_zero, List.map_cons, List.map_nil, List.replicate, List.cons_append, List.nil_append, List.length_cons, List.length_nil, Bool.not_true, Bool.not_false, if_true, if_false, ite_true, ite_false, reduceIte, Bool.false_eq_true, Bool.true_eq_false, Nat.reduceAdd, unD, Option.map_some, Nat.zero_le, sz1, sz2, sz3, sz4, sz5, sz6, sz7, sz8, sz9, sz10, sz11, sz12, sz13, sz14, sz15, sz16, Nat.reduceSub, Nat.reduceLeDiff, reduceCtorEq, Bool.and_true, Bool.true_and, Bool.and_false, Bool.false_and, Bool.or_true, Bool.or_false, Bool.true_or, Bool.false_or, wipeR, e, bTuple_list], ⟨l', rfl, hs⟩, hW'⟩)
  simp only [eVar_ap, eK_ap, aNil_ap, aCons_ap, eOp2_ap, eOp1_ap, eChain_ap, bOf_ap, bNot_ap, bAnd_ap, bOr_ap, eAnd_ap, eOr_ap, eNot_ap, eIf_ap, eTup_ap, eLst_ap, eLstM_ap, cNop_ap, cBreak_ap, cCont_ap, cSeq_ap, cExpr_ap, cSet_ap, cRet_ap, cRetN_ap, cIf_ap, cAsg_ap, cPar2_ap, cPar3_ap, bYes_ap, eCall_ap, oNone_ap, oSome_ap, eSl_ap, cFor_ap, eMtL_ap, aKw_ap, gNm_ap, gTp2, gTp3, gSb_ap, Out.bind, Out.ofO, exq, fin, callE_ap, List.getElem?_cons_succ, List.getElem?_cons_zero, List.set_cons_succ, List.set_cons_zero, List.map_cons, List.map_nil, List.replicate, List.cons_append, List.nil_append, List.length_cons, List.length_nil, Bool.not_true, Bool.not_false, if_true, if_false, ite_true, ite_false, reduceIte, Bool.false_eq_true, Bool.true_eq_false, Nat.reduceAdd, unD, Option.map_some, Nat.zero_le, sz1, sz2, sz3, sz4, sz5, sz6, sz7, sz8, sz9, sz10, sz11, sz12, sz13, sz14, sz15, sz16, Nat.reduceSub, Nat.reduceLeDiff, reduceCtorEq, Bool.and_true, Bool.true_and, Bool.and_false, Bool.false_and, Bool.or_true, Bool.or_false, Bool.true_or, Bool.false_or, e3, newCell]
  have hS3 : (S3 ++ [Ob.lst []])[S3.length]? = some (.lst []) := by simp
  have W3' : Well (S3 ++ [Ob.lst []]) n := W3.snoc
  have hne : S3.length ≠ n := Nat.ne_of_gt W3.lt
  generalize S3 ++ [Ob.lst []] = S4 at hS3 W3' ⊢
  generalize S3.length = c at hS3 hne ⊢
  obtain ⟨k5, S5, e5, h5, W5, _, g5⟩ := draw' W3' (many := 4) (by decide) (by decide)
  have hc5 : S5[c]? = some (.lst []) := by rw [g5 c hne]; exact hS3
  have ek5 : (1 : Int) + (k5 : Int) = ((k5 + 1 : Nat) : Int) := by omega
  have hrg : ∀ ρ S, ρ[0]? = some (some (W.ref n)) → ρ[2]? = some (some (W.d (.int 4))) → S = S4 → iRg1 (eOp2 opAdd (eInt 1) (eCall (callE m__law_draw) (aCons (eVar 0) (aCons (eVar 2) aNil)))) ρ S = .ok ⟨(List.range (k5 + 1)).map fun (k : Nat) => W.d (.int (k : Int)), fun _ => True⟩ S5 := by
    rintro ρ S r0 r2 rfl
    have : (eOp2 opAdd (eInt 1) (eCall (callE m__law_draw) (aCons (eVar 0) (aCons (eVar 2) aNil)))) ρ S = .ok (.d (.int ((k5 + 1 : Nat) : Int))) S5 := by simp only [eVar_ap, eK_ap, aNil_ap, aCons_ap, eOp2_ap, eOp1_ap, eChain_ap, bOf_ap, bNot_ap, bAnd_ap, bOr_ap, eAnd_ap, eOr_ap, eNot_ap, eIf_ap, eTup_ap, eLst_ap, eLstM_ap, cNop_ap, cBreak_ap, cCont_ap, cSeq_ap, cExpr_ap, cSet_ap, cRet_ap, cRetN_ap, cIf_ap, cAsg_ap, cPar2_ap, cPar3_ap, bYes_ap, eCall_ap, oNone_ap, oSome_ap, eSl_ap, cFor_ap, eMtL_ap, aKw_ap, gNm_ap, gTp2, gTp3, gSb_ap, Out.bind, Out.ofO, exq, fin, callE_ap, List.getElem?_cons_succ, List.getElem?_cons_zero, List.set_cons_succ, List.set_cons_zero, List.map_cons, List.map_nil, List.replicate, List.cons_append, List.nil_append, List.length_cons, List.length_nil, Bool.not_true, Bool.not_false, if_true, if_false, ite_true, ite_false, reduceIte, Bool.false_eq_true, Bool.true_eq_false, Nat.reduceAdd, unD, Option.map_some, Nat.zero_le, sz1, sz2, sz3, sz4, sz5, sz6, sz7, sz8, sz9, sz10, sz11, sz12, sz13, sz14, sz15, sz16, Nat.reduceSub, Nat.reduceLeDiff, reduceCtorEq, Bool.and_true, Bool.true_and, Bool.and_false, Bool.false_and, Bool.or_true, Bool.or_false, Bool.true_or, Bool.false_or, r0, r2, e5, opAdd_int, ek5]
    simp only [iRg1, this, Out.bind]
    rw [if_pos (show In62 ((k5 + 1 : Nat) : Int) from ⟨by omega, by omega⟩), Int.toNat_natCast]
  rw [hrg _ _ rfl rfl rfl]
  simp only [eVar_ap, eK_ap, aNil_ap, aCons_ap, eOp2_ap, eOp1_ap, eChain_ap, bOf_ap, bNot_ap, bAnd_ap, bOr_ap, eAnd_ap, eOr_ap, eNot_ap, eIf_ap, eTup_ap, eLst_ap, eLstM_ap, cNop_ap, cBreak_ap, cCont_ap, cSeq_ap, cExpr_ap, cSet_ap, cRet_ap, cRetN_ap, cIf_ap, cAsg_ap, cPar2_ap, cPar3_ap, bYes_ap, eCall_ap, oNone_ap, oSome_ap, eSl_ap, cFor_ap, eMtL_ap, aKw_ap, gNm_ap, gTp2, gTp3, gSb_ap, Out.bind, Out.ofO, exq, fin, callE_ap, List.getElem?_cons_succ, List.getElem?_cons_zero, List.set_cons_succ, List.set_cons_zero, List.map_cons, List.map_nil, List.replicate, List.cons_append, List.nil_append, List.length_cons, List.length_nil, Bool.not_true, Bool.not_false, if_true, if_false, ite_true, ite_false, reduceIte, Bool.false_eq_true, Bool.true_eq_false, Nat.reduceAdd, unD, Option.map_some, Nat.zero_le, sz1, sz2, sz3, sz4, sz5, sz6, sz7, sz8, sz9, sz10, sz11, sz12, sz13, sz14, sz15, sz16, Nat.reduceSub, Nat.reduceLeDiff, reduceCtorEq, Bool.and_true, Bool.true_and, Bool.and_false, Bool.false_and, Bool.or_true, Bool.or_false, Bool.true_or, Bool.false_or]
  let R : Option W → Option W → Rho := fun a b => [some (W.ref n), some (W.d (.int 8)), some (W.d (.int 4)), some (W.d (.int 6)), some (W.d (.int ((k1 + 1 : Nat) : Int))), some (W.d (.tuple (nms.take k2))), some (W.d (.list ys)), some (W.ref c), a, b, none, none]
  obtain ⟨ρ6, S6, e6, ⟨a6, b6, rfl⟩, W6, ms, hc6, hm6, hl6⟩ := forL_invN (mk := fun (k : Nat) => W.d (.int (k : Int))) (grd := fun _ => True) (g := gNm 8)
    (body := cSeq (cSet 9 (eOp2 opAdd (eInt 1) (eCall (callE m__law_draw) (aCons (eVar 0) (aCons (eVar 4) aNil))))) (cExpr (eMtL mAppend (eVar 7) (aCons (eCall (callP m__law_mates) (aCons (eLc (iRg1 (eVar 4)) (gNm 10) (bYes) (eCall (callE m__law_draw) (aCons (eVar 0) (aCons (eVar 9) aNil))) [10]) aNil)) aNil))))
    (Inv := fun k ρ S => (∃ a b, ρ = R a b) ∧ Well S n ∧ ∃ ms : List PyData, S[c]? = some (.lst (ms.map W.d)) ∧ (∀ m ∈ ms, mtOk m (k1 + 1) = true ∧ ∃ ks, m = .tuple ks ∧ Sq 0 8 ks ∧ ks.length = k1 + 1) ∧ ms.length = k)
    (fun _ _ _ _ => trivial) (List.range (k5 + 1)) 0 (by
      rintro x _ k _ S hkk ⟨⟨a, b, rfl⟩, hW, ms, hc, hm, hl⟩
      rw [List.length_range] at hkk
      refine ⟨R (some (W.d (.int (x : Int)))) b, S, rfl, ?_⟩
      obtain ⟨k7, S7, e7, h7, W7, _, g7⟩ := draw' hW (many := ((k1 + 1 : Nat) : Int)) (by omega) (by omega)
      have hc7 : S7[c]? = some (.lst (ms.map W.d)) := by rw [g7 c hne]; exact hc
      have ek7 : (1 : Int) + (k7 : Int) = ((k7 + 1 : Nat) : Int) := by omega
      obtain ⟨zs, S8, e8, ⟨W8, hc8⟩, hl8, hz8⟩ := eLc_inv (Inv := fun S => Well S n ∧ S[c]? = some (.lst (ms.map W.d))) (Pe := fun y => ∃ k : Nat, y = .int (k : Int)) (grd := fun _ => True)
        (im := iRg1 (eVar 4)) (g := gNm 10) (vs := [10]) (mk := fun (k : Nat) => W.d (.int (k : Int))) (S := S7) (S1 := S7) (ρ := R (some (W.d (.int (x : Int)))) (some (W.d (.int ((k7 + 1 : Nat) : Int)))))
        (elt := eCall (callE m__law_draw) (aCons (eVar 0) (aCons (eVar 9) aNil))) (List.range (k1 + 1)) (iRg1_nat rfl (by omega)) (by rw [List.length_range]; exact len_le (by omega)) ⟨W7, hc7⟩ (fun _ _ => trivial) (fun j _ S hW => by
          obtain ⟨k, S', e, _, hW', _, g⟩ := draw' hW.1 (many := ((k7 + 1 : Nat) : Int)) (by omega) (by omega)
          exact ⟨_, _, rfl, _, S', by simp only [eVar_ap, eK_ap, aNil_ap, aCons_ap, eOp2_ap, eOp1_ap, eChain_ap, bOf_ap, bNot_ap, bAnd_ap, bOr_ap, eAnd_ap, eOr_ap, eNot_ap, eIf_ap, eTup_ap, eLst_ap, eLstM_ap, cNop_ap, cBreak_ap, cCont_ap, cSeq_ap, cExpr_ap, cSet_ap, cRet_ap, cRetN_ap, cIf_ap, cAsg_ap, cPar2_ap, cPar3_ap, bYes_ap, eCall_ap, oNone_ap, oSome_ap, eSl_ap, cFor_ap, eMtL_ap, aKw_ap, gNm_ap, gTp2, gTp3, gSb_ap, Out.bind, Out.ofO, exq, fin, callE_ap, List.getElem?_cons_succ, List.getElem?_cons_zero, List.set_cons_succ, List.set_cons_zero, List.map_cons, List.map_nil, List.replicate, List.cons_append, List.nil_append, List.length_cons, List.length_nil, Bool.not_true, Bool.not_false, if_true, if_false, ite_true, ite_false, reduceIte, Bool.false_eq_true, Bool.true_eq_false, Nat.reduceAdd, unD, Option.map_some, Nat.zero_le, sz1, sz2, sz3, sz4, sz5, sz6, sz7, sz8, sz9, sz10, sz11, sz12, sz13, sz14, sz15, sz16, Nat.reduceSub, Nat.reduceLeDiff, reduceCtorEq, Bool.and_true, Bool.true_and, Bool.and_false, Bool.false_and, Bool.or_true, Bool.or_false, Bool.true_or, Bool.false_or, R, wipeR, e], ⟨k, rfl⟩, hW', by rw [g c hne]; exact hW.2⟩)
      obtain ⟨ls, rfl⟩ := ints_back hz8
      have hll : ls.length = k1 + 1 := by simpa using hl8
      have hmt := mates_mt (ls := ls)
      rw [hll] at hmt
      refine ⟨R (some (W.d (.int (x : Int)))) (some (W.d (.int ((k7 + 1 : Nat) : Int)))), S8.set c (.lst ((ms ++ [PyData.tuple (ls.map fun l => PyData.int (idxN l ls : Nat))]).map W.d)), .inl ?_, ⟨_, _, rfl⟩, W8.set hne, _, set_at hc8, ?_, by simp [hl]⟩
      · simp only [eVar_ap, eK_ap, aNil_ap, aCons_ap, eOp2_ap, eOp1_ap, eChain_ap, bOf_ap, bNot_ap, bAnd_ap, bOr_ap, eAnd_ap, eOr_ap, eNot_ap, eIf_ap, eTup_ap, eLst_ap, eLstM_ap, cNop_ap, cBreak_ap, cCont_ap, cSeq_ap, cExpr_ap, cSet_ap, cRet_ap, cRetN_ap, cIf_ap, cAsg_ap, cPar2_ap, cPar3_ap, bYes_ap, eCall_ap, oNone_ap, oSome_ap, eSl_ap, cFor_ap, eMtL_ap, aKw_ap, gNm_ap, gTp2, gTp3, gSb_ap, Out.bind, Out.ofO, exq, fin, callE_ap, List.getElem?_cons_succ, List.getElem?_cons_zero, List.set_cons_succ, List.set_cons_zero, List.map_cons, List.map_nil, List.replicate, List.cons_append, List.nil_append, List.length_cons, List.length_nil, Bool.not_true, Bool.not_false, if_true, if_false, ite_true, ite_false, reduceIte, Bool.false_eq_true, Bool.true_eq_false, Nat.reduceAdd, unD, Option.map_some, Nat.zero_le, sz1, sz2, sz3, sz4, sz5, sz6, sz7, sz8, sz9, sz10, sz11, sz12, sz13, sz14, sz15, sz16, Nat.reduceSub, Nat.reduceLeDiff, reduceCtorEq, Bool.and_true, Bool.true_and, Bool.and_false, Bool.false_and, Bool.or_true, Bool.or_false, Bool.true_or, Bool.false_or, R, e7, opAdd_int, ek7]
        simp only [R] at e8
        simp only [eVar_ap, eK_ap, aNil_ap, aCons_ap, eOp2_ap, eOp1_ap, eChain_ap, bOf_ap, bNot_ap, bAnd_ap, bOr_ap, eAnd_ap, eOr_ap, eNot_ap, eIf_ap, eTup_ap, eLst_ap, eLstM_ap, cNop_ap, cBreak_ap, cCont_ap, cSeq_ap, cExpr_ap, cSet_ap, cRet_ap, cRetN_ap, cIf_ap, cAsg_ap, cPar2_ap, cPar3_ap, bYes_ap, eCall_ap, oNone_ap, oSome_ap, eSl_ap, cFor_ap, eMtL_ap, aKw_ap, gNm_ap, gTp2, gTp3, gSb_ap, Out.bind, Out.ofO, exq, fin, callE_ap, List.getElem?_cons_succ, List.getElem?_cons_zero, List.set_cons_succ, List.set_cons_zero, List.map_cons, List.map_nil, List.replicate, List.cons_append, List.nil_append, List.length_cons, List.length_nil, Bool.not_true, Bool.not_false, if_true, if_false, ite_true, ite_false, reduceIte, Bool.false_eq_true, Bool.true_eq_false, Nat.reduceAdd, unD, Option.map_some, Nat.zero_le, sz1, sz2, sz3, sz4, sz5, sz6, sz7, sz8, sz9, sz10, sz11, sz12, sz13, sz14, sz15, sz16, Nat.reduceSub, Nat.reduceLeDiff, reduceCtorEq, Bool.and_true, Bool.true_and, Bool.and_false, Bool.false_and, Bool.or_true, Bool.or_false, Bool.true_or, Bool.false_or, isL_at hc7, e8]
        rw [callP_d (mates_at (ls := ls) (by omega))]
        simp only [eVar_ap, eK_ap, aNil_ap, aCons_ap, eOp2_ap, eOp1_ap, eChain_ap, bOf_ap, bNot_ap, bAnd_ap, bOr_ap, eAnd_ap, eOr_ap, eNot_ap, eIf_ap, eTup_ap, eLst_ap, eLstM_ap, cNop_ap, cBreak_ap, cCont_ap, cSeq_ap, cExpr_ap, cSet_ap, cRet_ap, cRetN_ap, cIf_ap, cAsg_ap, cPar2_ap, cPar3_ap, bYes_ap, eCall_ap, oNone_ap, oSome_ap, eSl_ap, cFor_ap, eMtL_ap, aKw_ap, gNm_ap, gTp2, gTp3, gSb_ap, Out.bind, Out.ofO, exq, fin, callE_ap, List.getElem?_cons_succ, List.getElem?_cons_zero, List.set_cons_succ, List.set_cons_zero, List.map_cons, List.map_nil, List.replicate, List.cons_append, List.nil_append, List.length_cons, List.length_nil, Bool.not_true, Bool.not_false, if_true, if_false, ite_true, ite_false, reduceIte, Bool.false_eq_true, Bool.true_eq_false, Nat.reduceAdd, unD, Option.map_some, Nat.zero_le, sz1, sz2, sz3, sz4, sz5, sz6, sz7, sz8, sz9, sz10, sz11, sz12, sz13, sz14, sz15, sz16, Nat.reduceSub, Nat.reduceLeDiff, reduceCtorEq, Bool.and_true, Bool.true_and, Bool.and_false, Bool.false_and, Bool.or_true, Bool.or_false, Bool.true_or, Bool.false_or, mAppend_at hc8 (by rw [List.length_map, hl]; exact Nat.lt_of_lt_of_le hkk (len_le (by omega))), List.map_append]
      · intro m hm'
        rcases List.mem_append.1 hm' with h | h
        · exact hm m h
        · cases List.mem_singleton.1 h
          exact ⟨hmt, _, rfl, ⟨by simp; omega, fun x hx => by obtain ⟨i, _, rfl⟩ := List.mem_map.1 hx; rfl⟩, by simpa using hll⟩) (R none none) S5 ⟨⟨none, none, rfl⟩, W5, [], hc5, fun _ h => (nomatch h), rfl⟩
  rw [e6]
  simp only [List.length_range, Nat.zero_add] at hl6
  rw [List.length_range] at hl3
  refine ⟨.tuple [.tuple (nms.take k2), .tuple ys, .tuple ms], S6, ?_, W6, ?_, nms.take k2, ys, ms, rfl, ⟨by omega, ?_⟩, ⟨by omega, ?_⟩, ⟨by omega, ?_⟩, ?_, ?_⟩
  · simp only [eVar_ap, eK_ap, aNil_ap, aCons_ap, eOp2_ap, eOp1_ap, eChain_ap, bOf_ap, bNot_ap, bAnd_ap, bOr_ap, eAnd_ap, eOr_ap, eNot_ap, eIf_ap, eTup_ap, eLst_ap, eLstM_ap, cNop_ap, cBreak_ap, cCont_ap, cSeq_ap, cExpr_ap, cSet_ap, cRet_ap, cRetN_ap, cIf_ap, cAsg_ap, cPar2_ap, cPar3_ap, bYes_ap, eCall_ap, oNone_ap, oSome_ap, eSl_ap, cFor_ap, eMtL_ap, aKw_ap, gNm_ap, gTp2, gTp3, gSb_ap, Out.bind, Out.ofO, exq, fin, callE_ap, List.getElem?_cons_succ, List.getElem?_cons_zero, List.set_cons_succ, List.set_cons_zero, List.map_cons, List.map_nil, List.replicate, List.cons_append, List.nil_append, List.length_cons, List.length_nil, Bool.not_true, Bool.not_false, if_true, if_false, ite_true, ite_false, reduceIte, Bool.false_eq_true, Bool.true_eq_false, Nat.reduceAdd, unD, Option.map_some, Nat.zero_le, sz1, sz2, sz3, sz4, sz5, sz6, sz7, sz8, sz9, sz10, sz11, sz12, sz13, sz14, sz15, sz16, Nat.reduceSub, Nat.reduceLeDiff, reduceCtorEq, Bool.and_true, Bool.true_and, Bool.and_false, Bool.false_and, Bool.or_true, Bool.or_false, Bool.true_or, Bool.false_or, R, bTuple_list, bTuple_ref hc6, mkTup]
  · have i1 : ys.isEmpty = false := by cases ys <;> first | rfl | cases hl3
    have i2 : ms.isEmpty = false := by cases ms <;> first | rfl | cases hl6
    simp only [tbl, fok_nms k2 hk2, wOk, mOk, szD, hn, hl3, hl6, i1, i2, Bool.not_false, Bool.true_and, Bool.and_eq_true, decide_eq_true_eq, List.all_eq_true]
    refine ⟨⟨fun y hy => ?_, fun y hy => (hm6 y hy).1⟩, by omega, by omega, by omega⟩
    obtain ⟨l, rfl, hs⟩ := hy3 y hy
    exact ix_range hs
  · exact fun x hx => (show ∀ x ∈ nms, sm 0 x = true by decide +kernel) x (List.mem_of_mem_take hx)
  · intro y hy
    obtain ⟨l, rfl, hs⟩ := hy3 y hy
    exact (ints_sq (k := k2) (by have := hs.length_le; simpa using this)).tup (by omega)
  · intro y hy
    obtain ⟨_, ks, rfl, hk, _⟩ := hm6 y hy
    exact hk.tup
  · intro y hy
    obtain ⟨l, rfl, hs⟩ := hy3 y hy
    exact ⟨_, rfl, ints_sq (by have := hs.length_le; rw [List.length_range] at this; omega)⟩
  · intro y hy
    obtain ⟨_, ks, rfl, hk, hl⟩ := hm6 y hy
    exact ⟨ks, rfl, hk, by omega⟩
end
end Law
end

section
namespace Law
open PySem PySem.Spec PyProof.Rows L2 Sh
open Classical
section
variable {S : Sto} {x : PyData} {xs : List PyData}
theorem Sq.of_mem {n k : Nat} (h : Sq n k xs) (hx : x ∈ xs) : sm n x = true := h.2 x hx
theorem sq_rep {n k m : Nat} (h : Sq n k xs) : Sq n (m * k) (List.replicate m xs).flatten := by
  induction m with
  | zero => exact ⟨by simp, fun y hy => by simp at hy⟩
  | succ m ih =>
    rw [List.replicate_succ, List.flatten_cons]
    exact (h.app ih).le (by rw [Nat.succ_mul, Nat.add_comm]; exact Nat.le_refl _)
theorem draw_at {n : Nat} (hW : Well S n) (hz : 0 < xs.length) (hx : xs.length ≤ 1000) {many : Int} (hm : many = (xs.length : Int)) : ∃ (k : Nat) (d : PyData) (S' : Sto), m__law_draw [.ref n, .d (.int many)] S = .ok (.d (.int k)) S' ∧ k < xs.length ∧ d ∈ xs ∧ atI xs (k : Int) = some d ∧ Well S' n := by
  subst hm
  obtain ⟨k, S', e, hk, W, _, _⟩ := draw' hW (many := (xs.length : Int)) (by omega) (by omega)
  obtain ⟨d, hd, ha⟩ := atI_mem (xs := xs) (i := k) (by omega)
  exact ⟨k, d, S', e, by omega, hd, ha, W⟩
theorem bent_ok {n : Nat} {T : PyData} (hW : Well S n) (hT : Tab T) : ∃ x S', m__law_bent [.ref n, .d T] S = .ok (.d x) S' ∧ Well S' n ∧ sm 3 x = true := by
  obtain ⟨tb, fs, ws, ms, rfl, sf, sw, smm, hws, hms⟩ := hT
  have tb' := tb
  simp only [tbl, wOk, mOk, szD, Bool.and_eq_true, decide_eq_true_eq, Bool.not_eq_true'] at tb'
  have lw : 0 < ws.length := by
    cases ws with
    | nil => exact absurd tb'.1.2.1.1 (by decide)
    | cons a r => exact Nat.succ_pos _
  have lm : 0 < ms.length := by
    cases ms with
    | nil => exact absurd tb'.1.2.2.1 (by decide)
    | cons a r => exact Nat.succ_pos _
  have zf := sf.1; have zw := sw.1; have zm := smm.1
  obtain ⟨w, row, S1, e1, h1, dr, ar, W1⟩ := draw_at hW lw (by omega) rfl
  obtain ⟨i, own, S2, e2, h2, dn, an, W2⟩ := draw_at W1 lm (by omega) rfl
  obtain ⟨f, S3, e3, h3, W3, _, _⟩ := draw' W2 (many := (fs.length : Int) + 1) (by omega) (by omega)
  obtain ⟨a, S4, e4, h4, W4, _, _⟩ := draw' W3 (many := (ws.length : Int)) (by omega) (by omega)
  obtain ⟨rs, rfl, srow⟩ := hws row dr
  obtain ⟨os, rfl, sown, lown⟩ := hms own dn
  -- what is drawn, one after the other
  obtain ⟨c5, n5, S5, e5, h5, d5, a5, W5⟩ := draw_at (xs := [.str "a", .str "zz", .str "A", .str "b_", .str "", .str "0a", .str "abcdefghijk", .none, .int 7]) W4 (by decide) (by decide) (many := 9) rfl
  have s5 : sm 0 n5 = true := (show ∀ x ∈ [PyData.str "a", .str "zz", .str "A", .str "b_", .str "", .str "0a", .str "abcdefghijk", .none, .int 7], sm 0 x = true by decide +kernel) n5 d5
  obtain ⟨A1, hA1, sA1⟩ : ∃ A, cut fs none (some (f : Int)) = A ∧ Sq 0 6 A := ⟨_, rfl, sf.cut⟩
  obtain ⟨A2, hA2, sA2⟩ : ∃ A, cut fs (some (f : Int)) none = A ∧ Sq 0 6 A := ⟨_, rfl, sf.cut⟩
  obtain ⟨A3, hA3, sA3⟩ : ∃ A, cut fs (some 1) none = A ∧ Sq 0 6 A := ⟨_, rfl, sf.cut⟩
  obtain ⟨B1, hB1, sB1⟩ : ∃ A, cut ws none (some (w : Int)) = A ∧ Sq 1 8 A := ⟨_, rfl, sw.cut⟩
  obtain ⟨B2, hB2, sB2⟩ : ∃ A, cut ws (some ((w : Int) + 1)) none = A ∧ Sq 1 8 A := ⟨_, rfl, sw.cut⟩
  obtain ⟨B3, hB3, sB3⟩ : ∃ A, cut ws none (some 1) = A ∧ Sq 1 8 A := ⟨_, rfl, sw.cut⟩
  obtain ⟨C1, hC1, sC1⟩ : ∃ A, cut rs (some (-1)) none = A ∧ Sq 0 6 A := ⟨_, rfl, srow.cut⟩
  obtain ⟨O1, hO1, sO1⟩ : ∃ A, cut os none (some (a : Int)) = A ∧ Sq 0 8 A := ⟨_, rfl, sown.cut⟩
  obtain ⟨O2, hO2, sO2⟩ : ∃ A, cut os (some ((a : Int) + 1)) none = A ∧ Sq 0 8 A := ⟨_, rfl, sown.cut⟩
  obtain ⟨O3, hO3, sO3⟩ : ∃ A, cut os (some 1) none = A ∧ Sq 0 8 A := ⟨_, rfl, sown.cut⟩
  obtain ⟨M1, hM1, sM1⟩ : ∃ A, cut ms none (some (i : Int)) = A ∧ Sq 1 4 A := ⟨_, rfl, smm.cut⟩
  obtain ⟨M2, hM2, sM2⟩ : ∃ A, cut ms (some ((i : Int) + 1)) none = A ∧ Sq 1 4 A := ⟨_, rfl, smm.cut⟩
  obtain ⟨M3, hM3, sM3⟩ : ∃ A, cut ms none (some 1) = A ∧ Sq 1 4 A := ⟨_, rfl, smm.cut⟩
  obtain ⟨c6, n6, S6, e6, h6, d6, a6, W6⟩ := draw_at (xs := [.tuple rs.reverse, .tuple (rs ++ C1), .tuple (rs ++ [.int (f : Int)]), .list rs, .tuple (rs ++ [.bool true]), .none]) W5 (Nat.succ_pos _) (by simp) (many := 6) rfl
  have s6 : sm 1 n6 = true := by
    simp only [List.mem_cons, List.not_mem_nil, or_false] at d6
    rcases d6 with rfl | rfl | rfl | rfl | rfl | rfl
    · exact srow.rev.tup
    · exact (srow.app sC1).tup
    · exact (srow.app (.one rfl)).tup
    · exact srow.lst
    · exact (srow.app (.one rfl)).tup
    · rfl
  obtain ⟨k7, S7, e7, h7, W7, _, _⟩ := draw' W6 (many := (ws.length : Int)) (by omega) (by omega)
  obtain ⟨c8, n8, S8, e8, h8, d8, a8, W8⟩ := draw_at (xs := [.int (a : Int), .int 0, .int ((a : Int) + 1), .int (-1), .none, .bool true, .int (k7 : Int)]) W7 (Nat.succ_pos _) (by simp) (many := 7) rfl
  have s8 : sm 0 n8 = true := by
    simp only [List.mem_cons, List.not_mem_nil, or_false] at d8
    rcases d8 with rfl | rfl | rfl | rfl | rfl | rfl | rfl <;> rfl
  have sN : Sq 0 17 (O1 ++ [n8] ++ O2) := (sO1.app (.one s8)).app sO2
  obtain ⟨c9, n9, S9, e9, h9, d9, a9, W9⟩ := draw_at (xs := [.tuple (O1 ++ [n8] ++ O2), .tuple (O1 ++ [n8] ++ O2), .tuple O3, .tuple (os ++ [.int 0]), .list os, .none]) W8 (Nat.succ_pos _) (by simp) (many := 6) rfl
  have s9 : sm 1 n9 = true := by
    simp only [List.mem_cons, List.not_mem_nil, or_false] at d9
    rcases d9 with rfl | rfl | rfl | rfl | rfl | rfl
    · exact sN.tup
    · exact sN.tup
    · exact sO3.tup
    · exact (sown.app (.one rfl)).tup
    · exact sown.lst
    · rfl
  have hf : sm 2 (.tuple fs) = true := (sf.up (m := 1) (by decide)).tup
  have hw : sm 2 (.tuple ws) = true := sw.tup
  have hm : sm 2 (.tuple ms) = true := smm.tup
  have tt : ∀ {x y z : PyData}, sm 2 x = true → sm 2 y = true → sm 2 z = true → sm 3 (.tuple [x, y, z]) = true := fun h1 h2 h3 => (Sq.cons h1 (.cons h2 (.one h3))).tup
  let t1 : PyData := .tuple [.tuple (A1 ++ [n5] ++ A2), .tuple ws, .tuple ms]
  let t2 : PyData := .tuple [.tuple fs.reverse, .tuple ws, .tuple ms]
  let t3 : PyData := .tuple [.tuple A3, .tuple ws, .tuple ms]
  let t4 : PyData := .tuple [.tuple fs, .tuple (B1 ++ [n6] ++ B2), .tuple ms]
  let t5 : PyData := .tuple [.tuple fs, .tuple ws, .tuple (M1 ++ [n9] ++ M2)]
  let t6 : PyData := .tuple [.tuple fs, .tuple ws, .tuple (ms ++ M3)]
  let t7 : PyData := .tuple [.tuple fs, .tuple ws, .tuple []]
  let t8 : PyData := .tuple [.tuple fs, .tuple [], .tuple [.tuple []]]
  let t9 : PyData := .tuple [.tuple fs, .tuple ws, .tuple ms, .tuple []]
  let t10 : PyData := .tuple [.tuple fs, .tuple ws]
  let t11 : PyData := .list [.tuple fs, .tuple ws, .tuple ms]
  let t12 : PyData := .tuple [.tuple fs, .tuple (ws ++ B3), .tuple ms]
  obtain ⟨c10, n10, S10, e10, h10, d10, a10, W10⟩ := draw_at (xs := [t1, t2, t3, t4, t4, t5, t5, t5, t6, t7, t8, t9, t10, t11, .none, t12]) W9 (Nat.succ_pos _) (by simp) rfl
  have s10 : sm 3 n10 = true := by
    simp only [List.mem_cons, List.not_mem_nil, or_false] at d10
    rcases d10 with rfl | rfl | rfl | rfl | rfl | rfl | rfl | rfl | rfl | rfl | rfl | rfl | rfl | rfl | rfl | rfl
    · exact tt ((((sA1.app (.one s5)).app sA2).up (m := 1) (by decide)).tup) hw hm
    · exact tt ((sf.rev.up (m := 1) (by decide)).tup) hw hm
    · exact tt ((sA3.up (m := 1) (by decide)).tup) hw hm
    · exact tt hf ((sB1.app (.one s6)).app sB2).tup hm
    · exact tt hf ((sB1.app (.one s6)).app sB2).tup hm
    · exact tt hf hw ((sM1.app (.one s9)).app sM2).tup
    · exact tt hf hw ((sM1.app (.one s9)).app sM2).tup
    · exact tt hf hw ((sM1.app (.one s9)).app sM2).tup
    · exact tt hf hw (smm.app sM3).tup
    · exact tt hf hw (Sq.nil (n := 1) (k := 0)).tup
    · exact tt hf (Sq.nil (n := 1) (k := 0)).tup (Sq.one (n := 1) rfl).tup
    · exact (Sq.cons hf (.cons hw (.cons hm (.one rfl)))).tup
    · exact (Sq.cons hf (.one hw)).tup
    · exact (Sq.cons hf (.cons hw (.one hm))).lst
    · rfl
    · exact tt hf (sw.app sB3).tup hm
  refine ⟨n10, S10, ?_, W10, s10⟩
  have g1 : A1.length + 1 ≤ sizeLine := len_le (by have := sA1.1; omega)
  have g2 : (A1 ++ [n5]).length + A2.length ≤ sizeLine := len_le (by have := sA1.1; have := sA2.1; simp; omega)
  have g3 : rs.length + C1.length ≤ sizeLine := len_le (by have := srow.1; have := sC1.1; omega)
  have g4 : rs.length + 1 ≤ sizeLine := len_le (by have := srow.1; omega)
  have g5 : B1.length + 1 ≤ sizeLine := len_le (by have := sB1.1; omega)
  have g6 : (B1 ++ [n6]).length + B2.length ≤ sizeLine := len_le (by have := sB1.1; have := sB2.1; simp; omega)
  have g7 : O1.length + 1 ≤ sizeLine := len_le (by have := sO1.1; omega)
  have g8 : (O1 ++ [n8]).length + O2.length ≤ sizeLine := len_le (by have := sO1.1; have := sO2.1; simp; omega)
  have g9 : os.length + 1 ≤ sizeLine := len_le (by have := sown.1; omega)
  have g10 : M1.length + 1 ≤ sizeLine := len_le (by have := sM1.1; omega)
  have g11 : (M1 ++ [n9]).length + M2.length ≤ sizeLine := len_le (by have := sM1.1; have := sM2.1; simp; omega)
  have g12 : ms.length + M3.length ≤ sizeLine := len_le (by have := smm.1; have := sM3.1; omega)
  have g13 : ws.length + B3.length ≤ sizeLine := len_le (by have := sw.1; have := sB3.1; omega)
  simp only [List.length_cons, List.length_nil] at e10
  have r2 : ∀ x S, opMul (.d (.list [x])) (.d (.int 2)) S = .ok (.d (.list [x, x])) S := fun x S => opMul_list (xs := [x]) (k := 2) ⟨⟨by decide, by decide⟩, (by decide : 2 ≤ sizeLine)⟩
  have r3 : ∀ x S, opMul (.d (.list [x])) (.d (.int 3)) S = .ok (.d (.list [x, x, x])) S := fun x S => opMul_list (xs := [x]) (k := 3) ⟨⟨by decide, by decide⟩, (by decide : 3 ≤ sizeLine)⟩
  have a10' := opIx_list (S := S10) a10
  simp only [t1, t2, t3, t4, t5, t6, t7, t8, t9, t10, t11, t12] at a10'
  have cut2 : cut [PyData.tuple fs, .tuple ws, .tuple ms] none (some 2) = [.tuple fs, .tuple ws] := cutTo _ 2
  unfold m__law_bent defM b__law_bent
  simp only [eVar_ap, eK_ap, aNil_ap, aCons_ap, eOp2_ap, eOp1_ap, eChain_ap, bOf_ap, bNot_ap, bAnd_ap, bOr_ap, eAnd_ap, eOr_ap, eNot_ap, eIf_ap, eTup_ap, eLst_ap, eLstM_ap, cNop_ap, cBreak_ap, cCont_ap, cSeq_ap, cExpr_ap, cSet_ap, cRet_ap, cRetN_ap, cIf_ap, cAsg_ap, cPar2_ap, cPar3_ap, bYes_ap, eCall_ap, oNone_ap, oSome_ap, eSl_ap, cFor_ap, eMtL_ap, aKw_ap, gNm_ap, gTp2, gTp3, gSb_ap, Out.bind, Out.ofO, exq, fin, callE_ap, List.getElem?_cons_succ, List.getElem?_cons_zero, List.set_cons_succ, List.set_cons_zero, List.map_cons, List.map_nil, List.replicate, List.cons_append, List.nil_append, List.length_cons, List.length_nil, Bool.not_true, Bool.not_false, if_true, if_false, ite_true, ite_false, reduceIte, Bool.false_eq_true, Bool.true_eq_false, Nat.reduceAdd, unD, Option.map_some, Nat.zero_le, sz1, sz2, sz3, sz4, sz5, sz6, sz7, sz8, sz9, sz10, sz11, sz12, sz13, sz14, sz15, sz16, Nat.reduceSub, Nat.reduceLeDiff, reduceCtorEq, Bool.and_true, Bool.true_and, Bool.and_false, Bool.false_and, Bool.or_true, Bool.or_false, Bool.true_or, Bool.false_or, bLen_tup, e1, e2, e3, opAdd_int, opIx_tup ar, opIx_tup an, e4, e5, opIx_list a5, opSl_tup, mkTup, opAdd_tup, opAdd_list, hA1, hA2, hA3, hB1, hB2, hB3, hC1, hO1, hO2, hO3, hM1, hM2, hM3, opRev_tup, opNeg_int, bList_tup, e6, opIx_list a6, e7, e8, opIx_list a8, e9, opIx_list a9,
    r2, r3, g1, g2, g3, g4, g5, g6, g7, g8, g9, g10, g11, g12, g13, bLen_list, cut2, e10, a10']
theorem tab_sm {T : PyData} (h : Tab T) : sm 3 T = true := by
  obtain ⟨_, fs, ws, ms, rfl, sf, sw, smm, _, _⟩ := h
  exact (Sq.cons ((sf.up (m := 1) (by decide)).tup) (.cons sw.tup (.one smm.tup))).tup
abbrev great (k : Nat) : PyData := .tuple [.tuple [.str "a"], .tuple (List.replicate k (.tuple [])), .tuple [.tuple (List.replicate k (.int 0))]]
theorem sm_rep {n k : Nat} (h : sm n x = true) : Sq n k (List.replicate k x) := ⟨by simp, fun y hy => by rw [(List.mem_replicate.1 hy).2]; exact h⟩
theorem sm_great {k : Nat} (hk : k ≤ 100) : sm 3 (great k) = true := by
  have h1 : sm 2 (.tuple [.str "a"]) = true := by decide +kernel
  have h2 : sm 2 (.tuple (List.replicate k (.tuple []))) = true := (sm_rep (n := 1) (k := k) rfl).tup (by omega)
  have h3 : sm 1 (.tuple (List.replicate k (.int 0))) = true := (sm_rep (n := 0) (k := k) rfl).tup (by omega)
  exact (Sq.cons h1 (.cons h2 (.one (Sq.one h3).tup))).tup
noncomputable def bMore : SM := (cSeq (cSet 5 (eCall (callE m__law_bent) (aCons (eVar 1) (aCons (eVar 3) aNil)))) (cIf (bNot (bOf (eCall (callP m__law_is) (aCons (eCall (callP m_is_table) (aKw [0] (aCons (eVar 5) aNil))) (aCons (eCall (callP m__law_is_table) (aCons (eVar 5) aNil)) aNil))))) (cRet (eBl false)) (cNop)))
noncomputable def bTurn : SM := (cSeq (cSet 3 (eCall (callE m__law_table) (aCons (eVar 1) (aCons (eInt 8) (aCons (eInt 4) (aCons (eInt 6) aNil)))))) (cSeq (cIf (bOr (bOf (eOp2 (opNotB) (eCall (callP m_is_table) (aCons (eVar 3) aNil)) (eBl true))) (bNot (bOf (eCall (callP m__law_is_table) (aCons (eVar 3) aNil))))) (cRet (eBl false)) (cNop)) (cFor (iRg1 (eInt 4)) (gNm 4) bMore)))
def Rh (s : W) (a b c d : Option W) : Rho := [some s, some (.ref 0), a, b, c, d, none, none]
theorem kw1 {w : W} : permW [0] [w] = [w] := rfl
theorem more_ok {s : W} {T : PyData} {a c d : Option W} (hT : Tab T) (hW : Well S 0) : ∃ d' S', bMore (Rh s a (some (.d T)) c d) S = .ok (.nx (Rh s a (some (.d T)) c d')) S' ∧ Well S' 0 := by
  obtain ⟨x, S', e, W', hx⟩ := bent_ok hW hT
  refine ⟨some (.d x), S', ?_, W'⟩
  unfold bMore Rh
  simp only [eVar_ap, eK_ap, aNil_ap, aCons_ap, eOp2_ap, eOp1_ap, eChain_ap, bOf_ap, bNot_ap, bAnd_ap, bOr_ap, eAnd_ap, eOr_ap, eNot_ap, eIf_ap, eTup_ap, eLst_ap, eLstM_ap, cNop_ap, cBreak_ap, cCont_ap, cSeq_ap, cExpr_ap, cSet_ap, cRet_ap, cRetN_ap, cIf_ap, cAsg_ap, cPar2_ap, cPar3_ap, bYes_ap, eCall_ap, oNone_ap, oSome_ap, eSl_ap, cFor_ap, eMtL_ap, aKw_ap, gNm_ap, gTp2, gTp3, gSb_ap, Out.bind, Out.ofO, exq, fin, callE_ap, List.getElem?_cons_succ, List.getElem?_cons_zero, List.set_cons_succ, List.set_cons_zero, List.map_cons, List.map_nil, List.replicate, List.cons_append, List.nil_append, List.length_cons, List.length_nil, Bool.not_true, Bool.not_false, if_true, if_false, ite_true, ite_false, reduceIte, Bool.false_eq_true, Bool.true_eq_false, Nat.reduceAdd, unD, Option.map_some, Nat.zero_le, sz1, sz2, sz3, sz4, sz5, sz6, sz7, sz8, sz9, sz10, sz11, sz12, sz13, sz14, sz15, sz16, Nat.reduceSub, Nat.reduceLeDiff, reduceCtorEq, Bool.and_true, Bool.true_and, Bool.and_false, Bool.false_and, Bool.or_true, Bool.or_false, Bool.true_or, Bool.false_or, e, callP_d (tbl_ok (S := []) (n := 0) hx (by decide)), callP_d (law_tbl_ok (S := []) (n := 0) hx (by decide)), kw1]
  rw [callP_d (law_is_ok (S := []))]
  simp only [eVar_ap, eK_ap, aNil_ap, aCons_ap, eOp2_ap, eOp1_ap, eChain_ap, bOf_ap, bNot_ap, bAnd_ap, bOr_ap, eAnd_ap, eOr_ap, eNot_ap, eIf_ap, eTup_ap, eLst_ap, eLstM_ap, cNop_ap, cBreak_ap, cCont_ap, cSeq_ap, cExpr_ap, cSet_ap, cRet_ap, cRetN_ap, cIf_ap, cAsg_ap, cPar2_ap, cPar3_ap, bYes_ap, eCall_ap, oNone_ap, oSome_ap, eSl_ap, cFor_ap, eMtL_ap, aKw_ap, gNm_ap, gTp2, gTp3, gSb_ap, Out.bind, Out.ofO, exq, fin, callE_ap, List.getElem?_cons_succ, List.getElem?_cons_zero, List.set_cons_succ, List.set_cons_zero, List.map_cons, List.map_nil, List.replicate, List.cons_append, List.nil_append, List.length_cons, List.length_nil, Bool.not_true, Bool.not_false, if_true, if_false, ite_true, ite_false, reduceIte, Bool.false_eq_true, Bool.true_eq_false, Nat.reduceAdd, unD, Option.map_some, Nat.zero_le, sz1, sz2, sz3, sz4, sz5, sz6, sz7, sz8, sz9, sz10, sz11, sz12, sz13, sz14, sz15, sz16, Nat.reduceSub, Nat.reduceLeDiff, reduceCtorEq, Bool.and_true, Bool.true_and, Bool.and_false, Bool.false_and, Bool.or_true, Bool.or_false, Bool.true_or, Bool.false_or, beq_self_eq_true]
theorem turn_ok {s : W} {a b c d : Option W} (hW : Well S 0) : ∃ b' c' d' S', bTurn (Rh s a b c d) S = .ok (.nx (Rh s a b' c' d')) S' ∧ Well S' 0 := by
  obtain ⟨T, S', e, W', hT⟩ := table_ok hW
  have hx := tab_sm hT
  obtain ⟨ρ', S2, e2, ⟨c', d', rfl⟩, W2⟩ := forL_inv (mk := fun (k : Nat) => W.d (.int (k : Int))) (grd := fun _ => True) (g := gNm 4) (body := bMore) (Inv := fun ρ S => (∃ c d, ρ = Rh s a (some (.d T)) c d) ∧ Well S 0) (fun _ _ _ => trivial) (List.range 4) (by
    rintro x _ _ S ⟨⟨c, d, rfl⟩, hW⟩
    obtain ⟨d', S', e, W'⟩ := more_ok (s := s) (a := a) (c := some (.d (.int (x : Int)))) (d := d) hT hW
    exact ⟨_, _, rfl, _, _, .inl e, ⟨_, _, rfl⟩, W'⟩) (Rh s a (some (.d T)) c d) S' ⟨⟨_, _, rfl⟩, W'⟩
  refine ⟨some (.d T), c', d', S2, ?_, W2⟩
  unfold bTurn
  unfold Rh at e2 ⊢
  simp only [eVar_ap, eK_ap, aNil_ap, aCons_ap, eOp2_ap, eOp1_ap, eChain_ap, bOf_ap, bNot_ap, bAnd_ap, bOr_ap, eAnd_ap, eOr_ap, eNot_ap, eIf_ap, eTup_ap, eLst_ap, eLstM_ap, cNop_ap, cBreak_ap, cCont_ap, cSeq_ap, cExpr_ap, cSet_ap, cRet_ap, cRetN_ap, cIf_ap, cAsg_ap, cPar2_ap, cPar3_ap, bYes_ap, eCall_ap, oNone_ap, oSome_ap, eSl_ap, cFor_ap, eMtL_ap, aKw_ap, gNm_ap, gTp2, gTp3, gSb_ap, Out.bind, Out.ofO, exq, fin, callE_ap, List.getElem?_cons_succ, List.getElem?_cons_zero, List.set_cons_succ, List.set_cons_zero, List.map_cons, List.map_nil, List.replicate, List.cons_append, List.nil_append, List.length_cons, List.length_nil, Bool.not_true, Bool.not_false, if_true, if_false, ite_true, ite_false, reduceIte, Bool.false_eq_true, Bool.true_eq_false, Nat.reduceAdd, unD, Option.map_some, Nat.zero_le, sz1, sz2, sz3, sz4, sz5, sz6, sz7, sz8, sz9, sz10, sz11, sz12, sz13, sz14, sz15, sz16, Nat.reduceSub, Nat.reduceLeDiff, reduceCtorEq, Bool.and_true, Bool.true_and, Bool.and_false, Bool.false_and, Bool.or_true, Bool.or_false, Bool.true_or, Bool.false_or, e, callP_d (tbl_ok (S := []) (n := 0) hx (by decide)), callP_d (law_tbl_ok (S := []) (n := 0) hx (by decide)), hT.tb, opNotB_b, show (true == true) = true from rfl]
  rw [iRg1_nat (j := 4) rfl (by decide)]
  simp only [eVar_ap, eK_ap, aNil_ap, aCons_ap, eOp2_ap, eOp1_ap, eChain_ap, bOf_ap, bNot_ap, bAnd_ap, bOr_ap, eAnd_ap, eOr_ap, eNot_ap, eIf_ap, eTup_ap, eLst_ap, eLstM_ap, cNop_ap, cBreak_ap, cCont_ap, cSeq_ap, cExpr_ap, cSet_ap, cRet_ap, cRetN_ap, cIf_ap, cAsg_ap, cPar2_ap, cPar3_ap, bYes_ap, eCall_ap, oNone_ap, oSome_ap, eSl_ap, cFor_ap, eMtL_ap, aKw_ap, gNm_ap, gTp2, gTp3, gSb_ap, Out.bind, Out.ofO, exq, fin, callE_ap, List.getElem?_cons_succ, List.getElem?_cons_zero, List.set_cons_succ, List.set_cons_zero, List.map_cons, List.map_nil, List.replicate, List.cons_append, List.nil_append, List.length_cons, List.length_nil, Bool.not_true, Bool.not_false, if_true, if_false, ite_true, ite_false, reduceIte, Bool.false_eq_true, Bool.true_eq_false, Nat.reduceAdd, unD, Option.map_some, Nat.zero_le, sz1, sz2, sz3, sz4, sz5, sz6, sz7, sz8, sz9, sz10, sz11, sz12, sz13, sz14, sz15, sz16, Nat.reduceSub, Nat.reduceLeDiff, reduceCtorEq, Bool.and_true, Bool.true_and, Bool.and_false, Bool.false_and, Bool.or_true, Bool.or_false, Bool.true_or, Bool.false_or, e2]
theorem plain (ns : List Int) (hl : ns.length ≤ 63) : ∃ S', m_law [.fl (ns.map .int)] [] = .ok (.d (.bool true)) S' := by
  have hw := well_ok (S := []) hl
  have e0 : m__law_well [.fl (ns.map .int)] [] = .ok (.ref 0) [wellOb ns 0 40507] := hw.1
  have W0 : Well [wellOb ns 0 40507] 0 := hw.2
  generalize [wellOb ns 0 40507] = S0 at e0 W0
  clear hw
  let j : Int := 1 + (if (8 : Int) < ((ns.map PyData.int).length : Int) then 8 else ((ns.map PyData.int).length : Int))
  obtain ⟨ρ', S2, e2, ⟨a, b, c, d, rfl⟩, W2⟩ := forL_inv (mk := fun (k : Nat) => W.d (.int (k : Int))) (grd := fun _ => True) (g := gNm 2) (body := bTurn) (Inv := fun ρ S => (∃ a b c d, ρ = Rh (.fl (ns.map .int)) a b c d) ∧ Well S 0) (fun _ _ _ => trivial) (List.range j.toNat) (by
    rintro x _ _ S ⟨⟨a, b, c, d, rfl⟩, hW⟩
    obtain ⟨b', c', d', S', e, W'⟩ := turn_ok (s := .fl (ns.map .int)) (a := some (.d (.int (x : Int)))) (b := b) (c := c) (d := d) hW
    exact ⟨_, _, rfl, _, _, .inl e, ⟨_, _, _, _, rfl⟩, W'⟩) (Rh (.fl (ns.map .int)) none none none none) S0 ⟨⟨_, _, _, _, rfl⟩, W0⟩
  have hg : ∀ (S : Sto) (v : W), eLc (iSq (eTup (aCons (eInt 16) (aCons (eInt 17) aNil)))) (gNm 7) (bYes) (eTup (aCons (eTup (aCons (eStr "a") aNil)) (aCons (eOp2 opMul (eTup (aCons (eTup aNil) aNil)) (eVar 7)) (aCons (eTup (aCons (eOp2 opMul (eTup (aCons (eInt 0) aNil)) (eVar 7)) aNil)) aNil)))) [7] (Rh v a b c d) S = .ok (.d (.list [great 16, great 17])) S := fun S v => by
    have hr : ∀ (x : PyData) (k : Nat), 2 ≤ k → k ≤ 100 → opMul (.d (.tuple [x])) (.d (.int (k : Int))) S = .ok (.d (.tuple (List.replicate k x))) S := fun x k h1 h2 => by
      rw [opMul_tup ⟨by simp, by omega, by omega, by simp⟩, Int.toNat_natCast]
      congr 3
      clear h1 h2
      induction k with
      | zero => rfl
      | succ k ih => rw [List.replicate_succ, List.flatten_cons, ih, List.replicate_succ]; rfl
    have := eLc_y (S := S) (ρ := Rh v a b c d) (im := iSq (eTup (aCons (eInt 16) (aCons (eInt 17) aNil)))) (g := gNm 7) (vs := [7]) (elt := eTup (aCons (eTup (aCons (eStr "a") aNil)) (aCons (eOp2 opMul (eTup (aCons (eTup aNil) aNil)) (eVar 7)) (aCons (eTup (aCons (eOp2 opMul (eTup (aCons (eInt 0) aNil)) (eVar 7)) aNil)) aNil)))) [16, 17] (fun (k : Nat) => W.d (.int (k : Int))) great (grd := fun _ => True) (iSq_tup (xs := [.int 16, .int 17]) rfl) trivial (by decide) fun k hk => ?_
    · exact this
    · have hk : 2 ≤ k ∧ k ≤ 100 := by
        simp only [List.mem_cons, List.not_mem_nil, or_false] at hk
        rcases hk with rfl | rfl <;> decide
      refine ⟨_, rfl, ?_⟩
      simp only [eVar_ap, eK_ap, aNil_ap, aCons_ap, eOp2_ap, eOp1_ap, eChain_ap, bOf_ap, bNot_ap, bAnd_ap, bOr_ap, eAnd_ap, eOr_ap, eNot_ap, eIf_ap, eTup_ap, eLst_ap, eLstM_ap, cNop_ap, cBreak_ap, cCont_ap, cSeq_ap, cExpr_ap, cSet_ap, cRet_ap, cRetN_ap, cIf_ap, cAsg_ap, cPar2_ap, cPar3_ap, bYes_ap, eCall_ap, oNone_ap, oSome_ap, eSl_ap, cFor_ap, eMtL_ap, aKw_ap, gNm_ap, gTp2, gTp3, gSb_ap, Out.bind, Out.ofO, exq, fin, callE_ap, List.getElem?_cons_succ, List.getElem?_cons_zero, List.set_cons_succ, List.set_cons_zero, List.map_cons, List.map_nil, List.replicate, List.cons_append, List.nil_append, List.length_cons, List.length_nil, Bool.not_true, Bool.not_false, if_true, if_false, ite_true, ite_false, reduceIte, Bool.false_eq_true, Bool.true_eq_false, Nat.reduceAdd, unD, Option.map_some, Nat.zero_le, sz1, sz2, sz3, sz4, sz5, sz6, sz7, sz8, sz9, sz10, sz11, sz12, sz13, sz14, sz15, sz16, Nat.reduceSub, Nat.reduceLeDiff, reduceCtorEq, Bool.and_true, Bool.true_and, Bool.and_false, Bool.false_and, Bool.or_true, Bool.or_false, Bool.true_or, Bool.false_or, Rh, wipeR, hr _ k hk.1 hk.2, mkTup]
  have g16 : tbl (great 16) = true := by decide +kernel
  have g17 : tbl (great 17) = false := by decide +kernel
  refine ⟨S2, ?_⟩
  unfold m_law defM b_law
  unfold bTurn bMore Rh at e2
  unfold Rh at hg
  simp only [eVar_ap, eK_ap, aNil_ap, aCons_ap, eOp2_ap, eOp1_ap, eChain_ap, bOf_ap, bNot_ap, bAnd_ap, bOr_ap, eAnd_ap, eOr_ap, eNot_ap, eIf_ap, eTup_ap, eLst_ap, eLstM_ap, cNop_ap, cBreak_ap, cCont_ap, cSeq_ap, cExpr_ap, cSet_ap, cRet_ap, cRetN_ap, cIf_ap, cAsg_ap, cPar2_ap, cPar3_ap, bYes_ap, eCall_ap, oNone_ap, oSome_ap, eSl_ap, cFor_ap, eMtL_ap, aKw_ap, gNm_ap, gTp2, gTp3, gSb_ap, Out.bind, Out.ofO, exq, fin, callE_ap, List.getElem?_cons_succ, List.getElem?_cons_zero, List.set_cons_succ, List.set_cons_zero, List.map_cons, List.map_nil, List.replicate, List.cons_append, List.nil_append, List.length_cons, List.length_nil, Bool.not_true, Bool.not_false, if_true, if_false, ite_true, ite_false, reduceIte, Bool.false_eq_true, Bool.true_eq_false, Nat.reduceAdd, unD, Option.map_some, Nat.zero_le, sz1, sz2, sz3, sz4, sz5, sz6, sz7, sz8, sz9, sz10, sz11, sz12, sz13, sz14, sz15, sz16, Nat.reduceSub, Nat.reduceLeDiff, reduceCtorEq, Bool.and_true, Bool.true_and, Bool.and_false, Bool.false_and, Bool.or_true, Bool.or_false, Bool.true_or, Bool.false_or, e0]
  rw [iRg1_at (j := j) (by simp only [eVar_ap, eK_ap, aNil_ap, aCons_ap, eOp2_ap, eOp1_ap, eChain_ap, bOf_ap, bNot_ap, bAnd_ap, bOr_ap, eAnd_ap, eOr_ap, eNot_ap, eIf_ap, eTup_ap, eLst_ap, eLstM_ap, cNop_ap, cBreak_ap, cCont_ap, cSeq_ap, cExpr_ap, cSet_ap, cRet_ap, cRetN_ap, cIf_ap, cAsg_ap, cPar2_ap, cPar3_ap, bYes_ap, eCall_ap, oNone_ap, oSome_ap, eSl_ap, cFor_ap, eMtL_ap, aKw_ap, gNm_ap, gTp2, gTp3, gSb_ap, Out.bind, Out.ofO, exq, fin, callE_ap, List.getElem?_cons_succ, List.getElem?_cons_zero, List.set_cons_succ, List.set_cons_zero, List.map_cons, List.map_nil, List.replicate, List.cons_append, List.nil_append, List.length_cons, List.length_nil, Bool.not_true, Bool.not_false, if_true, if_false, ite_true, ite_false, reduceIte, Bool.false_eq_true, Bool.true_eq_false, Nat.reduceAdd, unD, Option.map_some, Nat.zero_le, sz1, sz2, sz3, sz4, sz5, sz6, sz7, sz8, sz9, sz10, sz11, sz12, sz13, sz14, sz15, sz16, Nat.reduceSub, Nat.reduceLeDiff, reduceCtorEq, Bool.and_true, Bool.true_and, Bool.and_false, Bool.false_and, Bool.or_true, Bool.or_false, Bool.true_or, Bool.false_or, bLen_fl, bMin2_int, opAdd_int]; rfl) (by simp only [j]; rw [List.length_map]; split <;> omega)]
  simp only [eVar_ap, eK_ap, aNil_ap, aCons_ap, eOp2_ap, eOp1_ap, eChain_ap, bOf_ap, bNot_ap, bAnd_ap, bOr_ap, eAnd_ap, eOr_ap, eNot_ap, eIf_ap, eTup_ap, eLst_ap, eLstM_ap, cNop_ap, cBreak_ap, cCont_ap, cSeq_ap, cExpr_ap, cSet_ap, cRet_ap, cRetN_ap, cIf_ap, cAsg_ap, cPar2_ap, cPar3_ap, bYes_ap, eCall_ap, oNone_ap, oSome_ap, eSl_ap, cFor_ap, eMtL_ap, aKw_ap, gNm_ap, gTp2, gTp3, gSb_ap, Out.bind, Out.ofO, exq, fin, callE_ap, List.getElem?_cons_succ, List.getElem?_cons_zero, List.set_cons_succ, List.set_cons_zero, List.map_cons, List.map_nil, List.replicate, List.cons_append, List.nil_append, List.length_cons, List.length_nil, Bool.not_true, Bool.not_false, if_true, if_false, ite_true, ite_false, reduceIte, Bool.false_eq_true, Bool.true_eq_false, Nat.reduceAdd, unD, Option.map_some, Nat.zero_le, sz1, sz2, sz3, sz4, sz5, sz6, sz7, sz8, sz9, sz10, sz11, sz12, sz13, sz14, sz15, sz16, Nat.reduceSub, Nat.reduceLeDiff, reduceCtorEq, Bool.and_true, Bool.true_and, Bool.and_false, Bool.false_and, Bool.or_true, Bool.or_false, Bool.true_or, Bool.false_or, e2, hg]
  simp only [eVar_ap, eK_ap, aNil_ap, aCons_ap, eOp2_ap, eOp1_ap, eChain_ap, bOf_ap, bNot_ap, bAnd_ap, bOr_ap, eAnd_ap, eOr_ap, eNot_ap, eIf_ap, eTup_ap, eLst_ap, eLstM_ap, cNop_ap, cBreak_ap, cCont_ap, cSeq_ap, cExpr_ap, cSet_ap, cRet_ap, cRetN_ap, cIf_ap, cAsg_ap, cPar2_ap, cPar3_ap, bYes_ap, eCall_ap, oNone_ap, oSome_ap, eSl_ap, cFor_ap, eMtL_ap, aKw_ap, gNm_ap, gTp2, gTp3, gSb_ap, Out.bind, Out.ofO, exq, fin, callE_ap, List.getElem?_cons_succ, List.getElem?_cons_zero, List.set_cons_succ, List.set_cons_zero, List.map_cons, List.map_nil, List.replicate, List.cons_append, List.nil_append, List.length_cons, List.length_nil, Bool.not_true, Bool.not_false, if_true, if_false, ite_true, ite_false, reduceIte, Bool.false_eq_true, Bool.true_eq_false, Nat.reduceAdd, unD, Option.map_some, Nat.zero_le, sz1, sz2, sz3, sz4, sz5, sz6, sz7, sz8, sz9, sz10, sz11, sz12, sz13, sz14, sz15, sz16, Nat.reduceSub, Nat.reduceLeDiff, reduceCtorEq, Bool.and_true, Bool.true_and, Bool.and_false, Bool.false_and, Bool.or_true, Bool.or_false, Bool.true_or, Bool.false_or, opIx_list (xs := [great 16, great 17]) (i := 0) (d := great 16) rfl, opIx_list (xs := [great 16, great 17]) (i := 1) (d := great 17) rfl]
  rw [callP_d (tbl_ok (S := []) (n := 0) (sm_great (k := 16) (by decide)) (by decide)), g16]
  simp only [eVar_ap, eK_ap, aNil_ap, aCons_ap, eOp2_ap, eOp1_ap, eChain_ap, bOf_ap, bNot_ap, bAnd_ap, bOr_ap, eAnd_ap, eOr_ap, eNot_ap, eIf_ap, eTup_ap, eLst_ap, eLstM_ap, cNop_ap, cBreak_ap, cCont_ap, cSeq_ap, cExpr_ap, cSet_ap, cRet_ap, cRetN_ap, cIf_ap, cAsg_ap, cPar2_ap, cPar3_ap, bYes_ap, eCall_ap, oNone_ap, oSome_ap, eSl_ap, cFor_ap, eMtL_ap, aKw_ap, gNm_ap, gTp2, gTp3, gSb_ap, Out.bind, Out.ofO, exq, fin, callE_ap, List.getElem?_cons_succ, List.getElem?_cons_zero, List.set_cons_succ, List.set_cons_zero, List.map_cons, List.map_nil, List.replicate, List.cons_append, List.nil_append, List.length_cons, List.length_nil, Bool.not_true, Bool.not_false, if_true, if_false, ite_true, ite_false, reduceIte, Bool.false_eq_true, Bool.true_eq_false, Nat.reduceAdd, unD, Option.map_some, Nat.zero_le, sz1, sz2, sz3, sz4, sz5, sz6, sz7, sz8, sz9, sz10, sz11, sz12, sz13, sz14, sz15, sz16, Nat.reduceSub, Nat.reduceLeDiff, reduceCtorEq, Bool.and_true, Bool.true_and, Bool.and_false, Bool.false_and, Bool.or_true, Bool.or_false, Bool.true_or, Bool.false_or, opIsB_b, show (true == true) = true from rfl]
  rw [callP_d (tbl_ok (S := []) (n := 0) (sm_great (k := 17) (by decide)) (by decide)), g17]
  rfl
end
end Law
end

section
set_option maxHeartbeats 4000000
namespace Law
open PySem PySem.Spec PyProof.Rows L2 Sh
def topS (i : Nat) : Stmt := PySem.Challenge.pw_whoknows_k01_tables_judged.main.body.getD i (.Pass ⟨0, 0, 0, 0⟩)
abbrev s_is_int : Stmt := topS 1
theorem sc_is_int : FnScope ["thing"] ["thing"] (defScope s_is_int) := ⟨rfl, rfl, rfl, by decide +kernel, rfl, by decide +kernel, by decide +kernel⟩
abbrev s_is_row : Stmt := topS 3
theorem sc_is_row : FnScope ["thing", "low", "high"] ["thing", "low", "high"] (defScope s_is_row) := ⟨rfl, rfl, rfl, by decide +kernel, rfl, by decide +kernel, by decide +kernel⟩
abbrev s_is_ascending : Stmt := topS 4
theorem sc_is_ascending : FnScope ["thing", "one", "other"] ["thing"] (defScope s_is_ascending) := ⟨rfl, rfl, rfl, by decide +kernel, rfl, by decide +kernel, by decide +kernel⟩
abbrev s_is_low_name : Stmt := topS 13
theorem sc_is_low_name : FnScope ["thing", "sign"] ["thing"] (defScope s_is_low_name) := ⟨rfl, rfl, rfl, by decide +kernel, rfl, by decide +kernel, by decide +kernel⟩
abbrev s__law_well : Stmt := topS 19
theorem sc__law_well : FnScope ["script", "cell"] ["script"] (defScope s__law_well) := ⟨rfl, rfl, rfl, by decide +kernel, rfl, by decide +kernel, by decide +kernel⟩
abbrev s__law_draw : Stmt := topS 20
theorem sc__law_draw : FnScope ["well", "many", "cell", "weight", "found"] ["well", "many"] (defScope s__law_draw) := ⟨rfl, rfl, rfl, by decide +kernel, rfl, by decide +kernel, by decide +kernel⟩
abbrev s__law_mates : Stmt := topS 21
theorem sc__law_mates : FnScope ["labels", "label"] ["labels"] (defScope s__law_mates) := ⟨rfl, rfl, rfl, by decide +kernel, rfl, by decide +kernel, by decide +kernel⟩
abbrev s__law_is : Stmt := topS 23
theorem sc__law_is : FnScope ["told", "due"] ["told", "due"] (defScope s__law_is) := ⟨rfl, rfl, rfl, by decide +kernel, rfl, by decide +kernel, by decide +kernel⟩
abbrev s__law_is_low : Stmt := topS 24
theorem sc__law_is_low : FnScope ["name", "letters", "sign"] ["name"] (defScope s__law_is_low) := ⟨rfl, rfl, rfl, by decide +kernel, rfl, by decide +kernel, by decide +kernel⟩
abbrev s__law_are_indexes : Stmt := topS 25
theorem sc__law_are_indexes : FnScope ["thing", "many", "k"] ["thing", "many"] (defScope s__law_are_indexes) := ⟨rfl, rfl, rfl, by decide +kernel, rfl, by decide +kernel, by decide +kernel⟩
abbrev s_within : Stmt := topS 2
theorem sc_within : FnScope ["thing", "low", "high"] ["thing", "low", "high"] (defScope s_within) := ⟨rfl, rfl, rfl, by decide +kernel, rfl, by decide +kernel, by decide +kernel⟩
abbrev s_are_facts_of_any_size : Stmt := topS 14
theorem sc_are_facts_of_any_size : FnScope ["thing", "name"] ["thing"] (defScope s_are_facts_of_any_size) := ⟨rfl, rfl, rfl, by decide +kernel, rfl, by decide +kernel, by decide +kernel⟩
abbrev s__law_table : Stmt := topS 22
theorem sc__law_table : FnScope ["well", "worlds", "players", "facts", "many", "names", "rows", "own", "i", "kinds", "w", "f"] ["well", "worlds", "players", "facts"] (defScope s__law_table) := ⟨rfl, rfl, rfl, by decide +kernel, rfl, by decide +kernel, by decide +kernel⟩
abbrev s__law_is_table : Stmt := topS 26
theorem sc__law_is_table : FnScope ["thing", "facts", "worlds", "mates", "row", "k", "part", "name", "w"] ["thing"] (defScope s__law_is_table) := ⟨rfl, rfl, rfl, by decide +kernel, rfl, by decide +kernel, by decide +kernel⟩
abbrev s__law_bent : Stmt := topS 27
theorem sc__law_bent : FnScope ["well", "table", "facts", "worlds", "mates", "w", "i", "f", "row", "own", "at", "names", "things", "new"] ["well", "table"] (defScope s__law_bent) := ⟨rfl, rfl, rfl, by decide +kernel, rfl, by decide +kernel, by decide +kernel⟩
abbrev s_are_indexes : Stmt := topS 5
theorem sc_are_indexes : FnScope ["thing", "many", "entry"] ["thing", "many"] (defScope s_are_indexes) := ⟨rfl, rfl, rfl, by decide +kernel, rfl, by decide +kernel, by decide +kernel⟩
abbrev s_are_mates : Stmt := topS 15
theorem sc_are_mates : FnScope ["thing", "many", "world", "mate"] ["thing", "many"] (defScope s_are_mates) := ⟨rfl, rfl, rfl, by decide +kernel, rfl, by decide +kernel, by decide +kernel⟩
abbrev s_is_table_of_any_size : Stmt := topS 16
theorem sc_is_table_of_any_size : FnScope ["thing", "facts", "worlds", "mates", "row", "world"] ["thing"] (defScope s_is_table_of_any_size) := ⟨rfl, rfl, rfl, by decide +kernel, rfl, by decide +kernel, by decide +kernel⟩
abbrev s_is_table : Stmt := topS 17
theorem sc_is_table : FnScope ["thing"] ["thing"] (defScope s_is_table) := ⟨rfl, rfl, rfl, by decide +kernel, rfl, by decide +kernel, by decide +kernel⟩
abbrev s_law : Stmt := topS 28
theorem sc_law : FnScope ["script", "well", "turn", "table", "more", "bent", "great", "many"] ["script"] (defScope s_law) := ⟨rfl, rfl, rfl, by decide +kernel, rfl, by decide +kernel, by decide +kernel⟩
structure Lw0 (K : PySem.W.Frag) (mg : Str → Option Value) where
  a_is_int : Addr
  d_is_int : FuncData
  f_is_int : Fun K "is_int" "is_int" s_is_int a_is_int d_is_int
  g_is_int : mg "is_int" = some (.ref a_is_int)
  b_is_int : Binds K d_is_int ["thing"] []
  a_is_row : Addr
  d_is_row : FuncData
  f_is_row : Fun K "is_row" "is_row" s_is_row a_is_row d_is_row
  g_is_row : mg "is_row" = some (.ref a_is_row)
  b_is_row : Binds K d_is_row ["thing", "low", "high"] []
  a_is_ascending : Addr
  d_is_ascending : FuncData
  f_is_ascending : Fun K "is_ascending" "is_ascending" s_is_ascending a_is_ascending d_is_ascending
  g_is_ascending : mg "is_ascending" = some (.ref a_is_ascending)
  b_is_ascending : Binds K d_is_ascending ["thing"] []
  a_is_low_name : Addr
  d_is_low_name : FuncData
  f_is_low_name : Fun K "is_low_name" "is_low_name" s_is_low_name a_is_low_name d_is_low_name
  g_is_low_name : mg "is_low_name" = some (.ref a_is_low_name)
  b_is_low_name : Binds K d_is_low_name ["thing"] []
  a__law_well : Addr
  d__law_well : FuncData
  f__law_well : Fun K "_law_well" "_law_well" s__law_well a__law_well d__law_well
  g__law_well : mg "_law_well" = some (.ref a__law_well)
  b__law_well : Binds K d__law_well ["script"] []
  a__law_draw : Addr
  d__law_draw : FuncData
  f__law_draw : Fun K "_law_draw" "_law_draw" s__law_draw a__law_draw d__law_draw
  g__law_draw : mg "_law_draw" = some (.ref a__law_draw)
  b__law_draw : Binds K d__law_draw ["well", "many"] []
  a__law_mates : Addr
  d__law_mates : FuncData
  f__law_mates : Fun K "_law_mates" "_law_mates" s__law_mates a__law_mates d__law_mates
  g__law_mates : mg "_law_mates" = some (.ref a__law_mates)
  b__law_mates : Binds K d__law_mates ["labels"] []
  a__law_is : Addr
  d__law_is : FuncData
  f__law_is : Fun K "_law_is" "_law_is" s__law_is a__law_is d__law_is
  g__law_is : mg "_law_is" = some (.ref a__law_is)
  b__law_is : Binds K d__law_is ["told", "due"] []
  a__law_is_low : Addr
  d__law_is_low : FuncData
  f__law_is_low : Fun K "_law_is_low" "_law_is_low" s__law_is_low a__law_is_low d__law_is_low
  g__law_is_low : mg "_law_is_low" = some (.ref a__law_is_low)
  b__law_is_low : Binds K d__law_is_low ["name"] []
  a__law_are_indexes : Addr
  d__law_are_indexes : FuncData
  f__law_are_indexes : Fun K "_law_are_indexes" "_law_are_indexes" s__law_are_indexes a__law_are_indexes d__law_are_indexes
  g__law_are_indexes : mg "_law_are_indexes" = some (.ref a__law_are_indexes)
  b__law_are_indexes : Binds K d__law_are_indexes ["thing", "many"] []
  a_within : Addr
  d_within : FuncData
  f_within : Fun K "within" "within" s_within a_within d_within
  g_within : mg "within" = some (.ref a_within)
  b_within : Binds K d_within ["thing", "low", "high"] []
  a_are_facts_of_any_size : Addr
  d_are_facts_of_any_size : FuncData
  f_are_facts_of_any_size : Fun K "are_facts_of_any_size" "are_facts_of_any_size" s_are_facts_of_any_size a_are_facts_of_any_size d_are_facts_of_any_size
  g_are_facts_of_any_size : mg "are_facts_of_any_size" = some (.ref a_are_facts_of_any_size)
  b_are_facts_of_any_size : Binds K d_are_facts_of_any_size ["thing"] []
  a__law_table : Addr
  d__law_table : FuncData
  f__law_table : Fun K "_law_table" "_law_table" s__law_table a__law_table d__law_table
  g__law_table : mg "_law_table" = some (.ref a__law_table)
  b__law_table : Binds K d__law_table ["well", "worlds", "players", "facts"] []
  a__law_is_table : Addr
  d__law_is_table : FuncData
  f__law_is_table : Fun K "_law_is_table" "_law_is_table" s__law_is_table a__law_is_table d__law_is_table
  g__law_is_table : mg "_law_is_table" = some (.ref a__law_is_table)
  b__law_is_table : Binds K d__law_is_table ["thing"] []
  a__law_bent : Addr
  d__law_bent : FuncData
  f__law_bent : Fun K "_law_bent" "_law_bent" s__law_bent a__law_bent d__law_bent
  g__law_bent : mg "_law_bent" = some (.ref a__law_bent)
  b__law_bent : Binds K d__law_bent ["well", "table"] []
  a_are_indexes : Addr
  d_are_indexes : FuncData
  f_are_indexes : Fun K "are_indexes" "are_indexes" s_are_indexes a_are_indexes d_are_indexes
  g_are_indexes : mg "are_indexes" = some (.ref a_are_indexes)
  b_are_indexes : Binds K d_are_indexes ["thing", "many"] []
  a_are_mates : Addr
  d_are_mates : FuncData
  f_are_mates : Fun K "are_mates" "are_mates" s_are_mates a_are_mates d_are_mates
  g_are_mates : mg "are_mates" = some (.ref a_are_mates)
  b_are_mates : Binds K d_are_mates ["thing", "many"] []
  a_is_table_of_any_size : Addr
  d_is_table_of_any_size : FuncData
  f_is_table_of_any_size : Fun K "is_table_of_any_size" "is_table_of_any_size" s_is_table_of_any_size a_is_table_of_any_size d_is_table_of_any_size
  g_is_table_of_any_size : mg "is_table_of_any_size" = some (.ref a_is_table_of_any_size)
  b_is_table_of_any_size : Binds K d_is_table_of_any_size ["thing"] []
  a_is_table : Addr
  d_is_table : FuncData
  f_is_table : Fun K "is_table" "is_table" s_is_table a_is_table d_is_table
  g_is_table : mg "is_table" = some (.ref a_is_table)
  b_is_table : Binds K d_is_table ["thing"] []
  a_law : Addr
  d_law : FuncData
  f_law : Fun K "law" "law" s_law a_law d_law
  g_law : mg "law" = some (.ref a_law)
  b_law : Binds K d_law ["script"] []
  k_is_table_thing : KB K d_is_table ["thing"] ["thing"] [0]
  t_MOST_WORLDS : Tok
  c_MOST_WORLDS : mg "MOST_WORLDS" = some (.int 16 t_MOST_WORLDS)
  t_MOST_PLAYERS : Tok
  c_MOST_PLAYERS : mg "MOST_PLAYERS" = some (.int 4 t_MOST_PLAYERS)
  t_MOST_FACTS : Tok
  c_MOST_FACTS : mg "MOST_FACTS" = some (.int 6 t_MOST_FACTS)
  t_LONGEST_NAME : Tok
  c_LONGEST_NAME : mg "LONGEST_NAME" = some (.int 10 t_LONGEST_NAME)
  t_LOW_LETTERS : Tok
  c_LOW_LETTERS : mg "LOW_LETTERS" = some (.str "abcdefghijklmnopqrstuvwxyz" t_LOW_LETTERS)
  t_LOW_SIGNS : Tok
  c_LOW_SIGNS : mg "LOW_SIGNS" = some (.str "abcdefghijklmnopqrstuvwxyz0123456789" t_LOW_SIGNS)
  n_abs : mg "abs" = none
  n_all : mg "all" = none
  n_bool : mg "bool" = none
  n_enumerate : mg "enumerate" = none
  n_int : mg "int" = none
  n_isinstance : mg "isinstance" = none
  n_len : mg "len" = none
  n_list : mg "list" = none
  n_min : mg "min" = none
  n_range : mg "range" = none
  n_str : mg "str" = none
  n_tuple : mg "tuple" = none
  n_zip : mg "zip" = none
section
variable {P : Program} {w : World} {K : PySem.W.Frag} {mg : Str → Option Value} {base : Heap}
theorem ok_is_int (L : Lw0 K mg) : FnOk P w K mg base (L2.CX P w) 1 L.a_is_int L.d_is_int ["thing"] (spM K mg 1 m_is_int) := by
  refine def_ok L.f_is_int sc_is_int fun cdv A outer s H E hr => ?_
  have tk := tk_body (P := P) (w := w) (K := K) (mg := mg) (base := base) (N := ["thing"]) (qual := "is_int") (scope := defScope s_is_int) (f := L.a_is_int) (cdv := cdv) (A := A) (outer := outer) (s := s) (H := H) (E := E)
  have po := po_body (P := P) (w := w) (K := K) (mg := mg) (base := base) (N := ["thing"]) (qual := "is_int") (scope := defScope s_is_int) (f := L.a_is_int) (cdv := cdv) (A := A) (outer := outer) (s := s) (H := H) (E := E)
  exact sm_one (sm_ret (s_and (s_isi kit_int L.n_isinstance L.n_int (by decide +kernel) (s_var 0)) (s_one (s_not (s_isi kit_bool L.n_isinstance L.n_bool (by decide +kernel) (s_var 0))))))
theorem ok_is_row (L : Lw0 K mg) : FnOk P w K mg base (L2.CX P w) 1 L.a_is_row L.d_is_row ["thing", "low", "high"] (spM K mg 3 m_is_row) := by
  refine def_ok L.f_is_row sc_is_row fun cdv A outer s H E hr => ?_
  have tk := tk_body (P := P) (w := w) (K := K) (mg := mg) (base := base) (N := ["thing", "low", "high"]) (qual := "is_row") (scope := defScope s_is_row) (f := L.a_is_row) (cdv := cdv) (A := A) (outer := outer) (s := s) (H := H) (E := E)
  have po := po_body (P := P) (w := w) (K := K) (mg := mg) (base := base) (N := ["thing", "low", "high"]) (qual := "is_row") (scope := defScope s_is_row) (f := L.a_is_row) (cdv := cdv) (A := A) (outer := outer) (s := s) (H := H) (E := E)
  exact sm_one (sm_ret (s_and (s_isi kit_tuple L.n_isinstance L.n_tuple (by decide +kernel) (s_var 0)) (s_one (s_chain op_le op_le ok_int ok_int (s_var 1) (s_len L.n_len (sa_cons (s_var 0) sa_nil)) (s_var 2)))))
theorem ok_is_ascending (L : Lw0 K mg) : FnOk P w K mg base (L2.CX P w) 1 L.a_is_ascending L.d_is_ascending ["thing"] (spM K mg 1 m_is_ascending) := by
  refine def_ok L.f_is_ascending sc_is_ascending fun cdv A outer s H E hr => ?_
  have tk := tk_body (P := P) (w := w) (K := K) (mg := mg) (base := base) (N := ["thing", "one", "other"]) (qual := "is_ascending") (scope := defScope s_is_ascending) (f := L.a_is_ascending) (cdv := cdv) (A := A) (outer := outer) (s := s) (H := H) (E := E)
  have po := po_body (P := P) (w := w) (K := K) (mg := mg) (base := base) (N := ["thing", "one", "other"]) (qual := "is_ascending") (scope := defScope s_is_ascending) (f := L.a_is_ascending) (cdv := cdv) (A := A) (outer := outer) (s := s) (H := H) (E := E)
  exact sm_one (sm_ret (s_all rfl L.n_all (sa_cons (s_lc rfl sc_is_ascending.nd (blk_by (own := [("one", 1), ("other", 2)]) (by kernel_rfl)) (si_zip L.n_zip (sa_cons (s_var 0) (sa_cons (s_sl (s_var 0) (so_some (s_int)) so_none) sa_nil))) (fun _ _ _ _ _ => sgc_tup rfl (sgcs_cons (sgc_name 1 sc_is_ascending.nd) (sgcs_cons (sgc_name 2 sc_is_ascending.nd) (sgcs_nil)))) (fun _ _ _ _ _ => sts_nil) (fun _ _ _ _ _ => s_cmp op_ltS ok_lt (s_var 1) (s_var 2))) sa_nil)))
theorem ok_is_low_name (L : Lw0 K mg) : FnOk P w K mg base (L2.CX P w) 1 L.a_is_low_name L.d_is_low_name ["thing"] (spM K mg 1 m_is_low_name) := by
  refine def_ok L.f_is_low_name sc_is_low_name fun cdv A outer s H E hr => ?_
  have tk := tk_body (P := P) (w := w) (K := K) (mg := mg) (base := base) (N := ["thing", "sign"]) (qual := "is_low_name") (scope := defScope s_is_low_name) (f := L.a_is_low_name) (cdv := cdv) (A := A) (outer := outer) (s := s) (H := H) (E := E)
  have po := po_body (P := P) (w := w) (K := K) (mg := mg) (base := base) (N := ["thing", "sign"]) (qual := "is_low_name") (scope := defScope s_is_low_name) (f := L.a_is_low_name) (cdv := cdv) (A := A) (outer := outer) (s := s) (H := H) (E := E)
  exact sm_cons (sm_if (sb_w (sw_or (sb_not (sb_val (s_isi kit_str L.n_isinstance L.n_str (by decide +kernel) (s_var 0)))) (sw_or1 (sb_not (sb_chain op_le op_le ok_int ok_int (s_int) (s_len L.n_len (sa_cons (s_var 0) sa_nil)) (s_glob (v := .int 10) rfl L.c_LONGEST_NAME ⟨_, rfl⟩ (fun _ _ _ => .d (.int _)))))))) (sm_one (sm_ret (s_bl))) (sm_nil)) (sm_one (sm_ret (s_and (s_cmp (op_inS (hu65 hr)) ok_in (s_ix (s_var 0) (s_int)) (s_glob (v := .str "abcdefghijklmnopqrstuvwxyz") rfl L.c_LOW_LETTERS ⟨_, rfl⟩ (fun _ _ _ => .d (.str _)))) (s_one (s_all rfl L.n_all (sa_cons (s_lc rfl sc_is_low_name.nd (blk_by (own := [("sign", 1)]) (by kernel_rfl)) (si_sq (s_var 0)) (fun _ _ _ _ _ => sgc_name 1 sc_is_low_name.nd) (fun _ _ _ _ _ => sts_nil) (fun _ _ _ _ _ => s_cmp (op_inS (hu65 hr)) ok_in (s_var 1) (s_glob (v := .str "abcdefghijklmnopqrstuvwxyz0123456789") rfl L.c_LOW_SIGNS ⟨_, rfl⟩ (fun _ _ _ => .d (.str _))))) sa_nil))))))
theorem ok__law_well (L : Lw0 K mg) : FnOk P w K mg base (L2.CX P w) 1 L.a__law_well L.d__law_well ["script"] (spM K mg 1 m__law_well) := by
  refine def_ok L.f__law_well sc__law_well fun cdv A outer s H E hr => ?_
  have tk := tk_body (P := P) (w := w) (K := K) (mg := mg) (base := base) (N := ["script", "cell"]) (qual := "_law_well") (scope := defScope s__law_well) (f := L.a__law_well) (cdv := cdv) (A := A) (outer := outer) (s := s) (H := H) (E := E)
  have po := po_body (P := P) (w := w) (K := K) (mg := mg) (base := base) (N := ["script", "cell"]) (qual := "_law_well") (scope := defScope s__law_well) (f := L.a__law_well) (cdv := cdv) (A := A) (outer := outer) (s := s) (H := H) (E := E)
  exact sm_one (sm_ret (s_lstM (sa_cons (s_lc rfl sc__law_well.nd (blk_by (own := [("cell", 1)]) (by kernel_rfl)) (si_sq (s_sl (s_var 0) so_none (so_some (s_int)))) (fun _ _ _ _ _ => sgc_name 1 sc__law_well.nd) (fun _ _ _ _ _ => sts_nil) (fun _ _ _ _ _ => s_toInt L.n_int (sa_cons (s_var 1) sa_nil))) (sa_cons (s_int) (sa_cons (s_int) sa_nil)))))
theorem ok__law_draw (L : Lw0 K mg) : FnOk P w K mg base (L2.CX P w) 1 L.a__law_draw L.d__law_draw ["well", "many"] (spM K mg 2 m__law_draw) := by
  refine def_ok L.f__law_draw sc__law_draw fun cdv A outer s H E hr => ?_
  have tk := tk_body (P := P) (w := w) (K := K) (mg := mg) (base := base) (N := ["well", "many", "cell", "weight", "found"]) (qual := "_law_draw") (scope := defScope s__law_draw) (f := L.a__law_draw) (cdv := cdv) (A := A) (outer := outer) (s := s) (H := H) (E := E)
  have po := po_body (P := P) (w := w) (K := K) (mg := mg) (base := base) (N := ["well", "many", "cell", "weight", "found"]) (qual := "_law_draw") (scope := defScope s__law_draw) (f := L.a__law_draw) (cdv := cdv) (A := A) (outer := outer) (s := s) (H := H) (E := E)
  exact sm_cons (sm_if (sb_w (sw_and (sb_cmp op_ltS ok_lt (s_ix (s_var 0) (s_int)) (s_pow (s_int) (s_int))) (sw_and1 (sb_cmp (op_neD hr.units) ok_ne (s_ix (s_var 0) (s_int)) (s_lst sa_nil))))) (sm_cons (sm_set 2 sc__law_draw.nd (s_ix (s_ix (s_var 0) (s_int)) (s_int))) (sm_cons (sm_asg (s_sl (s_ix (s_var 0) (s_int)) (so_some (s_int)) so_none) (sg_ix (s_var 0) (s_int))) (sm_cons (sm_set 3 sc__law_draw.nd (s_add (s_mul (s_int) (s_abs L.n_abs (sa_cons (s_var 2) sa_nil))) (s_toInt L.n_int (sa_cons (s_cmp op_ltS ok_lt (s_var 2) (s_int)) sa_nil)))) (sm_one (sm_if (sb_cmp op_ge ok_int (s_var 3) (s_pow (s_int) (s_int))) (sm_one (sm_asg (s_var 3) (sg_ix (s_var 0) (s_int)))) (sm_one (sm_asg (s_mod (s_toInt L.n_int (sa_cons (s_add (s_add (s_mul (s_ix (s_var 0) (s_int)) (s_int)) (s_mul (s_var 3) (s_int))) (s_int)) sa_nil)) (s_int)) (sg_ix (s_var 0) (s_int))))))))) (sm_nil)) (sm_cons (sm_if (sb_cmp op_ge ok_int (s_ix (s_var 0) (s_int)) (s_pow (s_int) (s_int))) (sm_cons (sm_set 4 sc__law_draw.nd (s_mod (s_toInt L.n_int (sa_cons (s_ix (s_var 0) (s_int)) sa_nil)) (s_var 1))) (sm_cons (sm_asg (s_div (s_ix (s_var 0) (s_int)) (s_var 1)) (sg_ix (s_var 0) (s_int))) (sm_one (sm_ret (s_var 4))))) (sm_nil)) (sm_cons (sm_asg (s_mod (s_toInt L.n_int (sa_cons (s_add (s_mul (s_ix (s_var 0) (s_int)) (s_int)) (s_int)) sa_nil)) (s_int)) (sg_ix (s_var 0) (s_int))) (sm_one (sm_ret (s_mod (s_toInt L.n_int (sa_cons (s_div (s_ix (s_var 0) (s_int)) (s_int)) sa_nil)) (s_var 1))))))
theorem ok__law_mates (L : Lw0 K mg) : FnOk P w K mg base (L2.CX P w) 1 L.a__law_mates L.d__law_mates ["labels"] (spM K mg 1 m__law_mates) := by
  refine def_ok L.f__law_mates sc__law_mates fun cdv A outer s H E hr => ?_
  have tk := tk_body (P := P) (w := w) (K := K) (mg := mg) (base := base) (N := ["labels", "label"]) (qual := "_law_mates") (scope := defScope s__law_mates) (f := L.a__law_mates) (cdv := cdv) (A := A) (outer := outer) (s := s) (H := H) (E := E)
  have po := po_body (P := P) (w := w) (K := K) (mg := mg) (base := base) (N := ["labels", "label"]) (qual := "_law_mates") (scope := defScope s__law_mates) (f := L.a__law_mates) (cdv := cdv) (A := A) (outer := outer) (s := s) (H := H) (E := E)
  exact sm_one (sm_ret (s_tuple L.n_tuple (sa_cons (s_lc rfl sc__law_mates.nd (blk_by (own := [("label", 1)]) (by kernel_rfl)) (si_sq (s_var 0)) (fun _ _ _ _ _ => sgc_name 1 sc__law_mates.nd) (fun _ _ _ _ _ => sts_nil) (fun _ _ _ _ _ => s_mtL PySem.F.slot_list_index PySem.F.type_list_index (mt_indexD (hu65 hr)) ok_index (s_var 0) (sa_cons (s_var 1) sa_nil))) sa_nil)))
theorem ok__law_is (L : Lw0 K mg) : FnOk P w K mg base (L2.CX P w) 1 L.a__law_is L.d__law_is ["told", "due"] (spM K mg 2 m__law_is) := by
  refine def_ok L.f__law_is sc__law_is fun cdv A outer s H E hr => ?_
  have tk := tk_body (P := P) (w := w) (K := K) (mg := mg) (base := base) (N := ["told", "due"]) (qual := "_law_is") (scope := defScope s__law_is) (f := L.a__law_is) (cdv := cdv) (A := A) (outer := outer) (s := s) (H := H) (E := E)
  have po := po_body (P := P) (w := w) (K := K) (mg := mg) (base := base) (N := ["told", "due"]) (qual := "_law_is") (scope := defScope s__law_is) (f := L.a__law_is) (cdv := cdv) (A := A) (outer := outer) (s := s) (H := H) (E := E)
  exact sm_one (sm_ret (s_if (sb_val (s_var 1)) (s_cmp op_isBl ok_isB (s_var 0) (s_bl)) (s_cmp op_isBl ok_isB (s_var 0) (s_bl))))
theorem ok__law_is_low (L : Lw0 K mg) : FnOk P w K mg base (L2.CX P w) 1 L.a__law_is_low L.d__law_is_low ["name"] (spM K mg 1 m__law_is_low) := by
  refine def_ok L.f__law_is_low sc__law_is_low fun cdv A outer s H E hr => ?_
  have tk := tk_body (P := P) (w := w) (K := K) (mg := mg) (base := base) (N := ["name", "letters", "sign"]) (qual := "_law_is_low") (scope := defScope s__law_is_low) (f := L.a__law_is_low) (cdv := cdv) (A := A) (outer := outer) (s := s) (H := H) (E := E)
  have po := po_body (P := P) (w := w) (K := K) (mg := mg) (base := base) (N := ["name", "letters", "sign"]) (qual := "_law_is_low") (scope := defScope s__law_is_low) (f := L.a__law_is_low) (cdv := cdv) (A := A) (outer := outer) (s := s) (H := H) (E := E)
  exact sm_cons (sm_set 1 sc__law_is_low.nd (s_str)) (sm_cons (sm_if (sb_w (sw_or (sb_not (sb_val (s_isi kit_str L.n_isinstance L.n_str (by decide +kernel) (s_var 0)))) (sw_or (sb_cmp op_ltS ok_lt (s_len L.n_len (sa_cons (s_var 0) sa_nil)) (s_int)) (sw_or (sb_cmp op_gt ok_int (s_len L.n_len (sa_cons (s_var 0) sa_nil)) (s_int)) (sw_or1 (sb_cmp (op_notInS (hu65 hr)) ok_notIn (s_ix (s_var 0) (s_int)) (s_var 1))))))) (sm_one (sm_ret (s_bl))) (sm_nil)) (sm_one (sm_ret (s_cmp (op_eqD hr.units) ok_eq (s_lc rfl sc__law_is_low.nd (blk_by (own := [("sign", 2)]) (by kernel_rfl)) (si_sq (s_var 0)) (fun _ _ _ _ _ => sgc_name 2 sc__law_is_low.nd) (fun _ _ _ _ _ => sts_one (sb_cmp (op_notInS (hu65 hr)) ok_notIn (s_var 2) (s_add (s_var 1) (s_str)))) (fun _ _ _ _ _ => s_var 2)) (s_lst sa_nil)))))
theorem ok__law_are_indexes (L : Lw0 K mg) : FnOk P w K mg base (L2.CX P w) 1 L.a__law_are_indexes L.d__law_are_indexes ["thing", "many"] (spM K mg 2 m__law_are_indexes) := by
  refine def_ok L.f__law_are_indexes sc__law_are_indexes fun cdv A outer s H E hr => ?_
  have tk := tk_body (P := P) (w := w) (K := K) (mg := mg) (base := base) (N := ["thing", "many", "k"]) (qual := "_law_are_indexes") (scope := defScope s__law_are_indexes) (f := L.a__law_are_indexes) (cdv := cdv) (A := A) (outer := outer) (s := s) (H := H) (E := E)
  have po := po_body (P := P) (w := w) (K := K) (mg := mg) (base := base) (N := ["thing", "many", "k"]) (qual := "_law_are_indexes") (scope := defScope s__law_are_indexes) (f := L.a__law_are_indexes) (cdv := cdv) (A := A) (outer := outer) (s := s) (H := H) (E := E)
  exact sm_cons (sm_if (sb_w (sw_or (sb_not (sb_val (s_isi kit_tuple L.n_isinstance L.n_tuple (by decide +kernel) (s_var 0)))) (sw_or1 (sb_not (sb_val (s_all rfl L.n_all (sa_cons (s_lc rfl sc__law_are_indexes.nd (blk_by (own := [("k", 2)]) (by kernel_rfl)) (si_sq (s_var 0)) (fun _ _ _ _ _ => sgc_name 2 sc__law_are_indexes.nd) (fun _ _ _ _ _ => sts_nil) (fun _ _ _ _ _ => s_and (s_isi kit_int L.n_isinstance L.n_int (by decide +kernel) (s_var 2)) (s_and (s_not (s_isi kit_bool L.n_isinstance L.n_bool (by decide +kernel) (s_var 2))) (s_one (s_chain op_le op_ltS ok_int ok_lt (s_int) (s_var 2) (s_var 1)))))) sa_nil))))))) (sm_one (sm_ret (s_bl))) (sm_nil)) (sm_one (sm_ret (s_all rfl L.n_all (sa_cons (s_lc rfl sc__law_are_indexes.nd (blk_by (own := [("k", 2)]) (by kernel_rfl)) (si_rng1 L.n_range (s_sub (s_len L.n_len (sa_cons (s_var 0) sa_nil)) (s_int))) (fun _ _ _ _ _ => sgc_name 2 sc__law_are_indexes.nd) (fun _ _ _ _ _ => sts_nil) (fun _ _ _ _ _ => s_cmp op_ltS ok_lt (s_ix (s_var 0) (s_var 2)) (s_ix (s_var 0) (s_add (s_var 2) (s_int))))) sa_nil))))
theorem ok_within (L : Lw0 K mg) : FnOk P w K mg base (L2.CX P w) 2 L.a_within L.d_within ["thing", "low", "high"] (spM K mg 3 m_within) := by
  refine def_ok L.f_within sc_within fun cdv A outer s H E hr => ?_
  have tk := tk_body (P := P) (w := w) (K := K) (mg := mg) (base := base) (N := ["thing", "low", "high"]) (qual := "within") (scope := defScope s_within) (f := L.a_within) (cdv := cdv) (A := A) (outer := outer) (s := s) (H := H) (E := E)
  have po := po_body (P := P) (w := w) (K := K) (mg := mg) (base := base) (N := ["thing", "low", "high"]) (qual := "within") (scope := defScope s_within) (f := L.a_within) (cdv := cdv) (A := A) (outer := outer) (s := s) (H := H) (E := E)
  exact sm_one (sm_ret (s_and (s_callP tk (ok_is_int L) (hr.mono (by decide)) L.g_is_int L.f_is_int.kp L.b_is_int (sa_cons (s_var 0) sa_nil) (hlen := (alen_cons alen_nil))) (s_one (s_chain op_le op_le ok_int ok_int (s_var 1) (s_var 0) (s_var 2)))))
theorem ok_are_facts_of_any_size (L : Lw0 K mg) : FnOk P w K mg base (L2.CX P w) 2 L.a_are_facts_of_any_size L.d_are_facts_of_any_size ["thing"] (spM K mg 1 m_are_facts_of_any_size) := by
  refine def_ok L.f_are_facts_of_any_size sc_are_facts_of_any_size fun cdv A outer s H E hr => ?_
  have tk := tk_body (P := P) (w := w) (K := K) (mg := mg) (base := base) (N := ["thing", "name"]) (qual := "are_facts_of_any_size") (scope := defScope s_are_facts_of_any_size) (f := L.a_are_facts_of_any_size) (cdv := cdv) (A := A) (outer := outer) (s := s) (H := H) (E := E)
  have po := po_body (P := P) (w := w) (K := K) (mg := mg) (base := base) (N := ["thing", "name"]) (qual := "are_facts_of_any_size") (scope := defScope s_are_facts_of_any_size) (f := L.a_are_facts_of_any_size) (cdv := cdv) (A := A) (outer := outer) (s := s) (H := H) (E := E)
  exact sm_one (sm_ret (s_and (s_isi kit_tuple L.n_isinstance L.n_tuple (by decide +kernel) (s_var 0)) (s_and (s_all rfl L.n_all (sa_cons (s_lc rfl sc_are_facts_of_any_size.nd (blk_by (own := [("name", 1)]) (by kernel_rfl)) (si_sq (s_var 0)) (fun _ _ _ _ _ => sgc_name 1 sc_are_facts_of_any_size.nd) (fun _ _ _ _ _ => sts_nil) (fun _ _ _ _ _ => s_callP tk0 (ok_is_low_name L) (hr.mono (by decide)) L.g_is_low_name L.f_is_low_name.kp L.b_is_low_name (sa_cons (s_var 1) sa_nil) (hlen := (alen_cons alen_nil)))) sa_nil)) (s_one (s_callP tk (ok_is_ascending L) (hr.mono (by decide)) L.g_is_ascending L.f_is_ascending.kp L.b_is_ascending (sa_cons (s_var 0) sa_nil) (hlen := (alen_cons alen_nil)))))))
theorem ok__law_table (L : Lw0 K mg) : FnOk P w K mg base (L2.CX P w) 2 L.a__law_table L.d__law_table ["well", "worlds", "players", "facts"] (spM K mg 4 m__law_table) := by
  refine def_ok L.f__law_table sc__law_table fun cdv A outer s H E hr => ?_
  have tk := tk_body (P := P) (w := w) (K := K) (mg := mg) (base := base) (N := ["well", "worlds", "players", "facts", "many", "names", "rows", "own", "i", "kinds", "w", "f"]) (qual := "_law_table") (scope := defScope s__law_table) (f := L.a__law_table) (cdv := cdv) (A := A) (outer := outer) (s := s) (H := H) (E := E)
  have po := po_body (P := P) (w := w) (K := K) (mg := mg) (base := base) (N := ["well", "worlds", "players", "facts", "many", "names", "rows", "own", "i", "kinds", "w", "f"]) (qual := "_law_table") (scope := defScope s__law_table) (f := L.a__law_table) (cdv := cdv) (A := A) (outer := outer) (s := s) (H := H) (E := E)
  exact sm_cons (sm_set 4 sc__law_table.nd (s_add (s_int) (s_callE tk (ok__law_draw L) (hr.mono (by decide)) L.g__law_draw L.f__law_draw.kp L.b__law_draw (sa_cons (s_var 0) (sa_cons (s_var 1) sa_nil)) (hlen := (alen_cons (alen_cons alen_nil)))))) (sm_cons (sm_set 5 sc__law_table.nd (s_sl (s_tup (sa_cons (s_str) (sa_cons (s_str) (sa_cons (s_str) (sa_cons (s_str) (sa_cons (s_str) (sa_cons (s_str) sa_nil))))))) so_none (so_some (s_callE tk (ok__law_draw L) (hr.mono (by decide)) L.g__law_draw L.f__law_draw.kp L.b__law_draw (sa_cons (s_var 0) (sa_cons (s_add (s_var 3) (s_int)) sa_nil)) (hlen := (alen_cons (alen_cons alen_nil))))))) (sm_cons (sm_setLc 6 rfl sc__law_table.nd (blk_by (own := [("w", 10)]) (by kernel_rfl)) (si_rng1 L.n_range (s_var 4)) (fun _ _ _ _ _ => sgc_name 10 sc__law_table.nd) (fun _ _ _ _ _ => sts_nil) (fun _ _ _ _ _ => s_tuple L.n_tuple (sa_cons (s_lc rfl sc__law_table.nd (blk_by (own := [("f", 11)]) (by kernel_rfl)) (si_rng1 L.n_range (s_len L.n_len (sa_cons (s_var 5) sa_nil))) (fun _ _ _ _ _ => sgc_name 11 sc__law_table.nd) (fun _ _ _ _ _ => sts_one (sb_cmp (op_eqD hr.units) ok_eq (s_callE tk0 (ok__law_draw L) (hr.mono (by decide)) L.g__law_draw L.f__law_draw.kp L.b__law_draw (sa_cons (s_var 0) (sa_cons (s_int) sa_nil)) (hlen := (alen_cons (alen_cons alen_nil)))) (s_int))) (fun _ _ _ _ _ => s_var 11)) sa_nil))) (sm_cons (sm_set 7 sc__law_table.nd (s_lstM sa_nil)) (sm_cons (sm_for po rfl (si_rng1 L.n_range (s_add (s_int) (s_callE tk (ok__law_draw L) (hr.mono (by decide)) L.g__law_draw L.f__law_draw.kp L.b__law_draw (sa_cons (s_var 0) (sa_cons (s_var 2) sa_nil)) (hlen := (alen_cons (alen_cons alen_nil)))))) (sg_name 8 sc__law_table.nd) (sm_cons (sm_set 9 sc__law_table.nd (s_add (s_int) (s_callE tk (ok__law_draw L) (hr.mono (by decide)) L.g__law_draw L.f__law_draw.kp L.b__law_draw (sa_cons (s_var 0) (sa_cons (s_var 4) sa_nil)) (hlen := (alen_cons (alen_cons alen_nil)))))) (sm_one (sm_expr (s_mtL PySem.F.slot_list_append PySem.F.type_list_append mt_append ok_append (s_var 7) (sa_cons (s_callP tk (ok__law_mates L) (hr.mono (by decide)) L.g__law_mates L.f__law_mates.kp L.b__law_mates (sa_cons (s_lc rfl sc__law_table.nd (blk_by (own := [("w", 10)]) (by kernel_rfl)) (si_rng1 L.n_range (s_var 4)) (fun _ _ _ _ _ => sgc_name 10 sc__law_table.nd) (fun _ _ _ _ _ => sts_nil) (fun _ _ _ _ _ => s_callE tk0 (ok__law_draw L) (hr.mono (by decide)) L.g__law_draw L.f__law_draw.kp L.b__law_draw (sa_cons (s_var 0) (sa_cons (s_var 9) sa_nil)) (hlen := (alen_cons (alen_cons alen_nil))))) sa_nil) (hlen := (alen_cons alen_nil))) sa_nil)))))) (sm_one (sm_ret (s_tup (sa_cons (s_var 5) (sa_cons (s_tuple L.n_tuple (sa_cons (s_var 6) sa_nil)) (sa_cons (s_tuple L.n_tuple (sa_cons (s_var 7) sa_nil)) sa_nil))))))))))
theorem ok__law_is_table (L : Lw0 K mg) : FnOk P w K mg base (L2.CX P w) 2 L.a__law_is_table L.d__law_is_table ["thing"] (spM K mg 1 m__law_is_table) := by
  refine def_ok L.f__law_is_table sc__law_is_table fun cdv A outer s H E hr => ?_
  have tk := tk_body (P := P) (w := w) (K := K) (mg := mg) (base := base) (N := ["thing", "facts", "worlds", "mates", "row", "k", "part", "name", "w"]) (qual := "_law_is_table") (scope := defScope s__law_is_table) (f := L.a__law_is_table) (cdv := cdv) (A := A) (outer := outer) (s := s) (H := H) (E := E)
  have po := po_body (P := P) (w := w) (K := K) (mg := mg) (base := base) (N := ["thing", "facts", "worlds", "mates", "row", "k", "part", "name", "w"]) (qual := "_law_is_table") (scope := defScope s__law_is_table) (f := L.a__law_is_table) (cdv := cdv) (A := A) (outer := outer) (s := s) (H := H) (E := E)
  exact sm_cons (sm_if (sb_w (sw_or (sb_not (sb_val (s_isi kit_tuple L.n_isinstance L.n_tuple (by decide +kernel) (s_var 0)))) (sw_or (sb_cmp (op_neD hr.units) ok_ne (s_len L.n_len (sa_cons (s_var 0) sa_nil)) (s_int)) (sw_or1 (sb_not (sb_val (s_all rfl L.n_all (sa_cons (s_lc rfl sc__law_is_table.nd (blk_by (own := [("part", 6)]) (by kernel_rfl)) (si_sq (s_var 0)) (fun _ _ _ _ _ => sgc_name 6 sc__law_is_table.nd) (fun _ _ _ _ _ => sts_nil) (fun _ _ _ _ _ => s_isi kit_tuple L.n_isinstance L.n_tuple (by decide +kernel) (s_var 6))) sa_nil)))))))) (sm_one (sm_ret (s_bl))) (sm_nil)) (sm_cons (sm_asg (s_var 0) (sg_tup rfl (sgs_cons (sg_name 1 sc__law_is_table.nd) (sgs_cons (sg_name 2 sc__law_is_table.nd) (sgs_cons (sg_name 3 sc__law_is_table.nd) (sgs_nil)))))) (sm_cons (sm_if (sb_w (sw_or (sb_cmp op_gt ok_int (s_len L.n_len (sa_cons (s_var 1) sa_nil)) (s_int)) (sw_or (sb_not (sb_val (s_all rfl L.n_all (sa_cons (s_lc rfl sc__law_is_table.nd (blk_by (own := [("name", 7)]) (by kernel_rfl)) (si_sq (s_var 1)) (fun _ _ _ _ _ => sgc_name 7 sc__law_is_table.nd) (fun _ _ _ _ _ => sts_nil) (fun _ _ _ _ _ => s_callP tk0 (ok__law_is_low L) (hr.mono (by decide)) L.g__law_is_low L.f__law_is_low.kp L.b__law_is_low (sa_cons (s_var 7) sa_nil) (hlen := (alen_cons alen_nil)))) sa_nil)))) (sw_or1 (sb_cmp (op_neD hr.units) ok_ne (s_lc rfl sc__law_is_table.nd (blk_by (own := [("k", 5)]) (by kernel_rfl)) (si_rng1 L.n_range (s_sub (s_len L.n_len (sa_cons (s_var 1) sa_nil)) (s_int))) (fun _ _ _ _ _ => sgc_name 5 sc__law_is_table.nd) (fun _ _ _ _ _ => sts_one (sb_not (sb_cmp op_ltS ok_lt (s_ix (s_var 1) (s_var 5)) (s_ix (s_var 1) (s_add (s_var 5) (s_int)))))) (fun _ _ _ _ _ => s_var 5)) (s_lst sa_nil)))))) (sm_one (sm_ret (s_bl))) (sm_nil)) (sm_cons (sm_if (sb_w (sw_or (sb_not (sb_chain op_le op_le ok_int ok_int (s_int) (s_len L.n_len (sa_cons (s_var 2) sa_nil)) (s_int))) (sw_or (sb_not (sb_chain op_le op_le ok_int ok_int (s_int) (s_len L.n_len (sa_cons (s_var 3) sa_nil)) (s_int))) (sw_or1 (sb_not (sb_val (s_all rfl L.n_all (sa_cons (s_lc rfl sc__law_is_table.nd (blk_by (own := [("row", 4)]) (by kernel_rfl)) (si_sq (s_var 2)) (fun _ _ _ _ _ => sgc_name 4 sc__law_is_table.nd) (fun _ _ _ _ _ => sts_nil) (fun _ _ _ _ _ => s_callP tk0 (ok__law_are_indexes L) (hr.mono (by decide)) L.g__law_are_indexes L.f__law_are_indexes.kp L.b__law_are_indexes (sa_cons (s_var 4) (sa_cons (s_len L.n_len (sa_cons (s_var 1) sa_nil)) sa_nil)) (hlen := (alen_cons (alen_cons alen_nil))))) sa_nil)))))))) (sm_one (sm_ret (s_bl))) (sm_nil)) (sm_cons (sm_for po rfl (si_sq (s_var 3)) (sg_name 4 sc__law_is_table.nd) (sm_cons (sm_if (sb_w (sw_or (sb_not (sb_val (s_isi kit_tuple L.n_isinstance L.n_tuple (by decide +kernel) (s_var 4)))) (sw_or (sb_cmp (op_neD hr.units) ok_ne (s_len L.n_len (sa_cons (s_var 4) sa_nil)) (s_len L.n_len (sa_cons (s_var 2) sa_nil))) (sw_or1 (sb_not (sb_val (s_all rfl L.n_all (sa_cons (s_lc rfl sc__law_is_table.nd (blk_by (own := [("w", 8)]) (by kernel_rfl)) (si_sq (s_var 4)) (fun _ _ _ _ _ => sgc_name 8 sc__law_is_table.nd) (fun _ _ _ _ _ => sts_nil) (fun _ _ _ _ _ => s_and (s_isi kit_int L.n_isinstance L.n_int (by decide +kernel) (s_var 8)) (s_and (s_not (s_isi kit_bool L.n_isinstance L.n_bool (by decide +kernel) (s_var 8))) (s_one (s_chain op_le op_ltS ok_int ok_lt (s_int) (s_var 8) (s_len L.n_len (sa_cons (s_var 2) sa_nil))))))) sa_nil)))))))) (sm_one (sm_ret (s_bl))) (sm_nil)) (sm_one (sm_if (sb_not (sb_val (s_all rfl L.n_all (sa_cons (s_lc rfl sc__law_is_table.nd (blk_by (own := [("w", 8)]) (by kernel_rfl)) (si_rng1 L.n_range (s_len L.n_len (sa_cons (s_var 4) sa_nil))) (fun _ _ _ _ _ => sgc_name 8 sc__law_is_table.nd) (fun _ _ _ _ _ => sts_nil) (fun _ _ _ _ _ => s_and (s_cmp op_le ok_int (s_ix (s_var 4) (s_var 8)) (s_var 8)) (s_one (s_cmp (op_eqD hr.units) ok_eq (s_ix (s_var 4) (s_ix (s_var 4) (s_var 8))) (s_ix (s_var 4) (s_var 8)))))) sa_nil)))) (sm_one (sm_ret (s_bl))) (sm_nil))))) (sm_one (sm_ret (s_bl)))))))
theorem ok__law_bent (L : Lw0 K mg) : FnOk P w K mg base (L2.CX P w) 2 L.a__law_bent L.d__law_bent ["well", "table"] (spM K mg 2 m__law_bent) := by
  refine def_ok L.f__law_bent sc__law_bent fun cdv A outer s H E hr => ?_
  have tk := tk_body (P := P) (w := w) (K := K) (mg := mg) (base := base) (N := ["well", "table", "facts", "worlds", "mates", "w", "i", "f", "row", "own", "at", "names", "things", "new"]) (qual := "_law_bent") (scope := defScope s__law_bent) (f := L.a__law_bent) (cdv := cdv) (A := A) (outer := outer) (s := s) (H := H) (E := E)
  have po := po_body (P := P) (w := w) (K := K) (mg := mg) (base := base) (N := ["well", "table", "facts", "worlds", "mates", "w", "i", "f", "row", "own", "at", "names", "things", "new"]) (qual := "_law_bent") (scope := defScope s__law_bent) (f := L.a__law_bent) (cdv := cdv) (A := A) (outer := outer) (s := s) (H := H) (E := E)
  exact sm_cons (sm_asg (s_var 1) (sg_tup rfl (sgs_cons (sg_name 2 sc__law_bent.nd) (sgs_cons (sg_name 3 sc__law_bent.nd) (sgs_cons (sg_name 4 sc__law_bent.nd) (sgs_nil)))))) (sm_cons (sm_par3 rfl sc__law_bent.nd (sa_cons (s_callE tk (ok__law_draw L) (hr.mono (by decide)) L.g__law_draw L.f__law_draw.kp L.b__law_draw (sa_cons (s_var 0) (sa_cons (s_len L.n_len (sa_cons (s_var 3) sa_nil)) sa_nil)) (hlen := (alen_cons (alen_cons alen_nil)))) (sa_cons (s_callE tk (ok__law_draw L) (hr.mono (by decide)) L.g__law_draw L.f__law_draw.kp L.b__law_draw (sa_cons (s_var 0) (sa_cons (s_len L.n_len (sa_cons (s_var 4) sa_nil)) sa_nil)) (hlen := (alen_cons (alen_cons alen_nil)))) (sa_cons (s_callE tk (ok__law_draw L) (hr.mono (by decide)) L.g__law_draw L.f__law_draw.kp L.b__law_draw (sa_cons (s_var 0) (sa_cons (s_add (s_len L.n_len (sa_cons (s_var 2) sa_nil)) (s_int)) sa_nil)) (hlen := (alen_cons (alen_cons alen_nil)))) sa_nil)))) (sm_cons (sm_par3 rfl sc__law_bent.nd (sa_cons (s_ix (s_var 3) (s_var 5)) (sa_cons (s_ix (s_var 4) (s_var 6)) (sa_cons (s_callE tk (ok__law_draw L) (hr.mono (by decide)) L.g__law_draw L.f__law_draw.kp L.b__law_draw (sa_cons (s_var 0) (sa_cons (s_len L.n_len (sa_cons (s_var 3) sa_nil)) sa_nil)) (hlen := (alen_cons (alen_cons alen_nil)))) sa_nil)))) (sm_cons (sm_set 11 sc__law_bent.nd (s_lst (sa_cons (s_str) (sa_cons (s_str) (sa_cons (s_str) (sa_cons (s_str) (sa_cons (s_str) (sa_cons (s_str) (sa_cons (s_str) (sa_cons (s_non) (sa_cons (s_int) sa_nil))))))))))) (sm_cons (sm_set 12 sc__law_bent.nd (s_lst (sa_cons (s_tup (sa_cons (s_add (s_add (s_sl (s_var 2) so_none (so_some (s_var 7))) (s_tup (sa_cons (s_ix (s_var 11) (s_callE tk (ok__law_draw L) (hr.mono (by decide)) L.g__law_draw L.f__law_draw.kp L.b__law_draw (sa_cons (s_var 0) (sa_cons (s_int) sa_nil)) (hlen := (alen_cons (alen_cons alen_nil))))) sa_nil))) (s_sl (s_var 2) (so_some (s_var 7)) so_none)) (sa_cons (s_var 3) (sa_cons (s_var 4) sa_nil)))) (sa_cons (s_tup (sa_cons (s_rev (s_var 2)) (sa_cons (s_var 3) (sa_cons (s_var 4) sa_nil)))) (sa_cons (s_tup (sa_cons (s_sl (s_var 2) (so_some (s_int)) so_none) (sa_cons (s_var 3) (sa_cons (s_var 4) sa_nil)))) sa_nil))))) (sm_cons (sm_set 12 sc__law_bent.nd (s_add (s_var 12) (s_mul (s_lst (sa_cons (s_tup (sa_cons (s_var 2) (sa_cons (s_add (s_add (s_sl (s_var 3) so_none (so_some (s_var 5))) (s_tup (sa_cons (s_ix (s_lst (sa_cons (s_rev (s_var 8)) (sa_cons (s_add (s_var 8) (s_sl (s_var 8) (so_some (s_neg (s_int))) so_none)) (sa_cons (s_add (s_var 8) (s_tup (sa_cons (s_var 7) sa_nil))) (sa_cons (s_list L.n_list (sa_cons (s_var 8) sa_nil)) (sa_cons (s_add (s_var 8) (s_tup (sa_cons (s_bl) sa_nil))) (sa_cons (s_non) sa_nil))))))) (s_callE tk (ok__law_draw L) (hr.mono (by decide)) L.g__law_draw L.f__law_draw.kp L.b__law_draw (sa_cons (s_var 0) (sa_cons (s_int) sa_nil)) (hlen := (alen_cons (alen_cons alen_nil))))) sa_nil))) (s_sl (s_var 3) (so_some (s_add (s_var 5) (s_int))) so_none)) (sa_cons (s_var 4) sa_nil)))) sa_nil)) (s_int)))) (sm_cons (sm_set 13 sc__law_bent.nd (s_add (s_add (s_sl (s_var 9) so_none (so_some (s_var 10))) (s_tup (sa_cons (s_ix (s_lst (sa_cons (s_var 10) (sa_cons (s_int) (sa_cons (s_add (s_var 10) (s_int)) (sa_cons (s_neg (s_int)) (sa_cons (s_non) (sa_cons (s_bl) (sa_cons (s_callE tk (ok__law_draw L) (hr.mono (by decide)) L.g__law_draw L.f__law_draw.kp L.b__law_draw (sa_cons (s_var 0) (sa_cons (s_len L.n_len (sa_cons (s_var 3) sa_nil)) sa_nil)) (hlen := (alen_cons (alen_cons alen_nil)))) sa_nil)))))))) (s_callE tk (ok__law_draw L) (hr.mono (by decide)) L.g__law_draw L.f__law_draw.kp L.b__law_draw (sa_cons (s_var 0) (sa_cons (s_int) sa_nil)) (hlen := (alen_cons (alen_cons alen_nil))))) sa_nil))) (s_sl (s_var 9) (so_some (s_add (s_var 10) (s_int))) so_none))) (sm_cons (sm_set 12 sc__law_bent.nd (s_add (s_var 12) (s_mul (s_lst (sa_cons (s_tup (sa_cons (s_var 2) (sa_cons (s_var 3) (sa_cons (s_add (s_add (s_sl (s_var 4) so_none (so_some (s_var 6))) (s_tup (sa_cons (s_ix (s_lst (sa_cons (s_var 13) (sa_cons (s_var 13) (sa_cons (s_sl (s_var 9) (so_some (s_int)) so_none) (sa_cons (s_add (s_var 9) (s_tup (sa_cons (s_int) sa_nil))) (sa_cons (s_list L.n_list (sa_cons (s_var 9) sa_nil)) (sa_cons (s_non) sa_nil))))))) (s_callE tk (ok__law_draw L) (hr.mono (by decide)) L.g__law_draw L.f__law_draw.kp L.b__law_draw (sa_cons (s_var 0) (sa_cons (s_int) sa_nil)) (hlen := (alen_cons (alen_cons alen_nil))))) sa_nil))) (s_sl (s_var 4) (so_some (s_add (s_var 6) (s_int))) so_none)) sa_nil)))) sa_nil)) (s_int)))) (sm_cons (sm_set 12 sc__law_bent.nd (s_add (s_var 12) (s_lst (sa_cons (s_tup (sa_cons (s_var 2) (sa_cons (s_var 3) (sa_cons (s_add (s_var 4) (s_sl (s_var 4) so_none (so_some (s_int)))) sa_nil)))) (sa_cons (s_tup (sa_cons (s_var 2) (sa_cons (s_var 3) (sa_cons (s_tup sa_nil) sa_nil)))) (sa_cons (s_tup (sa_cons (s_var 2) (sa_cons (s_tup sa_nil) (sa_cons (s_tup (sa_cons (s_tup sa_nil) sa_nil)) sa_nil)))) (sa_cons (s_add (s_var 1) (s_tup (sa_cons (s_tup sa_nil) sa_nil))) (sa_cons (s_sl (s_var 1) so_none (so_some (s_int))) (sa_cons (s_list L.n_list (sa_cons (s_var 1) sa_nil)) (sa_cons (s_non) (sa_cons (s_tup (sa_cons (s_var 2) (sa_cons (s_add (s_var 3) (s_sl (s_var 3) so_none (so_some (s_int)))) (sa_cons (s_var 4) sa_nil)))) sa_nil))))))))))) (sm_one (sm_ret (s_ix (s_var 12) (s_callE tk (ok__law_draw L) (hr.mono (by decide)) L.g__law_draw L.f__law_draw.kp L.b__law_draw (sa_cons (s_var 0) (sa_cons (s_len L.n_len (sa_cons (s_var 12) sa_nil)) sa_nil)) (hlen := (alen_cons (alen_cons alen_nil)))))))))))))))
theorem ok_are_indexes (L : Lw0 K mg) : FnOk P w K mg base (L2.CX P w) 3 L.a_are_indexes L.d_are_indexes ["thing", "many"] (spM K mg 2 m_are_indexes) := by
  refine def_ok L.f_are_indexes sc_are_indexes fun cdv A outer s H E hr => ?_
  have tk := tk_body (P := P) (w := w) (K := K) (mg := mg) (base := base) (N := ["thing", "many", "entry"]) (qual := "are_indexes") (scope := defScope s_are_indexes) (f := L.a_are_indexes) (cdv := cdv) (A := A) (outer := outer) (s := s) (H := H) (E := E)
  have po := po_body (P := P) (w := w) (K := K) (mg := mg) (base := base) (N := ["thing", "many", "entry"]) (qual := "are_indexes") (scope := defScope s_are_indexes) (f := L.a_are_indexes) (cdv := cdv) (A := A) (outer := outer) (s := s) (H := H) (E := E)
  exact sm_one (sm_ret (s_and (s_isi kit_tuple L.n_isinstance L.n_tuple (by decide +kernel) (s_var 0)) (s_and (s_all rfl L.n_all (sa_cons (s_lc rfl sc_are_indexes.nd (blk_by (own := [("entry", 2)]) (by kernel_rfl)) (si_sq (s_var 0)) (fun _ _ _ _ _ => sgc_name 2 sc_are_indexes.nd) (fun _ _ _ _ _ => sts_nil) (fun _ _ _ _ _ => s_callP tk0 (ok_within L) (hr.mono (by decide)) L.g_within L.f_within.kp L.b_within (sa_cons (s_var 2) (sa_cons (s_int) (sa_cons (s_sub (s_var 1) (s_int)) sa_nil))) (hlen := (alen_cons (alen_cons (alen_cons alen_nil)))))) sa_nil)) (s_one (s_callP tk (ok_is_ascending L) (hr.mono (by decide)) L.g_is_ascending L.f_is_ascending.kp L.b_is_ascending (sa_cons (s_var 0) sa_nil) (hlen := (alen_cons alen_nil)))))))
theorem ok_are_mates (L : Lw0 K mg) : FnOk P w K mg base (L2.CX P w) 3 L.a_are_mates L.d_are_mates ["thing", "many"] (spM K mg 2 m_are_mates) := by
  refine def_ok L.f_are_mates sc_are_mates fun cdv A outer s H E hr => ?_
  have tk := tk_body (P := P) (w := w) (K := K) (mg := mg) (base := base) (N := ["thing", "many", "world", "mate"]) (qual := "are_mates") (scope := defScope s_are_mates) (f := L.a_are_mates) (cdv := cdv) (A := A) (outer := outer) (s := s) (H := H) (E := E)
  have po := po_body (P := P) (w := w) (K := K) (mg := mg) (base := base) (N := ["thing", "many", "world", "mate"]) (qual := "are_mates") (scope := defScope s_are_mates) (f := L.a_are_mates) (cdv := cdv) (A := A) (outer := outer) (s := s) (H := H) (E := E)
  exact sm_cons (sm_if (sb_w (sw_or (sb_not (sb_val (s_callP tk (ok_is_row L) (hr.mono (by decide)) L.g_is_row L.f_is_row.kp L.b_is_row (sa_cons (s_var 0) (sa_cons (s_var 1) (sa_cons (s_var 1) sa_nil))) (hlen := (alen_cons (alen_cons (alen_cons alen_nil))))))) (sw_or1 (sb_not (sb_val (s_all rfl L.n_all (sa_cons (s_lc rfl sc_are_mates.nd (blk_by (own := [("world", 2)]) (by kernel_rfl)) (si_sq (s_var 0)) (fun _ _ _ _ _ => sgc_name 2 sc_are_mates.nd) (fun _ _ _ _ _ => sts_nil) (fun _ _ _ _ _ => s_callP tk0 (ok_within L) (hr.mono (by decide)) L.g_within L.f_within.kp L.b_within (sa_cons (s_var 2) (sa_cons (s_int) (sa_cons (s_sub (s_var 1) (s_int)) sa_nil))) (hlen := (alen_cons (alen_cons (alen_cons alen_nil)))))) sa_nil))))))) (sm_one (sm_ret (s_bl))) (sm_nil)) (sm_one (sm_ret (s_all rfl L.n_all (sa_cons (s_lc rfl sc_are_mates.nd (blk_by (own := [("world", 2), ("mate", 3)]) (by kernel_rfl)) (si_en L.n_enumerate (sa_cons (s_var 0) sa_nil)) (fun _ _ _ _ _ => sgc_tup rfl (sgcs_cons (sgc_name 2 sc_are_mates.nd) (sgcs_cons (sgc_name 3 sc_are_mates.nd) (sgcs_nil)))) (fun _ _ _ _ _ => sts_nil) (fun _ _ _ _ _ => s_and (s_cmp op_le ok_int (s_var 3) (s_var 2)) (s_one (s_cmp (op_eqD hr.units) ok_eq (s_ix (s_var 0) (s_var 3)) (s_var 3))))) sa_nil))))
theorem ok_is_table_of_any_size (L : Lw0 K mg) : FnOk P w K mg base (L2.CX P w) 4 L.a_is_table_of_any_size L.d_is_table_of_any_size ["thing"] (spM K mg 1 m_is_table_of_any_size) := by
  refine def_ok L.f_is_table_of_any_size sc_is_table_of_any_size fun cdv A outer s H E hr => ?_
  have tk := tk_body (P := P) (w := w) (K := K) (mg := mg) (base := base) (N := ["thing", "facts", "worlds", "mates", "row", "world"]) (qual := "is_table_of_any_size") (scope := defScope s_is_table_of_any_size) (f := L.a_is_table_of_any_size) (cdv := cdv) (A := A) (outer := outer) (s := s) (H := H) (E := E)
  have po := po_body (P := P) (w := w) (K := K) (mg := mg) (base := base) (N := ["thing", "facts", "worlds", "mates", "row", "world"]) (qual := "is_table_of_any_size") (scope := defScope s_is_table_of_any_size) (f := L.a_is_table_of_any_size) (cdv := cdv) (A := A) (outer := outer) (s := s) (H := H) (E := E)
  exact sm_cons (sm_if (sb_w (sw_or (sb_not (sb_val (s_callP tk (ok_is_row L) (hr.mono (by decide)) L.g_is_row L.f_is_row.kp L.b_is_row (sa_cons (s_var 0) (sa_cons (s_int) (sa_cons (s_int) sa_nil))) (hlen := (alen_cons (alen_cons (alen_cons alen_nil))))))) (sw_or1 (sb_not (sb_val (s_callP tk (ok_are_facts_of_any_size L) (hr.mono (by decide)) L.g_are_facts_of_any_size L.f_are_facts_of_any_size.kp L.b_are_facts_of_any_size (sa_cons (s_ix (s_var 0) (s_int)) sa_nil) (hlen := (alen_cons alen_nil)))))))) (sm_one (sm_ret (s_bl))) (sm_nil)) (sm_cons (sm_asg (s_var 0) (sg_tup rfl (sgs_cons (sg_name 1 sc_is_table_of_any_size.nd) (sgs_cons (sg_name 2 sc_is_table_of_any_size.nd) (sgs_cons (sg_name 3 sc_is_table_of_any_size.nd) (sgs_nil)))))) (sm_cons (sm_if (sb_w (sw_or (sb_not (sb_val (s_isi kit_tuple L.n_isinstance L.n_tuple (by decide +kernel) (s_var 2)))) (sw_or (sb_cmp (op_eqD hr.units) ok_eq (s_var 2) (s_tup sa_nil)) (sw_or1 (sb_not (sb_val (s_all rfl L.n_all (sa_cons (s_lc rfl sc_is_table_of_any_size.nd (blk_by (own := [("world", 5)]) (by kernel_rfl)) (si_sq (s_var 2)) (fun _ _ _ _ _ => sgc_name 5 sc_is_table_of_any_size.nd) (fun _ _ _ _ _ => sts_nil) (fun _ _ _ _ _ => s_callP tk0 (ok_are_indexes L) (hr.mono (by decide)) L.g_are_indexes L.f_are_indexes.kp L.b_are_indexes (sa_cons (s_var 5) (sa_cons (s_len L.n_len (sa_cons (s_var 1) sa_nil)) sa_nil)) (hlen := (alen_cons (alen_cons alen_nil))))) sa_nil)))))))) (sm_one (sm_ret (s_bl))) (sm_nil)) (sm_one (sm_ret (s_and (s_isi kit_tuple L.n_isinstance L.n_tuple (by decide +kernel) (s_var 3)) (s_and (s_cmp (op_neD hr.units) ok_ne (s_var 3) (s_tup sa_nil)) (s_one (s_all rfl L.n_all (sa_cons (s_lc rfl sc_is_table_of_any_size.nd (blk_by (own := [("row", 4)]) (by kernel_rfl)) (si_sq (s_var 3)) (fun _ _ _ _ _ => sgc_name 4 sc_is_table_of_any_size.nd) (fun _ _ _ _ _ => sts_nil) (fun _ _ _ _ _ => s_callP tk0 (ok_are_mates L) (hr.mono (by decide)) L.g_are_mates L.f_are_mates.kp L.b_are_mates (sa_cons (s_var 4) (sa_cons (s_len L.n_len (sa_cons (s_var 2) sa_nil)) sa_nil)) (hlen := (alen_cons (alen_cons alen_nil))))) sa_nil)))))))))
theorem ok_is_table (L : Lw0 K mg) : FnOk P w K mg base (L2.CX P w) 5 L.a_is_table L.d_is_table ["thing"] (spM K mg 1 m_is_table) := by
  refine def_ok L.f_is_table sc_is_table fun cdv A outer s H E hr => ?_
  have tk := tk_body (P := P) (w := w) (K := K) (mg := mg) (base := base) (N := ["thing"]) (qual := "is_table") (scope := defScope s_is_table) (f := L.a_is_table) (cdv := cdv) (A := A) (outer := outer) (s := s) (H := H) (E := E)
  have po := po_body (P := P) (w := w) (K := K) (mg := mg) (base := base) (N := ["thing"]) (qual := "is_table") (scope := defScope s_is_table) (f := L.a_is_table) (cdv := cdv) (A := A) (outer := outer) (s := s) (H := H) (E := E)
  exact sm_cons (sm_if (sb_not (sb_val (s_callP tk (ok_is_table_of_any_size L) (hr.mono (by decide)) L.g_is_table_of_any_size L.f_is_table_of_any_size.kp L.b_is_table_of_any_size (sa_cons (s_var 0) sa_nil) (hlen := (alen_cons alen_nil))))) (sm_one (sm_ret (s_bl))) (sm_nil)) (sm_one (sm_ret (s_and (s_cmp op_le ok_int (s_len L.n_len (sa_cons (s_ix (s_var 0) (s_int)) sa_nil)) (s_glob (v := .int 6) rfl L.c_MOST_FACTS ⟨_, rfl⟩ (fun _ _ _ => .d (.int _)))) (s_and (s_cmp op_le ok_int (s_len L.n_len (sa_cons (s_ix (s_var 0) (s_int)) sa_nil)) (s_glob (v := .int 16) rfl L.c_MOST_WORLDS ⟨_, rfl⟩ (fun _ _ _ => .d (.int _)))) (s_one (s_cmp op_le ok_int (s_len L.n_len (sa_cons (s_ix (s_var 0) (s_int)) sa_nil)) (s_glob (v := .int 4) rfl L.c_MOST_PLAYERS ⟨_, rfl⟩ (fun _ _ _ => .d (.int _)))))))))
theorem ok_law (L : Lw0 K mg) : FnOk P w K mg base (L2.CX P w) 6 L.a_law L.d_law ["script"] (spM K mg 1 m_law) := by
  refine def_ok L.f_law sc_law fun cdv A outer s H E hr => ?_
  have tk := tk_body (P := P) (w := w) (K := K) (mg := mg) (base := base) (N := ["script", "well", "turn", "table", "more", "bent", "great", "many"]) (qual := "law") (scope := defScope s_law) (f := L.a_law) (cdv := cdv) (A := A) (outer := outer) (s := s) (H := H) (E := E)
  have po := po_body (P := P) (w := w) (K := K) (mg := mg) (base := base) (N := ["script", "well", "turn", "table", "more", "bent", "great", "many"]) (qual := "law") (scope := defScope s_law) (f := L.a_law) (cdv := cdv) (A := A) (outer := outer) (s := s) (H := H) (E := E)
  exact sm_cons (sm_set 1 sc_law.nd (s_callE tk (ok__law_well L) (hr.mono (by decide)) L.g__law_well L.f__law_well.kp L.b__law_well (sa_cons (s_var 0) sa_nil) (hlen := (alen_cons alen_nil)))) (sm_cons (sm_for po rfl (si_rng1 L.n_range (s_add (s_int) (s_min2 rfl L.n_min (sa_cons (s_len L.n_len (sa_cons (s_var 0) sa_nil)) (sa_cons (s_int) sa_nil))))) (sg_name 2 sc_law.nd) (sm_cons (sm_set 3 sc_law.nd (s_callE tk (ok__law_table L) (hr.mono (by decide)) L.g__law_table L.f__law_table.kp L.b__law_table (sa_cons (s_var 1) (sa_cons (s_int) (sa_cons (s_int) (sa_cons (s_int) sa_nil)))) (hlen := (alen_cons (alen_cons (alen_cons (alen_cons alen_nil))))))) (sm_cons (sm_if (sb_w (sw_or (sb_cmp op_notBl ok_notB (s_callP tk (ok_is_table L) (hr.mono (by decide)) L.g_is_table L.f_is_table.kp L.b_is_table (sa_cons (s_var 3) sa_nil) (hlen := (alen_cons alen_nil))) (s_bl)) (sw_or1 (sb_not (sb_val (s_callP tk (ok__law_is_table L) (hr.mono (by decide)) L.g__law_is_table L.f__law_is_table.kp L.b__law_is_table (sa_cons (s_var 3) sa_nil) (hlen := (alen_cons alen_nil)))))))) (sm_one (sm_ret (s_bl))) (sm_nil)) (sm_one (sm_for po rfl (si_rng1 L.n_range (s_int)) (sg_name 4 sc_law.nd) (sm_cons (sm_set 5 sc_law.nd (s_callE tk (ok__law_bent L) (hr.mono (by decide)) L.g__law_bent L.f__law_bent.kp L.b__law_bent (sa_cons (s_var 1) (sa_cons (s_var 3) sa_nil)) (hlen := (alen_cons (alen_cons alen_nil))))) (sm_one (sm_if (sb_not (sb_val (s_callP tk (ok__law_is L) (hr.mono (by decide)) L.g__law_is L.f__law_is.kp L.b__law_is (sa_cons (s_callK true rfl tk (ok_is_table L) (hr.mono (by decide)) L.g_is_table L.f_is_table.kp L.k_is_table_thing (sk_cons (s_var 5) sk_nil) (alen_kw (alen_cons alen_nil)) (alen_cons alen_nil)) (sa_cons (s_callP tk (ok__law_is_table L) (hr.mono (by decide)) L.g__law_is_table L.f__law_is_table.kp L.b__law_is_table (sa_cons (s_var 5) sa_nil) (hlen := (alen_cons alen_nil))) sa_nil)) (hlen := (alen_cons (alen_cons alen_nil)))))) (sm_one (sm_ret (s_bl))) (sm_nil))))))))) (sm_cons (sm_setLc 6 rfl sc_law.nd (blk_by (own := [("many", 7)]) (by kernel_rfl)) (si_sq (s_tup (sa_cons (s_int) (sa_cons (s_int) sa_nil)))) (fun _ _ _ _ _ => sgc_name 7 sc_law.nd) (fun _ _ _ _ _ => sts_nil) (fun _ _ _ _ _ => s_tup (sa_cons (s_tup (sa_cons (s_str) sa_nil)) (sa_cons (s_mul (s_tup (sa_cons (s_tup sa_nil) sa_nil)) (s_var 7)) (sa_cons (s_tup (sa_cons (s_mul (s_tup (sa_cons (s_int) sa_nil)) (s_var 7)) sa_nil)) sa_nil))))) (sm_one (sm_ret (s_and (s_cmp op_isBl ok_isB (s_callP tk (ok_is_table L) (hr.mono (by decide)) L.g_is_table L.f_is_table.kp L.b_is_table (sa_cons (s_ix (s_var 6) (s_int)) sa_nil) (hlen := (alen_cons alen_nil))) (s_bl)) (s_one (s_cmp op_isBl ok_isB (s_callP tk (ok_is_table L) (hr.mono (by decide)) L.g_is_table L.f_is_table.kp L.b_is_table (sa_cons (s_ix (s_var 6) (s_int)) sa_nil) (hlen := (alen_cons alen_nil))) (s_bl))))))))
end
def spLaw (K : PySem.W.Frag) : Sp := fun vs H Q _ => ∃ (a : Addr) (ns : List Int), vs = [.ref a] ∧ ns.length ≤ 63 ∧ (∀ H' : Hp, (∀ b o, H b = some o → H' b = some o) → SqL K H' a (ns.map V.int)) ∧ ∀ H', Q (.bl true) H'
theorem all_mk (plain : ∀ ns : List Int, ns.length ≤ 63 → ∃ S', m_law [.fl (ns.map .int)] [] = .ok (.d (.bool true)) S') {l : PySem.W.OpenLaw} {w : World} {K : PySem.W.Frag} {h : Heap} {mg : Str → Option Value} {fa : Addr} (X : K.In h) (G : h.Ns mainGlobals mg) (hfa : mg "law" = some (.ref fa)) {f0 : Addr} {od0 an0 : Option Addr} {sl0 : Array (Option Value)} {oc0 kV0 dc0 pm0 cd0 ct0 : Value} {f1 : Addr} {od1 an1 : Option Addr} {sl1 : Array (Option Value)} {oc1 kV1 dc1 pm1 cd1 ct1 : Value} {f2 : Addr} {od2 an2 : Option Addr} {sl2 : Array (Option Value)} {oc2 kV2 dc2 pm2 cd2 ct2 : Value} {f3 : Addr} {od3 an3 : Option Addr} {sl3 : Array (Option Value)} {oc3 kV3 dc3 pm3 cd3 ct3 : Value} {f4 : Addr} {od4 an4 : Option Addr} {sl4 : Array (Option Value)} {oc4 kV4 dc4 pm4 cd4 ct4 : Value} {f5 : Addr} {od5 an5 : Option Addr} {sl5 : Array (Option Value)} {oc5 kV5 dc5 pm5 cd5 ct5 : Value} {f6 : Addr} {od6 an6 : Option Addr} {sl6 : Array (Option Value)} {oc6 kV6 dc6 pm6 cd6 ct6 : Value} {f7 : Addr} {od7 an7 : Option Addr} {sl7 : Array (Option Value)} {oc7 kV7 dc7 pm7 cd7 ct7 : Value} {f8 : Addr} {od8 an8 : Option Addr} {sl8 : Array (Option Value)} {oc8 kV8 dc8 pm8 cd8 ct8 : Value} {f9 : Addr} {od9 an9 : Option Addr} {sl9 : Array (Option Value)} {oc9 kV9 dc9 pm9 cd9 ct9 : Value} {f10 : Addr} {od10 an10 : Option Addr} {sl10 : Array (Option Value)} {oc10 kV10 dc10 pm10 cd10 ct10 : Value} {f11 : Addr} {od11 an11 : Option Addr} {sl11 : Array (Option Value)} {oc11 kV11 dc11 pm11 cd11 ct11 : Value} {f12 : Addr} {od12 an12 : Option Addr} {sl12 : Array (Option Value)} {oc12 kV12 dc12 pm12 cd12 ct12 : Value} {f13 : Addr} {od13 an13 : Option Addr} {sl13 : Array (Option Value)} {oc13 kV13 dc13 pm13 cd13 ct13 : Value} {f14 : Addr} {od14 an14 : Option Addr} {sl14 : Array (Option Value)} {oc14 kV14 dc14 pm14 cd14 ct14 : Value} {f15 : Addr} {od15 an15 : Option Addr} {sl15 : Array (Option Value)} {oc15 kV15 dc15 pm15 cd15 ct15 : Value} {f16 : Addr} {od16 an16 : Option Addr} {sl16 : Array (Option Value)} {oc16 kV16 dc16 pm16 cd16 ct16 : Value} {f17 : Addr} {od17 an17 : Option Addr} {sl17 : Array (Option Value)} {oc17 kV17 dc17 pm17 cd17 ct17 : Value} {f18 : Addr} {od18 an18 : Option Addr} {sl18 : Array (Option Value)} {oc18 kV18 dc18 pm18 cd18 ct18 : Value} {f19 : Addr} {od19 an19 : Option Addr} {sl19 : Array (Option Value)} {oc19 kV19 dc19 pm19 cd19 ct19 : Value} {t_MOST_WORLDS : Tok} {t_MOST_PLAYERS : Tok} {t_MOST_FACTS : Tok} {t_LONGEST_NAME : Tok} {t_LOW_LETTERS : Tok} {t_LOW_SIGNS : Tok} (a0 : PySem.W.nsIn K mainGlobals "is_int" = some (some (.ref f0))) (l0 : K.lookup f0 = some ⟨oc0, od0, .func (PySem.W.fnOf "is_int" "is_int" (defArgs s_is_int) (defBody s_is_int) (defScope s_is_int) .none kV0 dc0 pm0 an0 cd0 ct0), sl0⟩) (c0 : PySem.W.codeIn K cd0 "is_int" = true) (k0 : PySem.W.keepIn K (.ref f0) = true)
    (a1 : PySem.W.nsIn K mainGlobals "is_row" = some (some (.ref f1))) (l1 : K.lookup f1 = some ⟨oc1, od1, .func (PySem.W.fnOf "is_row" "is_row" (defArgs s_is_row) (defBody s_is_row) (defScope s_is_row) .none kV1 dc1 pm1 an1 cd1 ct1), sl1⟩) (c1 : PySem.W.codeIn K cd1 "is_row" = true) (k1 : PySem.W.keepIn K (.ref f1) = true)
    (a2 : PySem.W.nsIn K mainGlobals "is_ascending" = some (some (.ref f2))) (l2 : K.lookup f2 = some ⟨oc2, od2, .func (PySem.W.fnOf "is_ascending" "is_ascending" (defArgs s_is_ascending) (defBody s_is_ascending) (defScope s_is_ascending) .none kV2 dc2 pm2 an2 cd2 ct2), sl2⟩) (c2 : PySem.W.codeIn K cd2 "is_ascending" = true) (k2 : PySem.W.keepIn K (.ref f2) = true)
    (a3 : PySem.W.nsIn K mainGlobals "is_low_name" = some (some (.ref f3))) (l3 : K.lookup f3 = some ⟨oc3, od3, .func (PySem.W.fnOf "is_low_name" "is_low_name" (defArgs s_is_low_name) (defBody s_is_low_name) (defScope s_is_low_name) .none kV3 dc3 pm3 an3 cd3 ct3), sl3⟩) (c3 : PySem.W.codeIn K cd3 "is_low_name" = true) (k3 : PySem.W.keepIn K (.ref f3) = true)
    (a4 : PySem.W.nsIn K mainGlobals "_law_well" = some (some (.ref f4))) (l4 : K.lookup f4 = some ⟨oc4, od4, .func (PySem.W.fnOf "_law_well" "_law_well" (defArgs s__law_well) (defBody s__law_well) (defScope s__law_well) .none kV4 dc4 pm4 an4 cd4 ct4), sl4⟩) (c4 : PySem.W.codeIn K cd4 "_law_well" = true) (k4 : PySem.W.keepIn K (.ref f4) = true)
    (a5 : PySem.W.nsIn K mainGlobals "_law_draw" = some (some (.ref f5))) (l5 : K.lookup f5 = some ⟨oc5, od5, .func (PySem.W.fnOf "_law_draw" "_law_draw" (defArgs s__law_draw) (defBody s__law_draw) (defScope s__law_draw) .none kV5 dc5 pm5 an5 cd5 ct5), sl5⟩) (c5 : PySem.W.codeIn K cd5 "_law_draw" = true) (k5 : PySem.W.keepIn K (.ref f5) = true)
    (a6 : PySem.W.nsIn K mainGlobals "_law_mates" = some (some (.ref f6))) (l6 : K.lookup f6 = some ⟨oc6, od6, .func (PySem.W.fnOf "_law_mates" "_law_mates" (defArgs s__law_mates) (defBody s__law_mates) (defScope s__law_mates) .none kV6 dc6 pm6 an6 cd6 ct6), sl6⟩) (c6 : PySem.W.codeIn K cd6 "_law_mates" = true) (k6 : PySem.W.keepIn K (.ref f6) = true)
    (a7 : PySem.W.nsIn K mainGlobals "_law_is" = some (some (.ref f7))) (l7 : K.lookup f7 = some ⟨oc7, od7, .func (PySem.W.fnOf "_law_is" "_law_is" (defArgs s__law_is) (defBody s__law_is) (defScope s__law_is) .none kV7 dc7 pm7 an7 cd7 ct7), sl7⟩) (c7 : PySem.W.codeIn K cd7 "_law_is" = true) (k7 : PySem.W.keepIn K (.ref f7) = true)
    (a8 : PySem.W.nsIn K mainGlobals "_law_is_low" = some (some (.ref f8))) (l8 : K.lookup f8 = some ⟨oc8, od8, .func (PySem.W.fnOf "_law_is_low" "_law_is_low" (defArgs s__law_is_low) (defBody s__law_is_low) (defScope s__law_is_low) .none kV8 dc8 pm8 an8 cd8 ct8), sl8⟩) (c8 : PySem.W.codeIn K cd8 "_law_is_low" = true) (k8 : PySem.W.keepIn K (.ref f8) = true)
    (a9 : PySem.W.nsIn K mainGlobals "_law_are_indexes" = some (some (.ref f9))) (l9 : K.lookup f9 = some ⟨oc9, od9, .func (PySem.W.fnOf "_law_are_indexes" "_law_are_indexes" (defArgs s__law_are_indexes) (defBody s__law_are_indexes) (defScope s__law_are_indexes) .none kV9 dc9 pm9 an9 cd9 ct9), sl9⟩) (c9 : PySem.W.codeIn K cd9 "_law_are_indexes" = true) (k9 : PySem.W.keepIn K (.ref f9) = true)
    (a10 : PySem.W.nsIn K mainGlobals "within" = some (some (.ref f10))) (l10 : K.lookup f10 = some ⟨oc10, od10, .func (PySem.W.fnOf "within" "within" (defArgs s_within) (defBody s_within) (defScope s_within) .none kV10 dc10 pm10 an10 cd10 ct10), sl10⟩) (c10 : PySem.W.codeIn K cd10 "within" = true) (k10 : PySem.W.keepIn K (.ref f10) = true)
    (a11 : PySem.W.nsIn K mainGlobals "are_facts_of_any_size" = some (some (.ref f11))) (l11 : K.lookup f11 = some ⟨oc11, od11, .func (PySem.W.fnOf "are_facts_of_any_size" "are_facts_of_any_size" (defArgs s_are_facts_of_any_size) (defBody s_are_facts_of_any_size) (defScope s_are_facts_of_any_size) .none kV11 dc11 pm11 an11 cd11 ct11), sl11⟩) (c11 : PySem.W.codeIn K cd11 "are_facts_of_any_size" = true) (k11 : PySem.W.keepIn K (.ref f11) = true)
    (a12 : PySem.W.nsIn K mainGlobals "_law_table" = some (some (.ref f12))) (l12 : K.lookup f12 = some ⟨oc12, od12, .func (PySem.W.fnOf "_law_table" "_law_table" (defArgs s__law_table) (defBody s__law_table) (defScope s__law_table) .none kV12 dc12 pm12 an12 cd12 ct12), sl12⟩) (c12 : PySem.W.codeIn K cd12 "_law_table" = true) (k12 : PySem.W.keepIn K (.ref f12) = true)
    (a13 : PySem.W.nsIn K mainGlobals "_law_is_table" = some (some (.ref f13))) (l13 : K.lookup f13 = some ⟨oc13, od13, .func (PySem.W.fnOf "_law_is_table" "_law_is_table" (defArgs s__law_is_table) (defBody s__law_is_table) (defScope s__law_is_table) .none kV13 dc13 pm13 an13 cd13 ct13), sl13⟩) (c13 : PySem.W.codeIn K cd13 "_law_is_table" = true) (k13 : PySem.W.keepIn K (.ref f13) = true)
    (a14 : PySem.W.nsIn K mainGlobals "_law_bent" = some (some (.ref f14))) (l14 : K.lookup f14 = some ⟨oc14, od14, .func (PySem.W.fnOf "_law_bent" "_law_bent" (defArgs s__law_bent) (defBody s__law_bent) (defScope s__law_bent) .none kV14 dc14 pm14 an14 cd14 ct14), sl14⟩) (c14 : PySem.W.codeIn K cd14 "_law_bent" = true) (k14 : PySem.W.keepIn K (.ref f14) = true)
    (a15 : PySem.W.nsIn K mainGlobals "are_indexes" = some (some (.ref f15))) (l15 : K.lookup f15 = some ⟨oc15, od15, .func (PySem.W.fnOf "are_indexes" "are_indexes" (defArgs s_are_indexes) (defBody s_are_indexes) (defScope s_are_indexes) .none kV15 dc15 pm15 an15 cd15 ct15), sl15⟩) (c15 : PySem.W.codeIn K cd15 "are_indexes" = true) (k15 : PySem.W.keepIn K (.ref f15) = true)
    (a16 : PySem.W.nsIn K mainGlobals "are_mates" = some (some (.ref f16))) (l16 : K.lookup f16 = some ⟨oc16, od16, .func (PySem.W.fnOf "are_mates" "are_mates" (defArgs s_are_mates) (defBody s_are_mates) (defScope s_are_mates) .none kV16 dc16 pm16 an16 cd16 ct16), sl16⟩) (c16 : PySem.W.codeIn K cd16 "are_mates" = true) (k16 : PySem.W.keepIn K (.ref f16) = true)
    (a17 : PySem.W.nsIn K mainGlobals "is_table_of_any_size" = some (some (.ref f17))) (l17 : K.lookup f17 = some ⟨oc17, od17, .func (PySem.W.fnOf "is_table_of_any_size" "is_table_of_any_size" (defArgs s_is_table_of_any_size) (defBody s_is_table_of_any_size) (defScope s_is_table_of_any_size) .none kV17 dc17 pm17 an17 cd17 ct17), sl17⟩) (c17 : PySem.W.codeIn K cd17 "is_table_of_any_size" = true) (k17 : PySem.W.keepIn K (.ref f17) = true)
    (a18 : PySem.W.nsIn K mainGlobals "is_table" = some (some (.ref f18))) (l18 : K.lookup f18 = some ⟨oc18, od18, .func (PySem.W.fnOf "is_table" "is_table" (defArgs s_is_table) (defBody s_is_table) (defScope s_is_table) .none kV18 dc18 pm18 an18 cd18 ct18), sl18⟩) (c18 : PySem.W.codeIn K cd18 "is_table" = true) (k18 : PySem.W.keepIn K (.ref f18) = true)
    (a19 : PySem.W.nsIn K mainGlobals "law" = some (some (.ref f19))) (l19 : K.lookup f19 = some ⟨oc19, od19, .func (PySem.W.fnOf "law" "law" (defArgs s_law) (defBody s_law) (defScope s_law) .none kV19 dc19 pm19 an19 cd19 ct19), sl19⟩) (c19 : PySem.W.codeIn K cd19 "law" = true) (k19 : PySem.W.keepIn K (.ref f19) = true)
    (v_MOST_WORLDS : PySem.W.nsIn K mainGlobals "MOST_WORLDS" = some (some (.int 16 t_MOST_WORLDS)))
    (v_MOST_PLAYERS : PySem.W.nsIn K mainGlobals "MOST_PLAYERS" = some (some (.int 4 t_MOST_PLAYERS)))
    (v_MOST_FACTS : PySem.W.nsIn K mainGlobals "MOST_FACTS" = some (some (.int 6 t_MOST_FACTS)))
    (v_LONGEST_NAME : PySem.W.nsIn K mainGlobals "LONGEST_NAME" = some (some (.int 10 t_LONGEST_NAME)))
    (v_LOW_LETTERS : PySem.W.nsIn K mainGlobals "LOW_LETTERS" = some (some (.str "abcdefghijklmnopqrstuvwxyz" t_LOW_LETTERS)))
    (v_LOW_SIGNS : PySem.W.nsIn K mainGlobals "LOW_SIGNS" = some (some (.str "abcdefghijklmnopqrstuvwxyz0123456789" t_LOW_SIGNS)))
    (z_abs : PySem.W.nsIn K mainGlobals "abs" = some none)
    (z_all : PySem.W.nsIn K mainGlobals "all" = some none)
    (z_bool : PySem.W.nsIn K mainGlobals "bool" = some none)
    (z_enumerate : PySem.W.nsIn K mainGlobals "enumerate" = some none)
    (z_int : PySem.W.nsIn K mainGlobals "int" = some none)
    (z_isinstance : PySem.W.nsIn K mainGlobals "isinstance" = some none)
    (z_len : PySem.W.nsIn K mainGlobals "len" = some none)
    (z_list : PySem.W.nsIn K mainGlobals "list" = some none)
    (z_min : PySem.W.nsIn K mainGlobals "min" = some none)
    (z_range : PySem.W.nsIn K mainGlobals "range" = some none)
    (z_str : PySem.W.nsIn K mainGlobals "str" = some none)
    (z_tuple : PySem.W.nsIn K mainGlobals "tuple" = some none)
    (z_zip : PySem.W.nsIn K mainGlobals "zip" = some none) : ∃ fd : FuncData, (∀ (s : Shared) (v : Value), BindsTo s fd ⟨[v], []⟩ [("script", v)]) ∧ ∀ base : Heap, K.In base → base.Ns mainGlobals mg → FnOk l.prog w K mg base (L2.CX l.prog w) 6 fa fd ["script"] (spLaw K) := by
  have e := hfa.symm.trans (PySem.W.mg_of X G a19)
  cases e
  have F0 := fun_mk (st := s_is_int) l0 c0 k0
  have F1 := fun_mk (st := s_is_row) l1 c1 k1
  have F2 := fun_mk (st := s_is_ascending) l2 c2 k2
  have F3 := fun_mk (st := s_is_low_name) l3 c3 k3
  have F4 := fun_mk (st := s__law_well) l4 c4 k4
  have F5 := fun_mk (st := s__law_draw) l5 c5 k5
  have F6 := fun_mk (st := s__law_mates) l6 c6 k6
  have F7 := fun_mk (st := s__law_is) l7 c7 k7
  have F8 := fun_mk (st := s__law_is_low) l8 c8 k8
  have F9 := fun_mk (st := s__law_are_indexes) l9 c9 k9
  have F10 := fun_mk (st := s_within) l10 c10 k10
  have F11 := fun_mk (st := s_are_facts_of_any_size) l11 c11 k11
  have F12 := fun_mk (st := s__law_table) l12 c12 k12
  have F13 := fun_mk (st := s__law_is_table) l13 c13 k13
  have F14 := fun_mk (st := s__law_bent) l14 c14 k14
  have F15 := fun_mk (st := s_are_indexes) l15 c15 k15
  have F16 := fun_mk (st := s_are_mates) l16 c16 k16
  have F17 := fun_mk (st := s_is_table_of_any_size) l17 c17 k17
  have F18 := fun_mk (st := s_is_table) l18 c18 k18
  have F19 := fun_mk (st := s_law) l19 c19 k19
  let L : Lw0 K mg := {
    a_is_int := f0,
    d_is_int := _,
    f_is_int := F0,
    g_is_int := PySem.W.mg_of X G a0,
    b_is_int := F0.binds fun _ _ _ _ _ _ us hl => match us, hl with | [_], _ => rfl,
    a_is_row := f1,
    d_is_row := _,
    f_is_row := F1,
    g_is_row := PySem.W.mg_of X G a1,
    b_is_row := F1.binds fun _ _ _ _ _ _ us hl => match us, hl with | [_, _, _], _ => rfl,
    a_is_ascending := f2,
    d_is_ascending := _,
    f_is_ascending := F2,
    g_is_ascending := PySem.W.mg_of X G a2,
    b_is_ascending := F2.binds fun _ _ _ _ _ _ us hl => match us, hl with | [_], _ => rfl,
    a_is_low_name := f3,
    d_is_low_name := _,
    f_is_low_name := F3,
    g_is_low_name := PySem.W.mg_of X G a3,
    b_is_low_name := F3.binds fun _ _ _ _ _ _ us hl => match us, hl with | [_], _ => rfl,
    a__law_well := f4,
    d__law_well := _,
    f__law_well := F4,
    g__law_well := PySem.W.mg_of X G a4,
    b__law_well := F4.binds fun _ _ _ _ _ _ us hl => match us, hl with | [_], _ => rfl,
    a__law_draw := f5,
    d__law_draw := _,
    f__law_draw := F5,
    g__law_draw := PySem.W.mg_of X G a5,
    b__law_draw := F5.binds fun _ _ _ _ _ _ us hl => match us, hl with | [_, _], _ => rfl,
    a__law_mates := f6,
    d__law_mates := _,
    f__law_mates := F6,
    g__law_mates := PySem.W.mg_of X G a6,
    b__law_mates := F6.binds fun _ _ _ _ _ _ us hl => match us, hl with | [_], _ => rfl,
    a__law_is := f7,
    d__law_is := _,
    f__law_is := F7,
    g__law_is := PySem.W.mg_of X G a7,
    b__law_is := F7.binds fun _ _ _ _ _ _ us hl => match us, hl with | [_, _], _ => rfl,
    a__law_is_low := f8,
    d__law_is_low := _,
    f__law_is_low := F8,
    g__law_is_low := PySem.W.mg_of X G a8,
    b__law_is_low := F8.binds fun _ _ _ _ _ _ us hl => match us, hl with | [_], _ => rfl,
    a__law_are_indexes := f9,
    d__law_are_indexes := _,
    f__law_are_indexes := F9,
    g__law_are_indexes := PySem.W.mg_of X G a9,
    b__law_are_indexes := F9.binds fun _ _ _ _ _ _ us hl => match us, hl with | [_, _], _ => rfl,
    a_within := f10,
    d_within := _,
    f_within := F10,
    g_within := PySem.W.mg_of X G a10,
    b_within := F10.binds fun _ _ _ _ _ _ us hl => match us, hl with | [_, _, _], _ => rfl,
    a_are_facts_of_any_size := f11,
    d_are_facts_of_any_size := _,
    f_are_facts_of_any_size := F11,
    g_are_facts_of_any_size := PySem.W.mg_of X G a11,
    b_are_facts_of_any_size := F11.binds fun _ _ _ _ _ _ us hl => match us, hl with | [_], _ => rfl,
    a__law_table := f12,
    d__law_table := _,
    f__law_table := F12,
    g__law_table := PySem.W.mg_of X G a12,
    b__law_table := F12.binds fun _ _ _ _ _ _ us hl => match us, hl with | [_, _, _, _], _ => rfl,
    a__law_is_table := f13,
    d__law_is_table := _,
    f__law_is_table := F13,
    g__law_is_table := PySem.W.mg_of X G a13,
    b__law_is_table := F13.binds fun _ _ _ _ _ _ us hl => match us, hl with | [_], _ => rfl,
    a__law_bent := f14,
    d__law_bent := _,
    f__law_bent := F14,
    g__law_bent := PySem.W.mg_of X G a14,
    b__law_bent := F14.binds fun _ _ _ _ _ _ us hl => match us, hl with | [_, _], _ => rfl,
    a_are_indexes := f15,
    d_are_indexes := _,
    f_are_indexes := F15,
    g_are_indexes := PySem.W.mg_of X G a15,
    b_are_indexes := F15.binds fun _ _ _ _ _ _ us hl => match us, hl with | [_, _], _ => rfl,
    a_are_mates := f16,
    d_are_mates := _,
    f_are_mates := F16,
    g_are_mates := PySem.W.mg_of X G a16,
    b_are_mates := F16.binds fun _ _ _ _ _ _ us hl => match us, hl with | [_, _], _ => rfl,
    a_is_table_of_any_size := f17,
    d_is_table_of_any_size := _,
    f_is_table_of_any_size := F17,
    g_is_table_of_any_size := PySem.W.mg_of X G a17,
    b_is_table_of_any_size := F17.binds fun _ _ _ _ _ _ us hl => match us, hl with | [_], _ => rfl,
    a_is_table := f18,
    d_is_table := _,
    f_is_table := F18,
    g_is_table := PySem.W.mg_of X G a18,
    b_is_table := F18.binds fun _ _ _ _ _ _ us hl => match us, hl with | [_], _ => rfl,
    a_law := fa,
    d_law := _,
    f_law := F19,
    g_law := PySem.W.mg_of X G a19,
    b_law := F19.binds fun _ _ _ _ _ _ us hl => match us, hl with | [_], _ => rfl,
    k_is_table_thing := ⟨fun s us hl => match us, hl with | [_], _ => .of_eq rfl⟩,
    t_MOST_WORLDS := t_MOST_WORLDS,
    c_MOST_WORLDS := PySem.W.mg_of X G v_MOST_WORLDS,
    t_MOST_PLAYERS := t_MOST_PLAYERS,
    c_MOST_PLAYERS := PySem.W.mg_of X G v_MOST_PLAYERS,
    t_MOST_FACTS := t_MOST_FACTS,
    c_MOST_FACTS := PySem.W.mg_of X G v_MOST_FACTS,
    t_LONGEST_NAME := t_LONGEST_NAME,
    c_LONGEST_NAME := PySem.W.mg_of X G v_LONGEST_NAME,
    t_LOW_LETTERS := t_LOW_LETTERS,
    c_LOW_LETTERS := PySem.W.mg_of X G v_LOW_LETTERS,
    t_LOW_SIGNS := t_LOW_SIGNS,
    c_LOW_SIGNS := PySem.W.mg_of X G v_LOW_SIGNS,
    n_abs := PySem.W.mg_none_of X G z_abs,
    n_all := PySem.W.mg_none_of X G z_all,
    n_bool := PySem.W.mg_none_of X G z_bool,
    n_enumerate := PySem.W.mg_none_of X G z_enumerate,
    n_int := PySem.W.mg_none_of X G z_int,
    n_isinstance := PySem.W.mg_none_of X G z_isinstance,
    n_len := PySem.W.mg_none_of X G z_len,
    n_list := PySem.W.mg_none_of X G z_list,
    n_min := PySem.W.mg_none_of X G z_min,
    n_range := PySem.W.mg_none_of X G z_range,
    n_str := PySem.W.mg_none_of X G z_str,
    n_tuple := PySem.W.mg_none_of X G z_tuple,
    n_zip := PySem.W.mg_none_of X G z_zip }
  refine ⟨_, fun s v => .of_eq rfl, fun base _ _ => (ok_law L).imp fun vs H Q E h => ?_⟩
  obtain ⟨a, ns, rfl, hz, hst, hq⟩ := h
  obtain ⟨S', e⟩ := plain ns hz
  exact law_sp hz hst e hq
end Law
end

section
open PySem PySem.W PyProof.Rows
set_option maxHeartbeats 0 in
theorem PySem.Challenge.cw_whoknows_k01_tables_judged_holds : PySem.Challenge.rw_whoknows_k01_tables_judged.Holds := by
  w_on; o_law; k_head; (case hw => w_witness2)
  k_fill
  refine L2.walk_of (l := PySem.Challenge.rw_whoknows_k01_tables_judged) (n := 63) (k := 6) (x := "script") (CX := fun w => L2.CX PySem.Challenge.rw_whoknows_k01_tables_judged.prog w) (sp := fun w => Law.spLaw _) rfl (by decide) rfl ⟨rfl, by decide, by decide⟩ (fun w h Y => PySem.W.kIn_of Y) ?F (fun _ H a ns hl _ hS => ⟨a, ns, rfl, hl, fun H' k => Sh.SqL.same hS k, fun _ => rfl⟩) (fun _ _ _ _ _ h => Sh.cx_end h)
  case F =>
    intro w mg fa h KX G hmg
    refine' Law.all_mk Law.plain KX G hmg ?a0 ?l0 ?c0 ?k0 ?a1 ?l1 ?c1 ?k1 ?a2 ?l2 ?c2 ?k2 ?a3 ?l3 ?c3 ?k3 ?a4 ?l4 ?c4 ?k4 ?a5 ?l5 ?c5 ?k5 ?a6 ?l6 ?c6 ?k6 ?a7 ?l7 ?c7 ?k7 ?a8 ?l8 ?c8 ?k8 ?a9 ?l9 ?c9 ?k9 ?a10 ?l10 ?c10 ?k10 ?a11 ?l11 ?c11 ?k11 ?a12 ?l12 ?c12 ?k12 ?a13 ?l13 ?c13 ?k13 ?a14 ?l14 ?c14 ?k14 ?a15 ?l15 ?c15 ?k15 ?a16 ?l16 ?c16 ?k16 ?a17 ?l17 ?c17 ?k17 ?a18 ?l18 ?c18 ?k18 ?a19 ?l19 ?c19 ?k19 ?v_MOST_WORLDS ?v_MOST_PLAYERS ?v_MOST_FACTS ?v_LONGEST_NAME ?v_LOW_LETTERS ?v_LOW_SIGNS ?z_abs ?z_all ?z_bool ?z_enumerate ?z_int ?z_isinstance ?z_len ?z_list ?z_min ?z_range ?z_str ?z_tuple ?z_zip
    (case a0 => k_is); (case l0 => k_is); (case c0 => k_is); (case k0 => k_is); (case a1 => k_is); (case l1 => k_is); (case c1 => k_is); (case k1 => k_is); (case a2 => k_is); (case l2 => k_is); (case c2 => k_is); (case k2 => k_is); (case a3 => k_is); (case l3 => k_is); (case c3 => k_is); (case k3 => k_is); (case a4 => k_is); (case l4 => k_is); (case c4 => k_is); (case k4 => k_is); (case a5 => k_is); (case l5 => k_is); (case c5 => k_is); (case k5 => k_is); (case a6 => k_is); (case l6 => k_is); (case c6 => k_is); (case k6 => k_is); (case a7 => k_is); (case l7 => k_is); (case c7 => k_is); (case k7 => k_is); (case a8 => k_is); (case l8 => k_is); (case c8 => k_is); (case k8 => k_is); (case a9 => k_is); (case l9 => k_is); (case c9 => k_is); (case k9 => k_is); (case a10 => k_is); (case l10 => k_is); (case c10 => k_is); (case k10 => k_is); (case a11 => k_is); (case l11 => k_is); (case c11 => k_is); (case k11 => k_is); (case a12 => k_is); (case l12 => k_is); (case c12 => k_is); (case k12 => k_is); (case a13 => k_is); (case l13 => k_is); (case c13 => k_is); (case k13 => k_is); (case a14 => k_is); (case l14 => k_is); (case c14 => k_is); (case k14 => k_is); (case a15 => k_is); (case l15 => k_is); (case c15 => k_is); (case k15 => k_is); (case a16 => k_is); (case l16 => k_is); (case c16 => k_is); (case k16 => k_is); (case a17 => k_is); (case l17 => k_is); (case c17 => k_is); (case k17 => k_is); (case a18 => k_is); (case l18 => k_is); (case c18 => k_is); (case k18 => k_is); (case a19 => k_is); (case l19 => k_is); (case c19 => k_is); (case k19 => k_is); (case v_MOST_WORLDS => k_is); (case v_MOST_PLAYERS => k_is); (case v_MOST_FACTS => k_is); (case v_LONGEST_NAME => k_is); (case v_LOW_LETTERS => k_is); (case v_LOW_SIGNS => k_is); (case z_abs => k_is); (case z_all => k_is); (case z_bool => k_is); (case z_enumerate => k_is); (case z_int => k_is); (case z_isinstance => k_is); (case z_len => k_is); (case z_list => k_is); (case z_min => k_is); (case z_range => k_is); (case z_str => k_is); (case z_tuple => k_is); (case z_zip => k_is)
end
