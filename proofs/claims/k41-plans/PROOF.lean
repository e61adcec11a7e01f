import PyProof.Rows.All
import Wide.All
import OpenK.AllK
import Wide.FinOn
import PySem.Challenge.RW_gavelhall_k41_plans
import HandS.ForExc
import HandS.ForMost
import HandS.Wide
import HandS.HotCalls
import HandS.ExcIs
import HandS.ExcCtx
import HandS.ExcField
import HandS.ExcInit
import HandS.ExcInitHot
import HandS.RaiseFrom
import HandS.SuiteRaise
import HandS.TryElse
import HandS.NestedHot
import HandS.IsInst
import HandS.CallSlots
import HandS.More
import HandS.TupLe
import HandS.Defaults
import HandS.Rev
import HandS.RevTup
import HandS.FStr
import HandS.WideBits
import HandS.RaiseMore
import HandS.Dict
import HandS.SortRule
import HandS.SortInts
import KE.DataMinMax
import KE.SortData
import HandS.SortKw
import HandS.Sort
import HandS.SortOrd
import KE.KDictList
import HandS.Deep
import KE.DataFind
import HandS.MakeKw
import KE.KExcIs
import HandS.ExcBuiltin
import HandS.Conv
import KE.KDictCopyH
import HandS.ListItems
import HandS.Hot
import KE.GoesZip
import PyProof.Draws
import KE.GoesMore
import KE.OsRunLaw
import KE.HD2
import HandS.HeadHook1
import HandS.HeadHook2
import HandS.HeadNt
import HandS.Replace
import PyProof.ReprRoads
import PyProof.CallFns
set_option Elab.async false
set_option linter.all false
set_option maxRecDepth 100000
namespace UP
open PySem L2
inductive D where
  | non | bl (b : Bool) | int (i : Int) | str (x : Str) | ty (n : String)
  | lst (xs : List D) | tup (xs : List D)
  | dk (ks : List Key) (xs : List D)
  | obj (c : Str) (ns : List Str) (xs : List D)
  | exc (q : Addr × Addr) (ns : List Str) (xs : List D)
noncomputable instance : Inhabited D := ⟨.non⟩
variable {K : PySem.W.Frag}
mutual
noncomputable def Rp (K : PySem.W.Frag) (cl : Str → Option Addr) (F : Hp) : V → D → Prop
  | v, .non => v = .non
  | v, .bl b => v = .bl b
  | v, .int i => v = .int i
  | v, .str x => v = .str x
  | v, .ty n => v = .ty n
  | v, .exc q ns xs => v = .ref q.1 ∧ (ns = [] ∨ ∃ vs, F q.2 = some (.xd (ns.zip vs)) ∧ ns.length = vs.length ∧ Rps K cl F vs xs)
  | v, .lst xs => ∃ a vs, v = .ref a ∧ SqL K F a vs ∧ Rps K cl F vs xs
  | v, .tup xs => ∃ a vs, v = .ref a ∧ F a = some (.tup vs) ∧ Rps K cl F vs xs
  | v, .dk ks xs => ∃ a vs, v = .ref a ∧ F a = some (.dK (ks.zip vs)) ∧ ks.length = vs.length ∧ Rps K cl F vs xs
  | v, .obj c ns xs => ∃ a C dx vs, v = .ref a ∧ cl c = some C ∧ F a = some (.ins C dx (ns.zip vs)) ∧ ns.length = vs.length ∧ Rps K cl F vs xs
noncomputable def Rps (K : PySem.W.Frag) (cl : Str → Option Addr) (F : Hp) : List V → List D → Prop
  | vs, [] => vs = []
  | vs, x :: xs => ∃ v r, vs = v :: r ∧ Rp K cl F v x ∧ Rps K cl F r xs
end
noncomputable def Ex (H H' : Hp) : Prop := ∀ a o, H a = some o → H' a = some o
theorem Ex.refl (H : Hp) : Ex H H := fun _ _ h => h
theorem Ex.trans {H H1 H2 : Hp} (a : Ex H H1) (b : Ex H1 H2) : Ex H H2 := fun x o h => b x o (a x o h)
theorem Ex.new {H : Hp} {p : Addr} {o : HO} (h : H p = none) : Ex H (upd H p o) := fun a u e => by
  rw [upd_ne (ne_of_none e h)]; exact e
theorem ex_rd {H H' : Hp} {a : Addr} {u : HO} (e : Ex H H') (h : Rd H a u) : Rd H' a u := by
  rcases h with h | ⟨o, h⟩
  · exact Or.inl (e a _ h)
  · exact Or.inr ⟨o, e a _ h⟩
theorem ex_l {K : PySem.W.Frag} {H H' : Hp} {a : Addr} {xs : List V} (e : Ex H H') (h : SqL K H a xs) : SqL K H' a xs := by
  rcases h with h | h
  · exact Or.inl (ex_rd e h)
  · exact Or.inr h
theorem ex_t {K : PySem.W.Frag} {H H' : Hp} {a : Addr} {xs : List V} (e : Ex H H') (h : SqT K H a xs) : SqT K H' a xs := by
  rcases h with h | h
  · exact Or.inl (ex_rd e h)
  · exact Or.inr h
section
variable {cl : Str → Option Addr}
mutual
theorem Rp.mono {F F' : Hp} (e : Ex F F') : ∀ {v : V} {d : D}, Rp K cl F v d → Rp K cl F' v d
  | v, .non, h => by unfold Rp at h ⊢; exact h
  | v, .bl _, h => by unfold Rp at h ⊢; exact h
  | v, .int _, h => by unfold Rp at h ⊢; exact h
  | v, .str _, h => by unfold Rp at h ⊢; exact h
  | v, .ty _, h => by unfold Rp at h ⊢; exact h
  | v, .exc q ns xs, h => by
    unfold Rp at h ⊢
    obtain ⟨rfl, h⟩ := h
    rcases h with h | ⟨vs, h1, h2, h3⟩
    · exact ⟨rfl, .inl h⟩
    · exact ⟨rfl, .inr ⟨vs, e _ _ h1, h2, Rps.mono e h3⟩⟩
  | v, .lst xs, h => by
    unfold Rp at h ⊢
    obtain ⟨a, vs, rfl, h1, h2⟩ := h
    exact ⟨a, vs, rfl, ex_l e h1, Rps.mono e h2⟩
  | v, .tup xs, h => by
    unfold Rp at h ⊢
    obtain ⟨a, vs, rfl, h1, h2⟩ := h
    exact ⟨a, vs, rfl, e _ _ h1, Rps.mono e h2⟩
  | v, .dk ks xs, h => by
    unfold Rp at h ⊢
    obtain ⟨a, vs, rfl, h1, h2, h3⟩ := h
    exact ⟨a, vs, rfl, e _ _ h1, h2, Rps.mono e h3⟩
  | v, .obj c ns xs, h => by
    unfold Rp at h ⊢
    obtain ⟨a, C, dx, vs, rfl, h1, h2, h3, h4⟩ := h
    exact ⟨a, C, dx, vs, rfl, h1, e _ _ h2, h3, Rps.mono e h4⟩
theorem Rps.mono {F F' : Hp} (e : Ex F F') : ∀ {vs : List V} {ds : List D}, Rps K cl F vs ds → Rps K cl F' vs ds
  | vs, [], h => by unfold Rps at h ⊢; exact h
  | vs, x :: xs, h => by
    unfold Rps at h ⊢
    obtain ⟨v, r, rfl, h1, h2⟩ := h
    exact ⟨v, r, rfl, Rp.mono e h1, Rps.mono e h2⟩
end
theorem Rps.nil {F : Hp} : Rps K cl F [] [] := by unfold Rps; rfl
theorem Rps.cons {F : Hp} {v : V} {d : D} {vs : List V} {ds : List D} (h : Rp K cl F v d) (r : Rps K cl F vs ds) : Rps K cl F (v :: vs) (d :: ds) := by
  unfold Rps; exact ⟨v, vs, rfl, h, r⟩
theorem Rps.cons_inv {F : Hp} {vs : List V} {d : D} {ds : List D} (h : Rps K cl F vs (d :: ds)) : ∃ v r, vs = v :: r ∧ Rp K cl F v d ∧ Rps K cl F r ds := by
  unfold Rps at h; exact h
theorem Rps.nil_inv {F : Hp} {vs : List V} (h : Rps K cl F vs []) : vs = [] := by
  unfold Rps at h; exact h
theorem Rps.length {F : Hp} : ∀ {vs : List V} {ds : List D}, Rps K cl F vs ds → vs.length = ds.length
  | _, [], h => by rw [h.nil_inv]; rfl
  | _, d :: ds, h => by
    obtain ⟨v, r, rfl, _, h2⟩ := h.cons_inv
    rw [List.length_cons, List.length_cons, Rps.length h2]
theorem Rps.get {F : Hp} : ∀ {vs : List V} {ds : List D} {i : Nat} {d : D}, Rps K cl F vs ds → ds[i]? = some d → ∃ v, vs[i]? = some v ∧ Rp K cl F v d
  | _, [], i, d, h, e => by simp at e
  | _, d0 :: ds, 0, d, h, e => by
    obtain ⟨v, r, rfl, h1, h2⟩ := h.cons_inv
    simp at e; subst e
    exact ⟨v, rfl, h1⟩
  | _, d0 :: ds, i + 1, d, h, e => by
    obtain ⟨v, r, rfl, h1, h2⟩ := h.cons_inv
    have e' : ds[i]? = some d := by simpa using e
    obtain ⟨w, q1, q2⟩ := Rps.get h2 e'
    exact ⟨w, by simpa using q1, q2⟩
theorem Rps.append {F : Hp} : ∀ {vs ws : List V} {ds es : List D}, Rps K cl F vs ds → Rps K cl F ws es → Rps K cl F (vs ++ ws) (ds ++ es)
  | _, _, [], _, h, q => by rw [h.nil_inv]; exact q
  | _, _, d :: ds, _, h, q => by
    obtain ⟨v, r, rfl, h1, h2⟩ := h.cons_inv
    exact Rps.cons h1 (Rps.append h2 q)
theorem Rps.take {F : Hp} : ∀ {vs : List V} {ds : List D} (n : Nat), Rps K cl F vs ds → Rps K cl F (vs.take n) (ds.take n)
  | _, _, 0, h => by simp; exact Rps.nil
  | _, [], n + 1, h => by rw [h.nil_inv]; exact Rps.nil
  | _, d :: ds, n + 1, h => by
    obtain ⟨v, r, rfl, h1, h2⟩ := h.cons_inv
    exact Rps.cons h1 (Rps.take n h2)
theorem Rps.drop {F : Hp} : ∀ {vs : List V} {ds : List D} (n : Nat), Rps K cl F vs ds → Rps K cl F (vs.drop n) (ds.drop n)
  | _, _, 0, h => by simpa using h
  | _, [], n + 1, h => by rw [h.nil_inv]; exact Rps.nil
  | _, d :: ds, n + 1, h => by
    obtain ⟨v, r, rfl, h1, h2⟩ := h.cons_inv
    exact Rps.drop n h2
theorem Rps.set {F : Hp} : ∀ {vs : List V} {ds : List D} (n : Nat) {v : V} {d : D}, Rps K cl F vs ds → Rp K cl F v d → Rps K cl F (vs.set n v) (ds.set n d)
  | _, [], n, _, _, h, _ => by rw [h.nil_inv]; exact Rps.nil
  | _, d0 :: ds, 0, _, _, h, q => by
    obtain ⟨v, r, rfl, h1, h2⟩ := h.cons_inv
    exact Rps.cons q h2
  | _, d0 :: ds, n + 1, _, _, h, q => by
    obtain ⟨v, r, rfl, h1, h2⟩ := h.cons_inv
    exact Rps.cons h1 (Rps.set n h2 q)
theorem Rps.ints {F : Hp} : ∀ {ns : List Int}, Rps K cl F (ns.map V.int) (ns.map D.int)
  | [] => Rps.nil
  | n :: ns => Rps.cons (by unfold Rp; rfl) Rps.ints
end
inductive DO where
  | lst (xs : List D)
  | dK (ks : List Key) (xs : List D)
  | dT (ks : List (List Key)) (xs : List D)
  | ins (c : Str) (ns : List Str) (xs : List D)
/-- trees of objects of ours -/
inductive DT where
  | fz (d : D) | lst (ts : List DT) | tup (ts : List DT) | dk (ks : List Key) (ts : List DT) | ob (c : Str) (ns : List Str) (ts : List DT)
inductive Sl where
  | un | val (d : D) | own (o : DO) | tr (t : DT)
noncomputable abbrev En := List Sl
structure Exc where
  cls : Str
  ns : List Str
  xs : List D
inductive R (α : Type) where
  | ok (a : α) | er (x : Exc) | st
noncomputable def R.bind {α β : Type} : R α → (α → R β) → R β
  | .ok a, f => f a
  | .er x, _ => .er x
  | .st, _ => .st
noncomputable instance : Monad R where
  pure := .ok
  bind := R.bind
@[simp] theorem R.bind_ok {α β : Type} (a : α) (f : α → R β) : R.bind (.ok a) f = f a := id rfl
@[simp] theorem R.bind_er {α β : Type} (x : Exc) (f : α → R β) : R.bind (.er x) f = .er x := id rfl
@[simp] theorem R.bind_st {α β : Type} (f : α → R β) : R.bind .st f = .st := id rfl
noncomputable def HR (K : PySem.W.Frag) (cl : Str → Option Addr) (F : Hp) : HO → DO → Prop
  | ho, .lst xs => ∃ vs, ho = .lst vs ∧ Rps K cl F vs xs
  | ho, .dK ks xs => ∃ vs, ho = .dK (ks.zip vs) ∧ ks.length = vs.length ∧ Rps K cl F vs xs
  | ho, .dT ks xs => ∃ vs, ho = .dT (ks.zip vs) ∧ ks.length = vs.length ∧ Rps K cl F vs xs
  | ho, .ins c ns xs => ∃ C dx vs, cl c = some C ∧ ho = .ins C dx (ns.zip vs) ∧ ns.length = vs.length ∧ Rps K cl F vs xs
theorem HR.mono {cl : Str → Option Addr} {F F' : Hp} (e : Ex F F') : ∀ {ho : HO} {o : DO}, HR K cl F ho o → HR K cl F' ho o
  | _, .lst xs, ⟨vs, h1, h2⟩ => ⟨vs, h1, h2.mono e⟩
  | _, .dK ks xs, ⟨vs, h1, h2, h3⟩ => ⟨vs, h1, h2, h3.mono e⟩
  | _, .dT ks xs, ⟨vs, h1, h2, h3⟩ => ⟨vs, h1, h2, h3.mono e⟩
  | _, .ins c ns xs, ⟨C, dx, vs, h0, h1, h2, h3⟩ => ⟨C, dx, vs, h0, h1, h2, h3.mono e⟩
/-- the heap grows: F the frozen part of H -/
structure Grow (F H F' H' : Hp) : Prop where
  f : Ex F F'
  s : Ex F' H'
  h : Ex H H'
  n : ∀ p o, H p = some o → F p = none → F' p = none
theorem Grow.refl {F H : Hp} (e : Ex F H) : Grow F H F H := ⟨Ex.refl _, e, Ex.refl _, fun _ _ _ h => h⟩
theorem Grow.trans {F H F1 H1 F2 H2 : Hp} (a : Grow F H F1 H1) (b : Grow F1 H1 F2 H2) : Grow F H F2 H2 :=
  ⟨a.f.trans b.f, b.s, a.h.trans b.h, fun p o e z => b.n p o (a.h p o e) (a.n p o e z)⟩
mutual
noncomputable def Tr (K : PySem.W.Frag) (cl : Str → Option Addr) (F H : Hp) : V → DT → List Addr → Prop
  | v, .fz d, fp => fp = [] ∧ Rp K cl F v d
  | v, .lst ts, fp => ∃ a vs fq, v = .ref a ∧ H a = some (.lst vs) ∧ fp = a :: fq ∧ Trs K cl F H vs ts fq
  | v, .tup ts, fp => ∃ a vs fq, v = .ref a ∧ H a = some (.tup vs) ∧ fp = a :: fq ∧ Trs K cl F H vs ts fq
  | v, .dk ks ts, fp => ∃ a vs fq, v = .ref a ∧ H a = some (.dK (ks.zip vs)) ∧ ks.length = vs.length ∧ fp = a :: fq ∧ Trs K cl F H vs ts fq
  | v, .ob c ns ts, fp => ∃ a C dx vs fq, v = .ref a ∧ cl c = some C ∧ H a = some (.ins C dx (ns.zip vs)) ∧ ns.length = vs.length ∧ fp = a :: fq ∧ Trs K cl F H vs ts fq
noncomputable def Trs (K : PySem.W.Frag) (cl : Str → Option Addr) (F H : Hp) : List V → List DT → List Addr → Prop
  | vs, [], fp => vs = [] ∧ fp = []
  | vs, t :: ts, fp => ∃ v r f1 f2, vs = v :: r ∧ fp = f1 ++ f2 ∧ Tr K cl F H v t f1 ∧ Trs K cl F H r ts f2
end
section
variable {cl : Str → Option Addr} {F H F' H' : Hp}
mutual
theorem Tr.mono (e : Ex F F') : ∀ {v : V} {t : DT} {fp : List Addr}, Tr K cl F H v t fp → (∀ a ∈ fp, H' a = H a) → Tr K cl F' H' v t fp
  | v, .fz d, fp, h, _ => by unfold Tr at h ⊢; exact ⟨h.1, h.2.mono e⟩
  | v, .lst ts, fp, h, q => by
    unfold Tr at h ⊢
    obtain ⟨a, vs, fq, rfl, h1, rfl, h2⟩ := h
    exact ⟨a, vs, fq, rfl, by rw [q a (by simp)]; exact h1, rfl, Trs.mono e h2 fun b hb => q b (by simp [hb])⟩
  | v, .tup ts, fp, h, q => by
    unfold Tr at h ⊢
    obtain ⟨a, vs, fq, rfl, h1, rfl, h2⟩ := h
    exact ⟨a, vs, fq, rfl, by rw [q a (by simp)]; exact h1, rfl, Trs.mono e h2 fun b hb => q b (by simp [hb])⟩
  | v, .dk ks ts, fp, h, q => by
    unfold Tr at h ⊢
    obtain ⟨a, vs, fq, rfl, h1, hl, rfl, h2⟩ := h
    exact ⟨a, vs, fq, rfl, by rw [q a (by simp)]; exact h1, hl, rfl, Trs.mono e h2 fun b hb => q b (by simp [hb])⟩
  | v, .ob c ns ts, fp, h, q => by
    unfold Tr at h ⊢
    obtain ⟨a, C, dx, vs, fq, rfl, h0, h1, hl, rfl, h2⟩ := h
    exact ⟨a, C, dx, vs, fq, rfl, h0, by rw [q a (by simp)]; exact h1, hl, rfl, Trs.mono e h2 fun b hb => q b (by simp [hb])⟩
theorem Trs.mono (e : Ex F F') : ∀ {vs : List V} {ts : List DT} {fp : List Addr}, Trs K cl F H vs ts fp → (∀ a ∈ fp, H' a = H a) → Trs K cl F' H' vs ts fp
  | vs, [], fp, h, _ => by unfold Trs at h ⊢; exact h
  | vs, t :: ts, fp, h, q => by
    unfold Trs at h ⊢
    obtain ⟨v, r, f1, f2, rfl, rfl, h1, h2⟩ := h
    exact ⟨v, r, f1, f2, rfl, rfl, Tr.mono e h1 fun a ha => q a (by simp [ha]), Trs.mono e h2 fun a ha => q a (by simp [ha])⟩
end
mutual
theorem Tr.here : ∀ {v : V} {t : DT} {fp : List Addr}, Tr K cl F H v t fp → ∀ a ∈ fp, ∃ o, H a = some o
  | v, .fz d, fp, h, a, ha => by unfold Tr at h; rw [h.1] at ha; cases ha
  | v, .lst ts, fp, h, b, hb => by
    unfold Tr at h
    obtain ⟨a, vs, fq, rfl, h1, rfl, h2⟩ := h
    rcases List.mem_cons.mp hb with e | e
    · exact ⟨_, e ▸ h1⟩
    · exact Trs.here h2 b e
  | v, .tup ts, fp, h, b, hb => by
    unfold Tr at h
    obtain ⟨a, vs, fq, rfl, h1, rfl, h2⟩ := h
    rcases List.mem_cons.mp hb with e | e
    · exact ⟨_, e ▸ h1⟩
    · exact Trs.here h2 b e
  | v, .dk ks ts, fp, h, b, hb => by
    unfold Tr at h
    obtain ⟨a, vs, fq, rfl, h1, hl, rfl, h2⟩ := h
    rcases List.mem_cons.mp hb with e | e
    · exact ⟨_, e ▸ h1⟩
    · exact Trs.here h2 b e
  | v, .ob c ns ts, fp, h, b, hb => by
    unfold Tr at h
    obtain ⟨a, C, dx, vs, fq, rfl, h0, h1, hl, rfl, h2⟩ := h
    rcases List.mem_cons.mp hb with e | e
    · exact ⟨_, e ▸ h1⟩
    · exact Trs.here h2 b e
theorem Trs.here : ∀ {vs : List V} {ts : List DT} {fp : List Addr}, Trs K cl F H vs ts fp → ∀ a ∈ fp, ∃ o, H a = some o
  | vs, [], fp, h, a, ha => by unfold Trs at h; rw [h.2] at ha; cases ha
  | vs, t :: ts, fp, h, a, ha => by
    unfold Trs at h
    obtain ⟨v, r, f1, f2, rfl, rfl, h1, h2⟩ := h
    rcases List.mem_append.mp ha with e | e
    · exact Tr.here h1 a e
    · exact Trs.here h2 a e
end
mutual
theorem Tr.fn : ∀ {v : V} {t : DT} {fp fq : List Addr}, Tr K cl F H v t fp → Tr K cl F H v t fq → fp = fq
  | v, .fz d, fp, fq, h, k => by unfold Tr at h k; rw [h.1, k.1]
  | v, .lst ts, fp, fq, h, k => by
    unfold Tr at h k
    obtain ⟨a, vs, f1, rfl, h1, rfl, h2⟩ := h
    obtain ⟨b, us, f2, e, k1, rfl, k2⟩ := k
    cases e
    rw [h1] at k1; cases k1
    rw [Trs.fn h2 k2]
  | v, .tup ts, fp, fq, h, k => by
    unfold Tr at h k
    obtain ⟨a, vs, f1, rfl, h1, rfl, h2⟩ := h
    obtain ⟨b, us, f2, e, k1, rfl, k2⟩ := k
    cases e
    rw [h1] at k1; cases k1
    rw [Trs.fn h2 k2]
  | v, .dk ks ts, fp, fq, h, k => by
    unfold Tr at h k
    obtain ⟨a, vs, f1, rfl, h1, hl, rfl, h2⟩ := h
    obtain ⟨b, us, f2, e, k1, kl, rfl, k2⟩ := k
    cases e
    rw [h1] at k1
    have k1 : ks.zip vs = ks.zip us := by injection k1 with k1; injection k1
    have z1 : (ks.zip vs).map (·.2) = vs := List.map_snd_zip (by omega)
    have z2 : (ks.zip us).map (·.2) = us := List.map_snd_zip (by omega)
    have : vs = us := by rw [← z1, k1, z2]
    subst this
    rw [Trs.fn h2 k2]
  | v, .ob c ns ts, fp, fq, h, k => by
    unfold Tr at h k
    obtain ⟨a, C, dx, vs, f1, rfl, h0, h1, hl, rfl, h2⟩ := h
    obtain ⟨b, C', dx', us, f2, e, k0, k1, kl, rfl, k2⟩ := k
    cases e
    rw [h1] at k1
    have k1 : ns.zip vs = ns.zip us := by injection k1 with k1; injection k1
    have z1 : (ns.zip vs).map (·.2) = vs := List.map_snd_zip (by omega)
    have z2 : (ns.zip us).map (·.2) = us := List.map_snd_zip (by omega)
    have : vs = us := by rw [← z1, k1, z2]
    subst this
    rw [Trs.fn h2 k2]
theorem Trs.fn : ∀ {vs : List V} {ts : List DT} {fp fq : List Addr}, Trs K cl F H vs ts fp → Trs K cl F H vs ts fq → fp = fq
  | vs, [], fp, fq, h, k => by unfold Trs at h k; rw [h.2, k.2]
  | vs, t :: ts, fp, fq, h, k => by
    unfold Trs at h k
    obtain ⟨v, r, f1, f2, rfl, rfl, h1, h2⟩ := h
    obtain ⟨v', r', g1, g2, e, rfl, k1, k2⟩ := k
    cases e
    rw [Tr.fn h1 k1, Trs.fn h2 k2]
end
end
/-- the slots of trees: each at places of its own -/
noncomputable def TrOk (K : PySem.W.Frag) (cl : Str → Option Addr) (H0 F H : Hp) (σ : L2.St) (ρ : En) : Prop := ∃ ω : Nat → List Addr,
  (∀ (i : Nat) (t : DT), ρ[i]? = some (.tr t) → ∃ v, σ[i]? = some (some v) ∧ Tr K cl F H v t (ω i) ∧ (ω i).Nodup ∧ ∀ a ∈ ω i, F a = none ∧ H0 a = none) ∧
  (∀ (i j : Nat) (t t' : DT) (a : Addr), ρ[i]? = some (.tr t) → ρ[j]? = some (.tr t') → a ∈ ω i → a ∈ ω j → i = j) ∧
  (∀ (i j : Nat) (t : DT) (o : DO) (p : Addr), ρ[i]? = some (.tr t) → ρ[j]? = some (.own o) → σ[j]? = some (some (.ref p)) → p ∉ ω i)
theorem trOk_none {cl : Str → Option Addr} {H0 F H : Hp} {σ : L2.St} {ρ : En} (h : ∀ (i : Nat) (t : DT), ρ[i]? ≠ some (.tr t)) : TrOk K cl H0 F H σ ρ :=
  ⟨fun _ => [], fun i t e => absurd e (h i t), fun i _ t _ _ e => absurd e (h i t), fun i _ t _ _ e => absurd e (h i t)⟩
theorem TrOk.to {cl : Str → Option Addr} {H0 F H F' H' : Hp} {σ σ' : L2.St} {ρ ρ' : En} (T : TrOk K cl H0 F H σ ρ)
    (hρ : ∀ (i : Nat) (t : DT), ρ'[i]? = some (.tr t) → ρ[i]? = some (.tr t) ∧ σ'[i]? = σ[i]?)
    (ho : ∀ (j : Nat) (o : DO) (p : Addr), ρ'[j]? = some (.own o) → σ'[j]? = some (some (.ref p)) → (∃ o', ρ[j]? = some (.own o') ∧ σ[j]? = some (some (.ref p))) ∨ ∀ (i : Nat) (t : DT) (v : V) (fp : List Addr), ρ[i]? = some (.tr t) → σ[i]? = some (some v) → Tr K cl F H v t fp → p ∉ fp)
    (hF : Ex F F')
    (hH : ∀ (a : Addr) (u : HO), H a = some u → F a = none → H0 a = none → (∀ (j : Nat) (o : DO) (p : Addr), ρ[j]? = some (.own o) → σ[j]? = some (some (.ref p)) → a ≠ p) → H' a = H a ∧ F' a = none) : TrOk K cl H0 F' H' σ' ρ' := by
  obtain ⟨ω, h1, h2, h3⟩ := T
  refine ⟨ω, fun i t e => ?_, fun i j t t' a e1 e2 => h2 i j t t' a (hρ i t e1).1 (hρ j t' e2).1, fun i j t o p e1 e2 e3 hp => ?_⟩
  · obtain ⟨e1, e2⟩ := hρ i t e
    obtain ⟨v, q1, q2, q3, q4⟩ := h1 i t e1
    have at_ : ∀ a ∈ ω i, H' a = H a ∧ F' a = .none := fun a ha => by
      obtain ⟨u, hu⟩ := q2.here a ha
      obtain ⟨z1, z2⟩ := q4 a ha
      exact hH a u hu z1 z2 fun j o p w1 w2 w3 => h3 i j t o p e1 w1 w2 (w3 ▸ ha)
    exact ⟨v, by rw [e2]; exact q1, q2.mono hF fun a ha => (at_ a ha).1, q3, fun a ha => ⟨(at_ a ha).2, (q4 a ha).2⟩⟩
  · obtain ⟨w1, w2⟩ := hρ i t e1
    rcases ho j o p e2 e3 with ⟨o', z1, z2⟩ | z
    · exact h3 i j t o' p w1 z1 z2 hp
    · obtain ⟨v, q1, q2, _⟩ := h1 i t w1
      exact z i t v _ w1 q1 q2 hp
/-- the code of a context stands at (σ, H): ρ says what the slots hold; F is the frozen part; F0, H0 the entry -/
structure Sr (K : PySem.W.Frag) (cl : Str → Option Addr) (F0 H0 F H : Hp) (σ : L2.St) (ρ : En) : Prop where
  grow : Grow F0 H0 F H
  len : σ.length = ρ.length
  val : ∀ (i : Nat) (d : D), ρ[i]? = some (.val d) → ∃ v, σ[i]? = some (some v) ∧ Rp K cl F v d
  own : ∀ (i : Nat) (o : DO), ρ[i]? = some (.own o) → ∃ p ho, σ[i]? = some (some (.ref p)) ∧ F p = none ∧ H p = some ho ∧ HR K cl F ho o ∧ H0 p = none
  dis : ∀ (i j : Nat) (o o' : DO) (p : Addr), ρ[i]? = some (.own o) → ρ[j]? = some (.own o') → σ[i]? = some (some (.ref p)) → σ[j]? = some (some (.ref p)) → i = j
  tr : TrOk K cl H0 F H σ ρ
section
variable {cl : Str → Option Addr} {F0 H0 F H F' H' : Hp} {σ : L2.St} {ρ : En}
theorem Sr.ex (S : Sr K cl F0 H0 F H σ ρ) : Ex F H := S.grow.s
theorem Sr.mono (S : Sr K cl F0 H0 F H σ ρ) (g : Grow F H F' H') : Sr K cl F0 H0 F' H' σ ρ :=
  ⟨S.grow.trans g, S.len, fun i d e => let ⟨v, h1, h2⟩ := S.val i d e; ⟨v, h1, h2.mono g.f⟩,
    fun i o e => let ⟨p, ho, h1, h2, h3, h4, h5⟩ := S.own i o e; ⟨p, ho, h1, g.n p ho h3 h2, g.h _ _ h3, h4.mono g.f, h5⟩, S.dis,
    S.tr.to (fun _ _ e => ⟨e, rfl⟩) (fun j o p e1 e2 => .inl ⟨o, e1, e2⟩) g.f fun a u hu hf _ _ => ⟨(g.h a u hu).trans hu.symm, g.n a u hu hf⟩⟩
end
open PyProof.Rows
/-- nothing is let out -/
theorem takesN0 {X : Cx} : L2N.Takes X (fun _ _ _ _ => False) := fun _ _ ⟨_, _, _, _, _, _, _, _, _, _, _, _, _, _, _, _, z⟩ => z.elim
/-- a def that may raise, whatever it may let out -/
theorem okXN {CX : CXT} {P : Program} {w : World} {K : PySem.W.Frag} {mg : Str → Option Value} {base : Heap} {x qual : Str} {st : Stmt} {f : Addr} {fd : FuncData} {N ps : List Str} {k : Nat} {sp : Sp} (F : Fun K x qual st f fd) (S : FnScope N ps (defScope st))
    (hl : ∀ vs H Q E, sp vs H Q E → vs.length = ps.length)
    (hb : ∀ (cdv : Value) (A : Around) (outer : List Env) (s : Shared) (H : Hp) (vs : List V) (Q : VK) (E : XK), Room k (A.deeper (envOfC qual (defScope st) s.heap.objs.size f cdv)) → sp vs H Q E →
      ∃ t, PSs (cxOf CX P w K mg base N qual (defScope st) f cdv A outer s H E) (defBody st) t ∧ t { nx := fun _ H' => Q .non H', rt := Q } (L2.start N vs) H) : FnOk P w K mg base CX (k + 1) f fd ps sp := by
  obtain ⟨_, _, _, _, _, _, cdv, _, _, e, q1, q2⟩ := F.ex
  subst e
  exact fn_of q1 q2 S hl (hb cdv)
end UP
namespace UP
open PySem L2 PyProof.Rows
noncomputable def ExR (K : PySem.W.Frag) (cl : Str → Option Addr) (F : Hp) (x : Exc) (cls : Value) (dd : Option Addr) : Prop :=
  ∃ C, cl x.cls = some C ∧ cls = .ref C ∧ ((x.ns = [] ∧ dd = none) ∨ (x.ns ≠ [] ∧ ∃ d vs, dd = some d ∧ F d = some (.xd (x.ns.zip vs)) ∧ x.ns.length = vs.length ∧ Rps K cl F vs x.xs))
theorem ExR.mono {K : PySem.W.Frag} {cl : Str → Option Addr} {F F' : Hp} {x : Exc} {cls : Value} {dd : Option Addr} (e : Ex F F') (h : ExR K cl F x cls dd) : ExR K cl F' x cls dd := by
  obtain ⟨C, h1, h2, h3⟩ := h
  refine ⟨C, h1, h2, ?_⟩
  rcases h3 with h3 | ⟨hn, d, vs, a, b, c, r⟩
  · exact .inl h3
  · exact .inr ⟨hn, d, vs, a, e _ _ b, c, r.mono e⟩
noncomputable def Post (K : PySem.W.Frag) (cl : Str → Option Addr) (W : WX) (σ : L2.St) (F H : Hp) (Q : VK) : R D → Prop
  | .ok d => ∀ v F' H', Grow F H F' H' → Rp K cl F' v d → Q v H'
  | .er x => ∀ cls dd F' H', Grow F H F' H' → ExR K cl F' x cls dd → W cls dd σ H'
  | .st => False
noncomputable def PostA (K : PySem.W.Frag) (cl : Str → Option Addr) (W : WX) (σ : L2.St) (F H : Hp) (Q : List V → Hp → Prop) : R (List D) → Prop
  | .ok ds => ∀ vs F' H', Grow F H F' H' → Rps K cl F' vs ds → Q vs H'
  | .er x => ∀ cls dd F' H', Grow F H F' H' → ExR K cl F' x cls dd → W cls dd σ H'
  | .st => False
noncomputable def PostT (K : PySem.W.Frag) (cl : Str → Option Addr) (W : WX) (σ : L2.St) (F H : Hp) (Q : Bool → Hp → Prop) : R Bool → Prop
  | .ok b => ∀ F' H', Grow F H F' H' → Q b H'
  | .er x => ∀ cls dd F' H', Grow F H F' H' → ExR K cl F' x cls dd → W cls dd σ H'
  | .st => False
noncomputable def SqB (K : PySem.W.Frag) (b : Bool) (H : Hp) (a : Addr) (vs : List V) : Prop := if b = true then SqL K H a vs else SqT K H a vs
theorem SqB.mono {K : PySem.W.Frag} {b : Bool} {H H' : Hp} {a : Addr} {vs : List V} (e : Ex H H') (h : SqB K b H a vs) : SqB K b H' a vs := by
  cases b with
  | true => exact ex_l e h
  | false => exact ex_t e h
theorem SqB.or {K : PySem.W.Frag} {b : Bool} {H : Hp} {a : Addr} {vs : List V} (h : SqB K b H a vs) : SqL K H a vs ∨ SqT K H a vs := by
  cases b with
  | true => exact .inl h
  | false => exact .inr h
noncomputable def PostL (K : PySem.W.Frag) (cl : Str → Option Addr) (W : WX) (σ : L2.St) (F H : Hp) (Q : VK) : R (Bool × List D) → Prop
  | .ok (b, xs) => ∀ a vs F' H', Grow F H F' H' → SqB K b H' a vs → Rps K cl F' vs xs → Q (.ref a) H'
  | .er x => ∀ cls dd F' H', Grow F H F' H' → ExR K cl F' x cls dd → W cls dd σ H'
  | .st => False
noncomputable def PostN (K : PySem.W.Frag) (cl : Str → Option Addr) (W : WX) (σ : L2.St) (F H : Hp) (Q : VK) : R DO → Prop
  | .ok o => ∀ p ho F' H', Grow F H F' H' → H p = none → F' p = none → H' p = some ho → HR K cl F' ho o → Q (.ref p) H'
  | .er x => ∀ cls dd F' H', Grow F H F' H' → ExR K cl F' x cls dd → W cls dd σ H'
  | .st => False
structure UE (X : Cx) (cl : Str → Option Addr) (W : WX) (e : Expr) (te : TE) (me : En → R D) : Prop where
  pe : PE X e te
  es : ∀ F0 H0 F H σ ρ Q, Sr X.K cl F0 H0 F H σ ρ → Post X.K cl W σ F H Q (me ρ) → te σ H Q
structure UL (X : Cx) (cl : Str → Option Addr) (W : WX) (e : Expr) (te : TE) (me : En → R (Bool × List D)) : Prop where
  pe : PE X e te
  es : ∀ F0 H0 F H σ ρ Q, Sr X.K cl F0 H0 F H σ ρ → PostL X.K cl W σ F H Q (me ρ) → te σ H Q
structure UN (X : Cx) (cl : Str → Option Addr) (W : WX) (e : Expr) (te : TE) (me : En → R DO) : Prop where
  pe : PE X e te
  es : ∀ F0 H0 F H σ ρ Q, Sr X.K cl F0 H0 F H σ ρ → PostN X.K cl W σ F H Q (me ρ) → te σ H Q
structure UT (X : Cx) (cl : Str → Option Addr) (W : WX) (e : Expr) (te : TT) (me : En → R Bool) : Prop where
  pe : PT X e te
  es : ∀ F0 H0 F H σ ρ Q, Sr X.K cl F0 H0 F H σ ρ → PostT X.K cl W σ F H Q (me ρ) → te σ H Q
/-- and, or: a test whatever its whole is -/
structure UW (X : Cx) (cl : Str → Option Addr) (W : WX) (e : Expr) (te : TT) (me : En → R Bool) : Prop where
  pe : PW X e te
  es : ∀ F0 H0 F H σ ρ Q, Sr X.K cl F0 H0 F H σ ρ → PostT X.K cl W σ F H Q (me ρ) → te σ H Q
structure UA (X : Cx) (cl : Str → Option Addr) (W : WX) (es : List Expr) (ta : TA) (ma : En → R (List D)) : Prop where
  pe : PA X es ta
  es : ∀ F0 H0 F H σ ρ Q, Sr X.K cl F0 H0 F H σ ρ → PostA X.K cl W σ F H Q (ma ρ) → ta σ H Q
section
variable {X : Cx} {cl : Str → Option Addr} {W : WX} {K : PySem.W.Frag} {σ : L2.St} {F H F' H' : Hp}
theorem Post.grow {Q : VK} {r : R D} (h : Post K cl W σ F H Q r) (g : Grow F H F' H') : Post K cl W σ F' H' Q r := by
  cases r with
  | ok d => exact fun v F2 H2 g2 q => h v F2 H2 (g.trans g2) q
  | er x => exact fun c d F2 H2 g2 q => h c d F2 H2 (g.trans g2) q
  | st => exact h
theorem PostA.grow {Q : List V → Hp → Prop} {r : R (List D)} (h : PostA K cl W σ F H Q r) (g : Grow F H F' H') : PostA K cl W σ F' H' Q r := by
  cases r with
  | ok d => exact fun v F2 H2 g2 q => h v F2 H2 (g.trans g2) q
  | er x => exact fun c d F2 H2 g2 q => h c d F2 H2 (g.trans g2) q
  | st => exact h
theorem PostT.grow {Q : Bool → Hp → Prop} {r : R Bool} (h : PostT K cl W σ F H Q r) (g : Grow F H F' H') : PostT K cl W σ F' H' Q r := by
  cases r with
  | ok d => exact fun F2 H2 g2 => h F2 H2 (g.trans g2)
  | er x => exact fun c d F2 H2 g2 q => h c d F2 H2 (g.trans g2) q
  | st => exact h
theorem PostL.grow {Q : VK} {r : R (Bool × List D)} (h : PostL K cl W σ F H Q r) (g : Grow F H F' H') : PostL K cl W σ F' H' Q r := by
  cases r with
  | ok d => exact fun a vs F2 H2 g2 q => h a vs F2 H2 (g.trans g2) q
  | er x => exact fun c d F2 H2 g2 q => h c d F2 H2 (g.trans g2) q
  | st => exact h
theorem PostN.grow {Q : VK} {r : R DO} (h : PostN K cl W σ F H Q r) (g : Grow F H F' H') (hn : ∀ p, H' p = none → H p = none) : PostN K cl W σ F' H' Q r := by
  cases r with
  | ok d => exact fun p ho F2 H2 g2 q => h p ho F2 H2 (g.trans g2) (hn p q)
  | er x => exact fun c d F2 H2 g2 q => h c d F2 H2 (g.trans g2) q
  | st => exact h
theorem Grow.old (g : Grow F H F' H') : ∀ p, H' p = none → H p = none := fun p e => by
  cases q : H p with
  | none => rfl
  | some o => rw [g.h p o q] at e; cases e
theorem Post.here {Q : VK} {d : D} {v : V} (h : Post K cl W σ F H Q (.ok d)) (e : Ex F H) (r : Rp K cl F v d) : Q v H := h v F H (Grow.refl e) r
/-- a new object is laid, frozen -/
theorem Grow.lay {p : Addr} {o : HO} (e : Ex F H) (hp : H p = none) : Grow F H (upd F p o) (upd H p o) := by
  have fp : F p = none := by
    cases q : F p with
    | none => rfl
    | some u => rw [e p u q] at hp; cases hp
  refine ⟨Ex.new fp, fun a u q => ?_, Ex.new hp, fun a u q z => ?_⟩
  · by_cases h : a = p
    · subst h; rw [upd_same] at q ⊢; exact q
    · rw [upd_ne h] at q ⊢; exact e a u q
  · rw [upd_ne (ne_of_none q hp)]; exact z
/-- a new object is laid, ours -/
theorem Grow.lay' {p : Addr} {o : HO} (e : Ex F H) (hp : H p = none) : Grow F H F (upd H p o) :=
  ⟨Ex.refl _, fun a u q => by rw [upd_ne (ne_of_none (e a u q) hp)]; exact e a u q, Ex.new hp, fun _ _ _ z => z⟩
theorem Grow.fnone (e : Ex F H) {p : Addr} (hp : H p = none) : F p = none := by
  cases q : F p with
  | none => rfl
  | some u => rw [e p u q] at hp; cases hp
/-- ours becomes frozen -/
theorem Grow.freeze {p : Addr} {o : HO} (g : Grow F H F' H') (h0 : H p = none) (hf : F' p = none) (hp : H' p = some o) : Grow F H (upd F' p o) H' := by
  refine ⟨g.f.trans (Ex.new hf), fun a u q => ?_, g.h, fun a u q z => ?_⟩
  · by_cases h : a = p
    · subst h; rw [upd_same] at q; rw [hp]; exact q
    · rw [upd_ne h] at q; exact g.s a u q
  · rw [upd_ne (ne_of_none q h0)]; exact g.n a u q z
noncomputable def dVar (i : Nat) : En → R D := fun ρ => match ρ[i]? with
  | some (.val d) => .ok d
  | _ => .st
noncomputable def dC (d : D) : En → R D := fun _ => .ok d
theorem ue_var {e : Expr} {i : Nat} (h : PE X e (tVar i)) : UE X cl W e (tVar i) (dVar i) := by
  refine ⟨h, fun F0 H0 F H σ ρ Q S p => ?_⟩
  unfold dVar at p
  split at p
  · rename_i d hd
    obtain ⟨v, h1, h2⟩ := S.val i d hd
    exact ⟨v, h1, p.here S.ex h2⟩
  · exact False.elim p
theorem ue_c {e : Expr} {v : V} {d : D} (h : PE X e (tC v)) (r : ∀ F, Rp X.K cl F v d) : UE X cl W e (tC v) (dC d) :=
  ⟨h, fun F0 H0 F H σ ρ Q S p => p.here S.ex (r F)⟩
theorem ue_int {i : Int} {j pos} : UE X cl W (.Constant (.int i) j pos) (tC (.int i)) (dC (.int i)) := ue_c pe_int fun F => by unfold Rp; rfl
theorem ue_bl {b j pos} : UE X cl W (.Constant (.bool b) j pos) (tC (.bl b)) (dC (.bl b)) := ue_c pe_bl fun F => by unfold Rp; rfl
theorem ue_non {j pos} : UE X cl W (.Constant .none j pos) (tC .non) (dC .non) := ue_c pe_non fun F => by unfold Rp; rfl
theorem ue_str {x j pos} : UE X cl W (.Constant (.str x) j pos) (tC (.str x)) (dC (.str x)) := ue_c pe_str fun F => by unfold Rp; rfl
noncomputable def d2 {α β γ : Type} (f : α → β → R γ) (a : En → R α) (b : En → R β) : En → R γ := fun ρ => (a ρ).bind fun x => (b ρ).bind fun y => f x y
noncomputable def d1 {α γ : Type} (f : α → R γ) (a : En → R α) : En → R γ := fun ρ => (a ρ).bind f
/-- an operation of two values -/
noncomputable def Op2 (K : PySem.W.Frag) (cl : Str → Option Addr) (r : R2) (f : D → D → R D) : Prop :=
  ∀ (W : WX) (σ : L2.St) (F H : Hp) (x y : V) (dx dy : D) (Q : VK), Ex F H → Rp K cl F x dx → Rp K cl F y dy → Post K cl W σ F H Q (f dx dy) → r x y H Q
theorem es_op {ta tb : TE} {ma mb : En → R D} {r : R2} {f : D → D → R D}
    (ha : ∀ F0 H0 F H σ ρ Q, Sr K cl F0 H0 F H σ ρ → Post K cl W σ F H Q (ma ρ) → ta σ H Q) (hb : ∀ F0 H0 F H σ ρ Q, Sr K cl F0 H0 F H σ ρ → Post K cl W σ F H Q (mb ρ) → tb σ H Q) (hf : Op2 K cl r f) :
    ∀ F0 H0 F H σ ρ Q, Sr K cl F0 H0 F H σ ρ → Post K cl W σ F H Q (d2 f ma mb ρ) → tOp r ta tb σ H Q := by
  intro F0 H0 F H σ ρ Q S p
  unfold d2 at p
  refine ha F0 H0 F H σ ρ _ S ?_
  cases e : ma ρ with
  | st => rw [e] at p; exact p
  | er x => rw [e] at p; exact p
  | ok dx =>
    rw [e] at p
    intro x F1 H1 g1 r1
    refine hb F0 H0 F1 H1 σ ρ _ (S.mono g1) ?_
    cases e2 : mb ρ with
    | st => rw [R.bind_ok, e2] at p; exact p
    | er x => rw [R.bind_ok, e2] at p; exact fun c d F2 H2 g2 q => p c d F2 H2 (g1.trans g2) q
    | ok dy =>
      rw [R.bind_ok, e2, R.bind_ok] at p
      intro y F2 H2 g2 r2
      exact hf W σ F2 H2 x y dx dy Q g2.s (r1.mono g2.f) r2 (p.grow (g1.trans g2))
theorem ue_op {a b : Expr} {ta tb : TE} {ma mb : En → R D} {op : Operator} {r : R2} {f : D → D → R D} {pos : Pos} (ho : OpR X (binaryOp op) r) (hf : Op2 X.K cl r f) (ha : UE X cl W a ta ma) (hb : UE X cl W b tb mb) :
    UE X cl W (.BinOp a op b pos) (tOp r ta tb) (d2 f ma mb) := ⟨pe_op ho ha.pe hb.pe, es_op ha.es hb.es hf⟩
theorem ue_cmp {a b : Expr} {ta tb : TE} {ma mb : En → R D} {op : CmpOp} {r : R2} {f : D → D → R D} {pos : Pos} (ho : OpR X (compareOp op) r) (hf : Op2 X.K cl r f) (ha : UE X cl W a ta ma) (hb : UE X cl W b tb mb) (hm : behindInMarks op b = false) :
    UE X cl W (.Compare a [op] [b] pos) (tOp r ta tb) (d2 f ma mb) := ⟨pe_cmpR ho ha.pe hb.pe hm, es_op ha.es hb.es hf⟩
/-- ints -/
noncomputable def dI (C : Int → Int → Prop) [∀ i j, Decidable (C i j)] (g : Int → Int → D) : D → D → R D
  | .int i, .int j => if C i j then .ok (g i j) else .st
  | _, _ => .st
noncomputable def dI0 (g : Int → Int → D) : D → D → R D
  | .int i, .int j => .ok (g i j)
  | _, _ => .st
theorem op2_I {C : Int → Int → Prop} [∀ i j, Decidable (C i j)] {g : Int → Int → V} {g' : Int → Int → D} (h : ∀ F i j, Rp K cl F (g i j) (g' i j)) : Op2 K cl (rI C g) (dI C g') := by
  intro W σ F H x y dx dy Q e rx ry p
  cases dx <;> cases dy <;> try exact False.elim p
  unfold Rp at rx ry
  subst rx ry
  rename_i i j
  have p' : Post K cl W σ F H Q (if C i j then .ok (g' i j) else .st) := p
  by_cases c : C i j
  · rw [if_pos c] at p'
    exact ⟨_, _, rfl, rfl, c, p'.here e (h F _ _)⟩
  · rw [if_neg c] at p'
    exact False.elim p'
theorem op2_I0 {g : Int → Int → V} {g' : Int → Int → D} (h : ∀ F i j, Rp K cl F (g i j) (g' i j)) : Op2 K cl (rI0 g) (dI0 g') := by
  intro W σ F H x y dx dy Q e rx ry p
  cases dx <;> cases dy <;> try exact False.elim p
  unfold Rp at rx ry
  subst rx ry
  exact ⟨_, _, rfl, rfl, Post.here (W := W) (σ := σ) p e (h F _ _)⟩
noncomputable instance {i j : Int} : Decidable (CDiv i j) := by unfold CDiv; infer_instance
noncomputable instance {i j : Int} : Decidable (CDivN i j) := by unfold CDivN; infer_instance
noncomputable instance {i j : Int} : Decidable (CPow i j) := by unfold CPow; infer_instance
noncomputable instance {i j : Int} : Decidable (CMul i j) := by unfold CMul; infer_instance
noncomputable instance {i j : Int} : Decidable (CDivW i j) := by unfold CDivW; infer_instance
noncomputable instance {i j : Int} : Decidable (CMulW i j) := by unfold CMulW; infer_instance
noncomputable def CMulA (i j : Int) : Prop := CMul i j ∨ CMulW i j
noncomputable instance {i j : Int} : Decidable (CMulA i j) := by unfold CMulA; infer_instance
/-- .. by a divisor of either sign -/
noncomputable def CDivM (_ j : Int) : Prop := j ≠ 0 ∧ j.natAbs.log2 < 9000
noncomputable instance {i j : Int} : Decidable (CDivM i j) := by unfold CDivM; infer_instance
noncomputable def CDivA (i j : Int) : Prop := CDivN i j ∨ CDivW i j ∨ CDivM i j
noncomputable instance {i j : Int} : Decidable (CDivA i j) := by unfold CDivA; infer_instance
theorem op_mulA : OpR X (binaryOp .Mult) (rI CMulA fun i j => .int (i * j)) := opI fun _ _ _ _ _ _ _ hc q => mul_int q (hc.elim (fun h => h.ok) fun h => h.ok)
theorem op_fdivA : OpR X (binaryOp .FloorDiv) (rI CDivA fun i j => .int (i.fdiv j)) := opI fun i j _ _ _ _ _ hc q => by
  rcases hc with hc | hc
  · exact floordiv_int hc.1 q (.inl (PyProof.noPylong_small hc.2))
  · have h1 : j ≠ 0 ∧ j.natAbs.log2 < 9000 := hc.elim (fun h => ⟨by have := h.1; omega, h.2⟩) id
    exact floordiv_int h1.1 q (.inl (PyProof.noPylong_of_log2 h1.2))
end
end UP
namespace UP
open PySem L2 PyProof.Rows
section
variable {X : Cx} {cl : Str → Option Addr} {W : WX} {K : PySem.W.Frag} {σ : L2.St} {F H F' H' : Hp}
noncomputable def dFz : DO → R D
  | .lst xs => .ok (.lst xs)
  | .dK ks xs => .ok (.dk ks xs)
  | .ins c ns xs => .ok (.obj c ns xs)
  | .dT _ _ => .st
theorem rp_fz {p : Addr} {ho : HO} {o : DO} {d : D} (h : HR K cl F ho o) (hp : F p = none) (e : dFz o = .ok d) : Rp K cl (upd F p ho) (.ref p) d := by
  have m := Ex.new (o := ho) hp
  cases o with
  | lst xs =>
    cases e
    obtain ⟨vs, rfl, h2⟩ := h
    unfold Rp
    exact ⟨p, vs, rfl, SqL.of upd_same, h2.mono m⟩
  | dK ks xs =>
    cases e
    obtain ⟨vs, rfl, h1, h2⟩ := h
    unfold Rp
    exact ⟨p, vs, rfl, upd_same, h1, h2.mono m⟩
  | dT ks xs => cases e
  | ins c ns xs =>
    cases e
    obtain ⟨C, dx, vs, h0, rfl, h1, h2⟩ := h
    unfold Rp
    exact ⟨p, C, dx, vs, rfl, h0, upd_same, h1, h2.mono m⟩
theorem UN.e {e : Expr} {te : TE} {me : En → R DO} (h : UN X cl W e te me) : UE X cl W e te (d1 dFz me) := by
  refine ⟨h.pe, fun F0 H0 F H σ ρ Q S p => h.es F0 H0 F H σ ρ Q S ?_⟩
  unfold d1 at p
  cases e : me ρ with
  | st => rw [e] at p; exact p
  | er x => rw [e] at p; exact p
  | ok o =>
    rw [e, R.bind_ok] at p
    intro q ho F1 H1 g h0 h1 h2 hr
    cases e2 : dFz o with
    | st => rw [e2] at p; exact p.elim
    | er x => cases o <;> cases e2
    | ok d =>
      rw [e2] at p
      exact p _ _ _ (g.freeze h0 h1 h2) (rp_fz hr h1 e2)
noncomputable def dSq : D → R (Bool × List D)
  | .lst xs => .ok (true, xs)
  | .tup xs => .ok (false, xs)
  | _ => .st
theorem UE.l {e : Expr} {te : TE} {me : En → R D} (h : UE X cl W e te me) : UL X cl W e te (d1 dSq me) := by
  refine ⟨h.pe, fun F0 H0 F H σ ρ Q S p => h.es F0 H0 F H σ ρ Q S ?_⟩
  unfold d1 at p
  cases e : me ρ with
  | st => rw [e] at p; exact p
  | er x => rw [e] at p; exact p
  | ok d =>
    rw [e, R.bind_ok] at p
    intro v F1 H1 g r
    cases d with
    | lst xs =>
      unfold Rp at r
      obtain ⟨a, vs, rfl, h1, h2⟩ := r
      exact p a vs F1 H1 g (ex_l g.s h1) h2
    | tup xs =>
      unfold Rp at r
      obtain ⟨a, vs, rfl, h1, h2⟩ := r
      exact p a vs F1 H1 g (SqT.of (g.s _ _ h1)) h2
    | _ => exact p.elim
noncomputable def dOl : DO → R (Bool × List D)
  | .lst xs => .ok (true, xs)
  | _ => .st
theorem UN.l {e : Expr} {te : TE} {me : En → R DO} (h : UN X cl W e te me) : UL X cl W e te (d1 dOl me) := by
  refine ⟨h.pe, fun F0 H0 F H σ ρ Q S p => h.es F0 H0 F H σ ρ Q S ?_⟩
  unfold d1 at p
  cases e : me ρ with
  | st => rw [e] at p; exact p
  | er x => rw [e] at p; exact p
  | ok o =>
    rw [e, R.bind_ok] at p
    intro q ho F1 H1 g h0 h1 h2 hr
    cases o with
    | lst xs =>
      obtain ⟨vs, rfl, h3⟩ := hr
      exact p q vs F1 H1 g (SqL.of h2) h3
    | _ => exact p.elim
/-- the list that a slot holds, frozen or ours -/
noncomputable def dLv (i : Nat) : En → R (Bool × List D) := fun ρ => match ρ[i]? with
  | some (.val (.lst xs)) => .ok (true, xs)
  | some (.val (.tup xs)) => .ok (false, xs)
  | some (.own (.lst xs)) => .ok (true, xs)
  | _ => .st
theorem ul_var {e : Expr} {i : Nat} (h : PE X e (tVar i)) : UL X cl W e (tVar i) (dLv i) := by
  refine ⟨h, fun F0 H0 F H σ ρ Q S p => ?_⟩
  unfold dLv at p
  split at p
  · rename_i xs hd
    obtain ⟨v, h1, h2⟩ := S.val i _ hd
    unfold Rp at h2
    obtain ⟨a, vs, rfl, h3, h4⟩ := h2
    exact ⟨_, h1, p a vs F H (Grow.refl S.ex) (ex_l S.ex h3) h4⟩
  · rename_i xs hd
    obtain ⟨v, h1, h2⟩ := S.val i _ hd
    unfold Rp at h2
    obtain ⟨a, vs, rfl, h3, h4⟩ := h2
    exact ⟨_, h1, p a vs F H (Grow.refl S.ex) (SqT.of (S.ex _ _ h3)) h4⟩
  · rename_i xs hd
    obtain ⟨q, ho, h1, h2, h3, ⟨vs, rfl, h4⟩, h5⟩ := S.own i _ hd
    exact ⟨_, h1, p q vs F H (Grow.refl S.ex) (SqL.of h3) h4⟩
  · exact False.elim p
noncomputable def dNil : En → R (List D) := fun _ => .ok []
theorem ua_nil : UA X cl W [] tNil dNil := ⟨pa_nil, fun F0 H0 F H σ ρ Q S p => p _ F H (Grow.refl S.ex) Rps.nil⟩
noncomputable def dCons (a : En → R D) (b : En → R (List D)) : En → R (List D) := d2 (fun x xs => .ok (x :: xs)) a b
theorem ua_cons {e : Expr} {es : List Expr} {te : TE} {t : TA} {me : En → R D} {ma : En → R (List D)} (h : UE X cl W e te me) (hr : UA X cl W es t ma) (hs : starEach (e :: es) X.env = (false, eval e X.env) :: starEach es X.env := by rfl) :
    UA X cl W (e :: es) (tCons te t) (dCons me ma) := by
  refine ⟨pa_cons h.pe hr.pe hs, fun F0 H0 F H σ ρ Q S p => ?_⟩
  unfold dCons d2 at p
  refine h.es F0 H0 F H σ ρ _ S ?_
  cases e1 : me ρ with
  | st => rw [e1] at p; exact p
  | er x => rw [e1] at p; exact p
  | ok dx =>
    rw [e1, R.bind_ok] at p
    intro x F1 H1 g1 r1
    refine hr.es F0 H0 F1 H1 σ ρ _ (S.mono g1) ?_
    cases e2 : ma ρ with
    | st => rw [e2] at p; exact p
    | er x => rw [e2] at p; exact fun c d F2 H2 g2 q => p c d F2 H2 (g1.trans g2) q
    | ok dy =>
      rw [e2, R.bind_ok] at p
      exact fun ys F2 H2 g2 r2 => p _ F2 H2 (g1.trans g2) (Rps.cons (r1.mono g2.f) r2)
/-- one argument that is looked at: a list's content -/
structure UAL (X : Cx) (cl : Str → Option Addr) (W : WX) (es : List Expr) (ta : TA) (ml : En → R (Bool × List D)) : Prop where
  pe : PA X es ta
  es : ∀ F0 H0 F H σ ρ (Q : List V → Hp → Prop), Sr X.K cl F0 H0 F H σ ρ → PostL X.K cl W σ F H (fun v H' => Q [v] H') (ml ρ) → ta σ H Q
theorem ual {e : Expr} {te : TE} {ml : En → R (Bool × List D)} (h : UL X cl W e te ml) (hs : starEach [e] X.env = (false, eval e X.env) :: starEach [] X.env := by rfl) : UAL X cl W [e] (tCons te tNil) ml :=
  ⟨pa_cons h.pe pa_nil hs, fun F0 H0 F H σ ρ Q S p => h.es F0 H0 F H σ ρ _ S p⟩
noncomputable def SZ : Nat := 16777216
theorem sz_le {n : Nat} (h : n ≤ SZ) : n ≤ sizeLine := by rw [sizeLine_eq]; exact h
theorem sz_lt {n : Nat} (h : n < SZ) : n < sizeLine := by rw [sizeLine_eq]; exact h
noncomputable def dMkT : List D → R D := fun ds => if ds.length ≤ SZ then .ok (.tup ds) else .st
noncomputable def dMkL : List D → R DO := fun ds => if ds.length ≤ SZ then .ok (.lst ds) else .st
theorem ue_tup {es : List Expr} {t : TA} {ma : En → R (List D)} {x1 pos} (h : UA X cl W es t ma) : UE X cl W (.Tuple es x1 pos) (tTup t) (d1 dMkT ma) := by
  refine ⟨pe_tup h.pe, fun F0 H0 F H σ ρ Q S p => h.es F0 H0 F H σ ρ _ S ?_⟩
  unfold d1 at p
  cases e : ma ρ with
  | st => rw [e] at p; exact p
  | er x => rw [e] at p; exact p
  | ok ds =>
    rw [e, R.bind_ok] at p
    unfold dMkT at p
    split at p
    · rename_i hz
      intro vs F1 H1 g r
      refine ⟨by rw [r.length]; exact sz_le hz, fun q hq => ?_⟩
      have g2 := Grow.lay (o := .tup vs) g.s hq
      refine p _ _ _ (g.trans g2) ?_
      unfold Rp
      exact ⟨q, vs, rfl, upd_same, r.mono g2.f⟩
    · exact p.elim
theorem un_lst {es : List Expr} {t : TA} {ma : En → R (List D)} {pos} (h : UA X cl W es t ma) : UN X cl W (.List es pos) (tLst t) (d1 dMkL ma) := by
  refine ⟨pe_lst h.pe, fun F0 H0 F H σ ρ Q S p => h.es F0 H0 F H σ ρ _ S ?_⟩
  unfold d1 at p
  cases e : ma ρ with
  | st => rw [e] at p; exact p
  | er x => rw [e] at p; exact p
  | ok ds =>
    rw [e, R.bind_ok] at p
    unfold dMkL at p
    split at p
    · rename_i hz
      intro vs F1 H1 g r
      refine ⟨by rw [r.length]; exact sz_le hz, fun q hq => ?_⟩
      exact p q (.lst vs) F1 _ (g.trans (Grow.lay' g.s hq)) (g.old q hq) (Grow.fnone g.s hq) upd_same ⟨vs, rfl, r⟩
    · exact p.elim
noncomputable def CaR (K : PySem.W.Frag) (cl : Str → Option Addr) (r : List V → Hp → VK → Prop) (f : List D → R D) : Prop :=
  ∀ (W : WX) (σ : L2.St) (F H : Hp) (vs : List V) (ds : List D) (Q : VK), Ex F H → Rps K cl F vs ds → Post K cl W σ F H Q (f ds) → r vs H Q
noncomputable def CaL (K : PySem.W.Frag) (cl : Str → Option Addr) (r : List V → Hp → VK → Prop) (f : Bool × List D → R D) : Prop :=
  ∀ (W : WX) (σ : L2.St) (F H : Hp) (a : Addr) (vs : List V) (b : Bool) (ds : List D) (Q : VK), Ex F H → SqB K b H a vs → Rps K cl F vs ds → Post K cl W σ F H Q (f (b, ds)) → r [.ref a] H Q
noncomputable def CaN (K : PySem.W.Frag) (cl : Str → Option Addr) (r : List V → Hp → VK → Prop) (f : Bool × List D → R DO) : Prop :=
  ∀ (W : WX) (σ : L2.St) (F H : Hp) (a : Addr) (vs : List V) (b : Bool) (ds : List D) (Q : VK), Ex F H → SqB K b H a vs → Rps K cl F vs ds → PostN K cl W σ F H Q (f (b, ds)) → r [.ref a] H Q
variable {r : List V → Hp → VK → Prop} {x : Str} {p pos : Pos} {e : Expr} {es : List Expr} {t : TA} {id T : String}
theorem es_ca {ma : En → R (List D)} {f : List D → R D} (h : ∀ F0 H0 F H σ ρ Q, Sr K cl F0 H0 F H σ ρ → PostA K cl W σ F H Q (ma ρ) → t σ H Q) (hf : CaR K cl r f) :
    ∀ F0 H0 F H σ ρ Q, Sr K cl F0 H0 F H σ ρ → Post K cl W σ F H Q (d1 f ma ρ) → tCB r t σ H Q := by
  intro F0 H0 F H σ ρ Q S p
  unfold d1 at p
  refine h F0 H0 F H σ ρ _ S ?_
  cases e : ma ρ with
  | st => rw [e] at p; exact p
  | er x => rw [e] at p; exact p
  | ok ds =>
    rw [e, R.bind_ok] at p
    exact fun vs F1 H1 g r1 => hf W σ F1 H1 vs ds Q g.s r1 (p.grow g)
theorem es_cal {ml : En → R (Bool × List D)} {f : Bool × List D → R D} (h : ∀ F0 H0 F H σ ρ (Q : List V → Hp → Prop), Sr K cl F0 H0 F H σ ρ → PostL K cl W σ F H (fun v H' => Q [v] H') (ml ρ) → t σ H Q) (hf : CaL K cl r f) :
    ∀ F0 H0 F H σ ρ Q, Sr K cl F0 H0 F H σ ρ → Post K cl W σ F H Q (d1 f ml ρ) → tCB r t σ H Q := by
  intro F0 H0 F H σ ρ Q S p
  unfold d1 at p
  refine h F0 H0 F H σ ρ _ S ?_
  cases e : ml ρ with
  | st => rw [e] at p; exact p
  | er x => rw [e] at p; exact p
  | ok ds =>
    obtain ⟨b, ds⟩ := ds
    rw [e, R.bind_ok] at p
    exact fun a vs F1 H1 g q r1 => hf W σ F1 H1 a vs b ds Q g.s q r1 (p.grow g)
theorem es_can {ml : En → R (Bool × List D)} {f : Bool × List D → R DO} (h : ∀ F0 H0 F H σ ρ (Q : List V → Hp → Prop), Sr K cl F0 H0 F H σ ρ → PostL K cl W σ F H (fun v H' => Q [v] H') (ml ρ) → t σ H Q) (hf : CaN K cl r f) :
    ∀ F0 H0 F H σ ρ Q, Sr K cl F0 H0 F H σ ρ → PostN K cl W σ F H Q (d1 f ml ρ) → tCB r t σ H Q := by
  intro F0 H0 F H σ ρ Q S p
  unfold d1 at p
  refine h F0 H0 F H σ ρ _ S ?_
  cases e : ml ρ with
  | st => rw [e] at p; exact p
  | er x => rw [e] at p; exact p
  | ok ds =>
    obtain ⟨b, ds⟩ := ds
    rw [e, R.bind_ok] at p
    exact fun a vs F1 H1 g q r1 => hf W σ F1 H1 a vs b ds Q g.s q r1 (p.grow g g.old)
theorem ue_callB {ma : En → R (List D)} {f : List D → R D} (hc : CallR X (.builtin id) r) (hf : CaR X.K cl r f) (hm : X.mg x = none) (hv : bootBuiltins x = some (.builtin id)) (ha : UA X cl W (e :: es) t ma) (hg : Gl X x := by rfl)
    (hn : x ≠ "__name__" := by decide) (hdb : (x == ("__debug__" : Str)) = false := by decide)
    (he : starEach (e :: es) X.env = (false, eval e X.env) :: starEach es X.env := by rfl) (hpl : (backTo pos (starEach es X.env)).any (·.1) = false := by rfl) : UE X cl W (.Call (.Name x p) (e :: es) [] pos) (tCB r t) (d1 f ma) :=
  ⟨pe_callB hc hg hm hv ha.pe hn hdb he hpl, es_ca ha.es hf⟩
theorem ue_callBL {ml : En → R (Bool × List D)} {f : Bool × List D → R D} (hc : CallR X (.builtin id) r) (hf : CaL X.K cl r f) (hm : X.mg x = none) (hv : bootBuiltins x = some (.builtin id)) (ha : UAL X cl W [e] t ml) (hg : Gl X x := by rfl)
    (hn : x ≠ "__name__" := by decide) (hdb : (x == ("__debug__" : Str)) = false := by decide)
    (he : starEach [e] X.env = (false, eval e X.env) :: starEach [] X.env := by rfl) (hpl : (backTo pos (starEach [] X.env)).any (·.1) = false := by rfl) : UE X cl W (.Call (.Name x p) [e] [] pos) (tCB r t) (d1 f ml) :=
  ⟨pe_callB hc hg hm hv ha.pe hn hdb he hpl, es_cal ha.es hf⟩
theorem ue_callTL {ml : En → R (Bool × List D)} {f : Bool × List D → R D} (hc : CallR X (.type T) r) (hf : CaL X.K cl r f) (hm : X.mg x = none) (hv : bootBuiltins x = some (.type T)) (ha : UAL X cl W [e] t ml) (hg : Gl X x := by rfl)
    (hn : x ≠ "__name__" := by decide) (hdb : (x == ("__debug__" : Str)) = false := by decide)
    (he : starEach [e] X.env = (false, eval e X.env) :: starEach [] X.env := by rfl) (hpl : (backTo pos (starEach [] X.env)).any (·.1) = false := by rfl) : UE X cl W (.Call (.Name x p) [e] [] pos) (tCB r t) (d1 f ml) :=
  ⟨pe_callTy hc hg hm hv ha.pe hn hdb he hpl, es_cal ha.es hf⟩
theorem un_callTL {ml : En → R (Bool × List D)} {f : Bool × List D → R DO} (hc : CallR X (.type T) r) (hf : CaN X.K cl r f) (hm : X.mg x = none) (hv : bootBuiltins x = some (.type T)) (ha : UAL X cl W [e] t ml) (hg : Gl X x := by rfl)
    (hn : x ≠ "__name__" := by decide) (hdb : (x == ("__debug__" : Str)) = false := by decide)
    (he : starEach [e] X.env = (false, eval e X.env) :: starEach [] X.env := by rfl) (hpl : (backTo pos (starEach [] X.env)).any (·.1) = false := by rfl) : UN X cl W (.Call (.Name x p) [e] [] pos) (tCB r t) (d1 f ml) :=
  ⟨pe_callTy hc hg hm hv ha.pe hn hdb he hpl, es_can ha.es hf⟩
theorem un_callBL {ml : En → R (Bool × List D)} {f : Bool × List D → R DO} (hc : CallR X (.builtin id) r) (hf : CaN X.K cl r f) (hm : X.mg x = none) (hv : bootBuiltins x = some (.builtin id)) (ha : UAL X cl W [e] t ml) (hg : Gl X x := by rfl)
    (hn : x ≠ "__name__" := by decide) (hdb : (x == ("__debug__" : Str)) = false := by decide)
    (he : starEach [e] X.env = (false, eval e X.env) :: starEach [] X.env := by rfl) (hpl : (backTo pos (starEach [] X.env)).any (·.1) = false := by rfl) : UN X cl W (.Call (.Name x p) [e] [] pos) (tCB r t) (d1 f ml) :=
  ⟨pe_callB hc hg hm hv ha.pe hn hdb he hpl, es_can ha.es hf⟩
theorem post_ok {Q : VK} {d : D} {v : V} (h : Post K cl W σ F H Q (.ok d)) (e : Ex F H) (r : Rp K cl F v d) : Q v H := h v F H (Grow.refl e) r
theorem rp_int {i : Int} : Rp K cl F (.int i) (.int i) := by unfold Rp; rfl
theorem rp_bl {b : Bool} : Rp K cl F (.bl b) (.bl b) := by unfold Rp; rfl
theorem rp_str {s : Str} : Rp K cl F (.str s) (.str s) := by unfold Rp; rfl
theorem rp_non : Rp K cl F .non .non := by unfold Rp; rfl
theorem Rp.int_inv {v : V} {i : Int} (h : Rp K cl F v (.int i)) : v = .int i := by unfold Rp at h; exact h
theorem Rp.bl_inv {v : V} {i : Bool} (h : Rp K cl F v (.bl i)) : v = .bl i := by unfold Rp at h; exact h
theorem Rp.str_inv {v : V} {i : Str} (h : Rp K cl F v (.str i)) : v = .str i := by unfold Rp at h; exact h
/-- len: of a list or a tuple; of a text -/
noncomputable def bLenL : Bool × List D → R D := fun x => .ok (.int (x.2.length : Nat))
theorem ca_lenL : CaL K cl (fun xs H Q => ∃ p ys, xs = [.ref p] ∧ (SqL K H p ys ∨ SqT K H p ys) ∧ Q (.int ys.length) H) bLenL := by
  intro W σ F H a vs b ds Q e s r p
  refine ⟨a, vs, rfl, s.or, ?_⟩
  rw [r.length]
  exact post_ok p e rp_int
noncomputable def bLen : List D → R D
  | [.lst xs] => .ok (.int (xs.length : Nat))
  | [.tup xs] => .ok (.int (xs.length : Nat))
  | [.str s] => if s.length ≤ SZ then .ok (.int (s.length : Nat)) else .st
  | _ => .st
theorem ca_len : CaR K cl (fun xs H Q => ∃ x n, xs = [x] ∧ LenV K x H n ∧ Q (.int n) H) bLen := by
  intro W σ F H vs ds Q e r p
  unfold bLen at p
  split at p
  · rename_i xs
    obtain ⟨v, r', rfl, h1, h2⟩ := r.cons_inv
    rw [h2.nil_inv]
    unfold Rp at h1
    obtain ⟨a, us, rfl, h3, h4⟩ := h1
    exact ⟨_, us.length, rfl, .inl ⟨us, ex_l e h3, rfl⟩, by rw [h4.length]; exact post_ok p e rp_int⟩
  · rename_i xs
    obtain ⟨v, r', rfl, h1, h2⟩ := r.cons_inv
    rw [h2.nil_inv]
    unfold Rp at h1
    obtain ⟨a, us, rfl, h3, h4⟩ := h1
    exact ⟨_, us.length, rfl, .inr ⟨us, SqT.of (e _ _ h3), rfl⟩, by rw [h4.length]; exact post_ok p e rp_int⟩
  · rename_i s
    obtain ⟨v, r', rfl, h1, h2⟩ := r.cons_inv
    rw [h2.nil_inv, h1.str_inv]
    split at p
    · rename_i hz
      exact ⟨_, s.length, rfl, ⟨sz_le hz, rfl⟩, post_ok p e rp_int⟩
    · exact False.elim p
  · exact False.elim p
/-- the ints of a list of data -/
noncomputable def dInts : List D → Option (List Int)
  | [] => some []
  | .int i :: ds => (dInts ds).map (i :: ·)
  | _ => none
theorem dInts_rps {F : Hp} : ∀ {ds : List D} {vs : List V} {ns : List Int}, Rps K cl F vs ds → dInts ds = some ns → vs = ns.map V.int
  | [], vs, ns, h, e => by cases e; exact h.nil_inv
  | d :: ds, vs, ns, h, e => by
    obtain ⟨v, r, rfl, h1, h2⟩ := h.cons_inv
    cases d <;> try cases e
    rename_i i
    unfold dInts at e
    cases q : dInts ds with
    | none => rw [q] at e; cases e
    | some ms =>
      rw [q] at e
      cases e
      rw [dInts_rps h2 q, h1.int_inv]
      rfl
noncomputable def bSum : Bool × List D → R D := fun x => if x.1 = true then match dInts x.2 with
  | some ns => .ok (.int ns.sum)
  | none => .st
  else .st
theorem ca_sum : CaL K cl (rSum K) bSum := by
  intro W σ F H a vs b ds Q e s r p
  unfold bSum at p
  split at p
  · rename_i hb
    have hb : b = true := hb
    subst hb
    split at p
    · rename_i ns hn
      have ev := dInts_rps r hn
      subst ev
      exact ⟨a, ns, rfl, s, post_ok p e rp_int⟩
    · exact False.elim p
  · exact False.elim p
noncomputable def bListL : Bool × List D → R DO := fun x => .ok (.lst x.2)
theorem ca_listL : CaN K cl (fun xs H Q => ∃ p ys, xs = [.ref p] ∧ (SqL K H p ys ∨ SqT K H p ys) ∧ ∀ l, H l = none → Q (.ref l) (upd H l (.lst ys))) bListL := by
  intro W σ F H a vs b ds Q e s r p
  exact ⟨a, vs, rfl, s.or, fun l hl => p l (.lst vs) F _ (Grow.lay' e hl) hl (Grow.fnone e hl) upd_same ⟨vs, rfl, r⟩⟩
noncomputable def bTupL : Bool × List D → R D := fun x => if x.1 = true then .ok (.tup x.2) else .st
theorem ca_tupL : CaL K cl (fun xs H Q => ∃ p ys, xs = [.ref p] ∧ ((SqL K H p ys ∧ ∀ l, H l = none → Q (.ref l) (upd H l (.tup ys))) ∨ (SqT K H p ys ∧ Q (.ref p) H))) bTupL := by
  intro W σ F H a vs b ds Q e s r p
  cases b with
  | true =>
    refine ⟨a, vs, rfl, .inl ⟨s, fun l hl => ?_⟩⟩
    have g2 := Grow.lay (o := .tup vs) e hl
    refine p _ _ _ g2 ?_
    unfold Rp
    exact ⟨l, vs, rfl, upd_same, r.mono g2.f⟩
  | false => exact False.elim p
end
end UP
namespace UP
open PySem L2 PyProof.Rows
section
variable {X : Cx} {cl : Str → Option Addr} {W : WX} {K : PySem.W.Frag} {σ : L2.St} {F H F' H' : Hp}
noncomputable def dIx : Bool × List D → D → R D
  | (_, xs), .int i => match atI xs i with
    | some d => .ok d
    | none => .st
  | _, _ => .st
theorem atI_rps {vs : List V} {ds : List D} {i : Int} {d : D} (r : Rps K cl F vs ds) (h : atI ds i = some d) : ∃ v, atI vs i = some v ∧ Rp K cl F v d := by
  unfold atI at h ⊢
  rw [r.length]
  cases q : ixN ds.length i with
  | none => rw [q] at h; cases h
  | some j =>
    rw [q] at h
    exact r.get (show ds[j]? = some d from h)
theorem ue_ix {a b : Expr} {ta tb : TE} {ml : En → R (Bool × List D)} {mb : En → R D} {pos : Pos} (ha : UL X cl W a ta ml) (hb : UE X cl W b tb mb) (hs : PlainIx b := by exact fun _ _ => rfl) :
    UE X cl W (.Subscript a b pos) (tOp (fun x y H Q => rIxL X.K x y H Q ∨ rIxT X.K x y H Q) ta tb) (d2 dIx ml mb) := by
  refine ⟨pe_ix (ix_list.or ix_tup) ha.pe hb.pe hs, fun F0 H0 F H σ ρ Q S p => ?_⟩
  unfold d2 at p
  refine ha.es F0 H0 F H σ ρ _ S ?_
  cases e : ml ρ with
  | st => rw [e] at p; exact p
  | er x => rw [e] at p; exact p
  | ok q =>
    obtain ⟨bb, ds⟩ := q
    rw [e, R.bind_ok] at p
    intro a vs F1 H1 g1 s1 r1
    refine hb.es F0 H0 F1 H1 σ ρ _ (S.mono g1) ?_
    cases e2 : mb ρ with
    | st => rw [e2] at p; exact p
    | er x => rw [e2] at p; exact fun c d F2 H2 g2 q => p c d F2 H2 (g1.trans g2) q
    | ok dy =>
      rw [e2, R.bind_ok] at p
      intro y F2 H2 g2 r2
      cases dy <;> try exact p.elim
      rename_i i
      have p' : Post X.K cl W σ F H Q (match atI ds i with | some d => .ok d | none => .st) := p
      cases e3 : atI ds i with
      | none => rw [e3] at p'; exact p'.elim
      | some d =>
        rw [e3] at p'
        obtain ⟨v, h1, h2⟩ := atI_rps (r1.mono g2.f) e3
        rw [r2.int_inv]
        have fin := p' v F2 H2 (g1.trans g2) h2
        have s2 := s1.mono g2.h
        cases bb with
        | true => exact .inl ⟨a, vs, i, v, rfl, rfl, s2, h1, fin⟩
        | false => exact .inr ⟨a, vs, i, v, rfl, rfl, s2, h1, fin⟩
noncomputable def PostO (K : PySem.W.Frag) (cl : Str → Option Addr) (W : WX) (σ : L2.St) (F H : Hp) (Q : Option Int → Hp → Prop) : R (Option Int) → Prop
  | .ok b => ∀ F' H', Grow F H F' H' → Q b H'
  | .er x => ∀ cls dd F' H', Grow F H F' H' → ExR K cl F' x cls dd → W cls dd σ H'
  | .st => False
structure UO (X : Cx) (cl : Str → Option Addr) (W : WX) (e : Option Expr) (t : TO) (me : En → R (Option Int)) : Prop where
  pe : PO X e t
  es : ∀ F0 H0 F H σ ρ Q, Sr X.K cl F0 H0 F H σ ρ → PostO X.K cl W σ F H Q (me ρ) → t σ H Q
noncomputable def dNoPart : En → R (Option Int) := fun _ => .ok none
theorem uo_none : UO X cl W none tNoPart dNoPart := ⟨po_none, fun F0 H0 F H σ ρ Q S p => p F H (Grow.refl S.ex)⟩
noncomputable def dInt : D → R (Option Int)
  | .int i => .ok (some i)
  | _ => .st
theorem uo_some {e : Expr} {te : TE} {me : En → R D} (h : UE X cl W e te me) : UO X cl W (some e) (tPart te) (d1 dInt me) := by
  refine ⟨po_some h.pe, fun F0 H0 F H σ ρ Q S p => h.es F0 H0 F H σ ρ _ S ?_⟩
  unfold d1 at p
  cases e : me ρ with
  | st => rw [e] at p; exact p
  | er x => rw [e] at p; exact p
  | ok d =>
    rw [e, R.bind_ok] at p
    intro v F1 H1 g r
    cases d <;> try exact p.elim
    rename_i i
    exact ⟨i, r.int_inv, p F1 H1 g⟩
noncomputable def cutD (xs : List D) (lo hi : Option Int) : List D := (xs.drop (HT.sIx xs.length 0 lo)).take (HT.sIx xs.length xs.length hi - HT.sIx xs.length 0 lo)
theorem cut_rps {vs : List V} {ds : List D} (r : Rps K cl F vs ds) (lo hi : Option Int) : Rps K cl F (cutV vs lo hi) (cutD ds lo hi) := by
  unfold cutV cutD
  rw [r.length]
  exact (r.drop _).take _
noncomputable def dSl (ml : En → R (Bool × List D)) (mo mh : En → R (Option Int)) : En → R DO := fun ρ => (ml ρ).bind fun x => (mo ρ).bind fun l => (mh ρ).bind fun h => if x.1 = true then .ok (.lst (cutD x.2 l h)) else .st
theorem un_slice {a : Expr} {ta : TE} {ml : En → R (Bool × List D)} {lo hi : Option Expr} {tl th : TO} {mo mh : En → R (Option Int)} {p2 pos : Pos} (ha : UL X cl W a ta ml) (hl : UO X cl W lo tl mo) (hh : UO X cl W hi th mh) :
    UN X cl W (.Subscript a (.Slice lo hi none p2) pos) (tSl (rSlL X.K) ta tl th) (dSl ml mo mh) := by
  refine ⟨pe_slice sl_list ha.pe hl.pe hh.pe, fun F0 H0 F H σ ρ Q S p => ?_⟩
  unfold dSl at p
  refine ha.es F0 H0 F H σ ρ _ S ?_
  cases e : ml ρ with
  | st => rw [e] at p; exact p
  | er x => rw [e] at p; exact p
  | ok q =>
    obtain ⟨bb, ds⟩ := q
    rw [e, R.bind_ok] at p
    intro a vs F1 H1 g1 s1 r1
    refine hl.es F0 H0 F1 H1 σ ρ _ (S.mono g1) ?_
    cases e2 : mo ρ with
    | st => rw [e2] at p; exact p
    | er x => rw [e2] at p; exact fun c d F2 H2 g2 q => p c d F2 H2 (g1.trans g2) q
    | ok l =>
      rw [e2, R.bind_ok] at p
      intro F2 H2 g2
      refine hh.es F0 H0 F2 H2 σ ρ _ ((S.mono g1).mono g2) ?_
      cases e3 : mh ρ with
      | st => rw [e3] at p; exact p
      | er x => rw [e3] at p; exact fun c d F3 H3 g3 q => p c d F3 H3 ((g1.trans g2).trans g3) q
      | ok h =>
        rw [e3, R.bind_ok] at p
        intro F3 H3 g3
        cases bb with
        | false => exact p.elim
        | true =>
          have p' : PostN X.K cl W σ F H Q (.ok (.lst (cutD ds l h))) := p
          refine ⟨a, vs, rfl, (s1.mono g2.h).mono g3.h, fun q hq => ?_⟩
          have g4 := (g1.trans g2).trans g3
          exact p' q _ F3 _ (g4.trans (Grow.lay' g3.s hq)) (g4.old q hq) (Grow.fnone g3.s hq) upd_same ⟨_, rfl, ((cut_rps r1 l h).mono g2.f).mono g3.f⟩
noncomputable def dAdd : D → D → R D
  | .int i, .int j => .ok (.int (i + j))
  | .str i, .str j => if i.length + j.length ≤ SZ then .ok (.str (i ++ j)) else .st
  | .lst xs, .lst ys => if xs.length + ys.length ≤ SZ then .ok (.lst (xs ++ ys)) else .st
  | .tup xs, .tup ys => if 0 < xs.length ∧ xs.length + ys.length ≤ SZ then .ok (.tup (xs ++ ys)) else .st
  | _, _ => .st
noncomputable def rAddS : R2 := fun x y H Q => ∃ i j, x = .str i ∧ y = .str j ∧ i.length + j.length ≤ sizeLine ∧ Q (.str (i ++ j)) H
noncomputable def rCatL (K : PySem.W.Frag) : R2 := fun x y H Q => ∃ l b xs zs, x = .ref l ∧ y = .ref b ∧ SqL K H l xs ∧ SqL K H b zs ∧ xs.length + zs.length ≤ sizeLine ∧ ∀ p, H p = none → Q (.ref p) (upd H p (.lst (xs ++ zs)))
theorem op_catL : OpR X (binaryOp .Add) (rCatL X.K) := by
  intro pins s σ H x y v u Q I rx ry h
  obtain ⟨l, b, xs, zs, rfl, rfl, hH, hB, hz, q⟩ := h
  cases rx
  cases ry
  obtain ⟨its, r, p1, hl⟩ := I.list hH
  obtain ⟨its2, r2, p2, hl2⟩ := I.list hB
  obtain ⟨⟨cls, dd, data, sl⟩, n, ho, hc, hdn, hd⟩ := p1
  obtain ⟨⟨cls2, dd2, data2, sl2⟩, n2, ho2, hc2, hdn2, hd2⟩ := p2
  simp only at hc hd hc2 hd2
  subst hc hd hc2 hd2
  have e : its.toArray ++ its2.toArray = (its ++ its2).toArray := by simp
  have z1 := r.length
  have z2 := r2.length
  refine concat_meets ⟨_, ho, rfl⟩ ⟨_, ho2, rfl⟩ noFill_list_add seq_list_add PySem.F.slot_list_add PySem.F.entry_list_add (PySem.F.args_list_add_2 _ _) (list_addW l b its.toArray its2.toArray n n2 dd dd2 sl sl2 (by simp; omega)) ⟨ho, ho2, ?_⟩
  rw [e]
  exact ⟨.ref _, _, I.lnew (t' := s.toks) (r.append r2) (by rw [List.length_append]; omega), rfl, q _ I.fresh⟩
theorem op2_add : Op2 K cl (fun x y H Q => rI0 (fun i j => .int (i + j)) x y H Q ∨ (rAddS x y H Q ∨ (rCatL K x y H Q ∨ rCatT K x y H Q))) dAdd := by
  intro W σ F H x y dx dy Q e rx ry p
  unfold dAdd at p
  split at p
  · exact .inl ⟨_, _, rx.int_inv, ry.int_inv, post_ok p e rp_int⟩
  · rename_i i j
    split at p
    · rename_i hz
      exact .inr (.inl ⟨i, j, rx.str_inv, ry.str_inv, sz_le hz, post_ok p e rp_str⟩)
    · exact False.elim p
  · rename_i xs ys
    split at p
    · rename_i hz
      unfold Rp at rx ry
      obtain ⟨a, vs, rfl, h1, h2⟩ := rx
      obtain ⟨b, us, rfl, h3, h4⟩ := ry
      refine .inr (.inr (.inl ⟨a, b, vs, us, rfl, rfl, ex_l e h1, ex_l e h3, by rw [h2.length, h4.length]; exact sz_le hz, fun q hq => ?_⟩))
      have g := Grow.lay (o := .lst (vs ++ us)) e hq
      refine p _ _ _ g ?_
      unfold Rp
      exact ⟨q, _, rfl, SqL.of upd_same, (h2.append h4).mono g.f⟩
    · exact False.elim p
  · rename_i xs ys
    split at p
    · rename_i hz
      unfold Rp at rx ry
      obtain ⟨a, vs, rfl, h1, h2⟩ := rx
      obtain ⟨b, us, rfl, h3, h4⟩ := ry
      have hne : vs ≠ [] := fun z => by
        have h5 := h2.length
        rw [z] at h5
        have := hz.1
        simp at h5; omega
      refine .inr (.inr (.inr ⟨a, b, vs, us, rfl, rfl, SqT.of (e _ _ h1), SqT.of (e _ _ h3), hne, by rw [h2.length, h4.length]; exact sz_le hz.2, fun hu => ?_, fun _ q hq => ?_⟩))
      · have hy : ys = [] := by
          have h5 := h4.length
          rw [hu] at h5
          exact List.length_eq_zero_iff.mp h5.symm
        rw [hy, List.append_nil] at p
        refine p _ F H (Grow.refl e) ?_
        unfold Rp
        exact ⟨a, vs, rfl, h1, h2⟩
      · have g := Grow.lay (o := .tup (vs ++ us)) e hq
        refine p _ _ _ g ?_
        unfold Rp
        exact ⟨q, _, rfl, upd_same, (h2.append h4).mono g.f⟩
    · exact False.elim p
  · exact False.elim p
theorem op_addA : OpR X (binaryOp .Add) (fun x y H Q => rI0 (fun i j => .int (i + j)) x y H Q ∨ (rAddS x y H Q ∨ (rCatL X.K x y H Q ∨ rCatT X.K x y H Q))) := OpR.or op_add (OpR.or op_add_str (OpR.or op_catL op_catT))
theorem ue_add {a b : Expr} {ta tb : TE} {ma mb : En → R D} {pos : Pos} (ha : UE X cl W a ta ma) (hb : UE X cl W b tb mb) :
    UE X cl W (.BinOp a .Add b pos) (tOp (fun x y H Q => rI0 (fun i j => .int (i + j)) x y H Q ∨ (rAddS x y H Q ∨ (rCatL X.K x y H Q ∨ rCatT X.K x y H Q))) ta tb) (d2 dAdd ma mb) := ue_op op_addA op2_add ha hb
mutual
noncomputable def toPy : D → Option PyData
  | .non => some .none
  | .bl b => some (.bool b)
  | .int i => some (.int i)
  | .str x => some (.str x)
  | .lst xs => (toPys xs).map .list
  | .tup xs => (toPys xs).map .tuple
  | .ty _ => none
  | .dk _ _ => none
  | .obj _ _ _ => none
  | .exc _ _ _ => none
noncomputable def toPys : List D → Option (List PyData)
  | [] => some []
  | x :: xs => match toPy x, toPys xs with
    | some d, some ds => some (d :: ds)
    | _, _ => none
end
mutual
theorem dp_of {F H : Hp} (e : Ex F H) : ∀ {d : D} {v : V} {y : PyData}, Rp K cl F v d → toPy d = some y → Dp K H v y
  | .non, v, y, h, q => by unfold Rp at h; unfold toPy at q; subst h; cases q; exact .non
  | .bl b, v, y, h, q => by unfold Rp at h; unfold toPy at q; subst h; cases q; exact .bl b
  | .int b, v, y, h, q => by unfold Rp at h; unfold toPy at q; subst h; cases q; exact .int b
  | .str b, v, y, h, q => by unfold Rp at h; unfold toPy at q; subst h; cases q; exact .str b
  | .lst xs, v, y, h, q => by
    unfold Rp at h; unfold toPy at q
    obtain ⟨a, vs, rfl, h1, h2⟩ := h
    cases e3 : toPys xs with
    | none => rw [e3] at q; cases q
    | some ds => rw [e3] at q; cases q; exact .lst (ex_l e h1) (dp_ofs e h2 e3)
  | .tup xs, v, y, h, q => by
    unfold Rp at h; unfold toPy at q
    obtain ⟨a, vs, rfl, h1, h2⟩ := h
    cases e3 : toPys xs with
    | none => rw [e3] at q; cases q
    | some ds => rw [e3] at q; cases q; exact .tup (SqT.of (e _ _ h1)) (dp_ofs e h2 e3)
  | .ty _, v, y, h, q => by unfold toPy at q; cases q
  | .dk _ _, v, y, h, q => by unfold toPy at q; cases q
  | .obj _ _ _, v, y, h, q => by unfold toPy at q; cases q
  | .exc _ _ _, v, y, h, q => by unfold toPy at q; cases q
theorem dp_ofs {F H : Hp} (e : Ex F H) : ∀ {ds : List D} {vs : List V} {ys : List PyData}, Rps K cl F vs ds → toPys ds = some ys → DpAll K H vs ys
  | [], vs, ys, h, q => by rw [h.nil_inv]; unfold toPys at q; cases q; exact .nil
  | d :: ds, vs, ys, h, q => by
    obtain ⟨v, r, rfl, h1, h2⟩ := h.cons_inv
    unfold toPys at q
    split at q
    · rename_i y ys' e1 e2
      cases q
      exact .cons (dp_of e h1 e1) (dp_ofs e h2 e2)
    · cases q
end
noncomputable def eqDeep (x y : D) : Option Bool := match toPy x, toPy y with
  | some d, some e => if SeqAt.shaped d = true ∧ SeqAt.shaped e = true then some (PyData.eqv d e) else none
  | _, _ => none
noncomputable def eqD : D → D → Option Bool
  | .int i, .int j => some (decide (i = j))
  | .bl i, .bl j => some (decide (i = j))
  | .str i, .str j => some (decide (i = j))
  | .non, .non => some true
  | .non, .int _ => some false
  | .int _, .non => some false
  | x, y => eqDeep x y
noncomputable def dEq (x y : D) : R D := match eqD x y with
  | some b => .ok (.bl b)
  | none => .st
noncomputable def dNe (x y : D) : R D := match eqD x y with
  | some b => .ok (.bl (!b))
  | none => .st
theorem eqD_ok {x y : V} {dx dy : D} {b : Bool} (e : Ex F H) (rx : Rp K cl F x dx) (ry : Rp K cl F y dy) (h : eqD dx dy = some b) :
    (scal x y = true ∧ decide (x = y) = b) ∨ ∃ d f, Dp K H x d ∧ Dp K H y f ∧ SeqAt.shaped d = true ∧ SeqAt.shaped f = true ∧ PyData.eqv d f = b := by
  unfold eqD at h
  split at h
  · rw [rx.int_inv, ry.int_inv]; cases h
    exact .inl ⟨rfl, by rw [dec_int, Bool.beq_eq_decide_eq]⟩
  · rw [rx.bl_inv, ry.bl_inv]; cases h
    exact .inl ⟨rfl, by rw [dec_bl, Bool.beq_eq_decide_eq]⟩
  · rw [rx.str_inv, ry.str_inv]; cases h
    exact .inl ⟨rfl, by rw [dec_str, Bool.beq_eq_decide_eq]⟩
  · unfold Rp at rx ry; subst rx ry; cases h; exact .inl ⟨rfl, rfl⟩
  · unfold Rp at rx ry; subst rx ry; cases h; exact .inl ⟨rfl, by simp⟩
  · unfold Rp at rx ry; subst rx ry; cases h; exact .inl ⟨rfl, by simp⟩
  · unfold eqDeep at h
    split at h
    · rename_i d f e1 e2
      split at h
      · rename_i hs
        cases h
        exact .inr ⟨d, f, dp_of e rx e1, dp_of e ry e2, hs.1, hs.2, rfl⟩
      · cases h
    · cases h
theorem op2_eq : Op2 K cl (fun x y H Q => rEq x y H Q ∨ rEqD K x y H Q) dEq := by
  intro W σ F H x y dx dy Q e rx ry p
  unfold dEq at p
  split at p
  · rename_i b hb
    rcases eqD_ok e rx ry hb with ⟨h1, h2⟩ | ⟨d, f, h1, h2, h3, h4, h5⟩
    · exact .inl ⟨h1, by rw [h2]; exact post_ok p e rp_bl⟩
    · exact .inr ⟨d, f, h1, h2, h3, h4, by rw [h5]; exact post_ok p e rp_bl⟩
  · exact False.elim p
theorem op2_ne : Op2 K cl (fun x y H Q => rNe x y H Q ∨ rNeD K x y H Q) dNe := by
  intro W σ F H x y dx dy Q e rx ry p
  unfold dNe at p
  split at p
  · rename_i b hb
    rcases eqD_ok e rx ry hb with ⟨h1, h2⟩ | ⟨d, f, h1, h2, h3, h4, h5⟩
    · exact .inl ⟨h1, by rw [h2]; exact post_ok p e rp_bl⟩
    · exact .inr ⟨d, f, h1, h2, h3, h4, by rw [h5]; exact post_ok p e rp_bl⟩
  · exact False.elim p
theorem op_eqA (hu : X.A.units + 64 < cLine) : OpR X (compareOp .Eq) (fun x y H Q => rEq x y H Q ∨ rEqD X.K x y H Q) := OpR.or op_eq (op_eqD hu)
theorem op_neA (hu : X.A.units + 64 < cLine) : OpR X (compareOp .NotEq) (fun x y H Q => rNe x y H Q ∨ rNeD X.K x y H Q) := OpR.or op_ne (op_neD hu)
/-- is None, is True, is False: of None and of truths -/
noncomputable def dIsN : D → D → R D
  | .non, .non => .ok (.bl true)
  | _, .non => .ok (.bl false)
  | _, _ => .st
theorem rp_ne_non {v : V} {d : D} (h : Rp K cl F v d) (hd : d ≠ .non) : v ≠ .non := by
  intro e; subst e
  cases d with
  | non => exact hd rfl
  | bl b => unfold Rp at h; cases h
  | int b => unfold Rp at h; cases h
  | str b => unfold Rp at h; cases h
  | ty b => unfold Rp at h; cases h
  | lst xs => unfold Rp at h; obtain ⟨_, _, h, _⟩ := h; cases h
  | tup xs => unfold Rp at h; obtain ⟨_, _, h, _⟩ := h; cases h
  | dk ks xs => unfold Rp at h; obtain ⟨_, _, h, _⟩ := h; cases h
  | obj c ns xs => unfold Rp at h; obtain ⟨_, _, _, _, h, _⟩ := h; cases h
  | exc q ns xs => unfold Rp at h; cases h.1
theorem op2_isN : Op2 K cl (fun x y H Q => y = .non ∧ Q (.bl (decide (x = .non))) H) dIsN := by
  intro W σ F H x y dx dy Q e rx ry p
  unfold dIsN at p
  split at p
  · unfold Rp at rx ry; subst rx ry
    exact ⟨rfl, post_ok p e rp_bl⟩
  · rename_i h
    unfold Rp at ry; subst ry
    have := rp_ne_non rx (fun q => h q)
    exact ⟨rfl, by rw [decide_eq_false this]; exact post_ok p e rp_bl⟩
  · exact False.elim p
end
end UP
namespace UP
open PySem L2 PyProof.Rows
section
variable {X : Cx} {cl : Str → Option Addr} {W : WX} {K : PySem.W.Frag} {σ : L2.St} {F H F' H' : Hp}
noncomputable def dBl : D → R Bool
  | .bl b => .ok b
  | _ => .st
theorem es_tb {te : TE} {me : En → R D} (h : ∀ F0 H0 F H σ ρ Q, Sr K cl F0 H0 F H σ ρ → Post K cl W σ F H Q (me ρ) → te σ H Q) :
    ∀ F0 H0 F H σ ρ (Q : Bool → Hp → Prop), Sr K cl F0 H0 F H σ ρ → PostT K cl W σ F H Q (d1 dBl me ρ) → te σ H fun x H' => ∃ k, x = .bl k ∧ Q k H' := by
  intro F0 H0 F H σ ρ Q S p
  unfold d1 at p
  refine h F0 H0 F H σ ρ _ S ?_
  cases e : me ρ with
  | st => rw [e] at p; exact p
  | er x => rw [e] at p; exact p
  | ok d =>
    rw [e, R.bind_ok] at p
    intro v F1 H1 g r
    cases d <;> try exact p.elim
    exact ⟨_, r.bl_inv, p F1 H1 g⟩
theorem ut_val {e : Expr} {te : TE} {me : En → R D} (h : UE X cl W e te me) (he : ∀ whole, isTrue e X.env whole = (do let v ← whole; standAt e.pos; holding [v] (truthy v)) := by intro _; rfl) : UT X cl W e (tB te) (d1 dBl me) :=
  ⟨pt_val h.pe he, es_tb h.es⟩
theorem ut_cmp {a b : Expr} {ta tb : TE} {ma mb : En → R D} {op : CmpOp} {r : R2} {f : D → D → R D} {pos : Pos} (ho : OpR X (compareOp op) r) (hf : Op2 X.K cl r f) (ha : UE X cl W a ta ma) (hb : UE X cl W b tb mb) (hm : behindInMarks op b = false) :
    UT X cl W (.Compare a [op] [b] pos) (tTest (tOp r ta tb)) (d1 dBl (d2 f ma mb)) := ⟨pt_cmpR ho ha.pe hb.pe hm, es_tb (es_op ha.es hb.es hf)⟩
noncomputable def dAnd (a b : En → R Bool) : En → R Bool := fun ρ => (a ρ).bind fun c => if c = true then b ρ else .ok false
noncomputable def dOr (a b : En → R Bool) : En → R Bool := fun ρ => (a ρ).bind fun c => if c = true then .ok true else b ρ
noncomputable def dNot (a : En → R Bool) : En → R Bool := fun ρ => (a ρ).bind fun c => .ok (!c)
theorem UW.t {e : Expr} {t : TT} {m : En → R Bool} (h : UW X cl W e t m) : UT X cl W e t m := ⟨h.pe.pt, h.es⟩
theorem uw_and1 {a : Expr} {t : TT} {m : En → R Bool} {pos} (h : UT X cl W a t m) : UW X cl W (.BoolOp .And [a] pos) t m := ⟨pw_and1 h.pe, h.es⟩
theorem uw_or1 {a : Expr} {t : TT} {m : En → R Bool} {pos} (h : UT X cl W a t m) : UW X cl W (.BoolOp .Or [a] pos) t m := ⟨pw_or1 h.pe, h.es⟩
theorem uw_and {a b : Expr} {rest : List Expr} {t u : TT} {m n : En → R Bool} {pos} (h : UT X cl W a t m) (h2 : UW X cl W (.BoolOp .And (b :: rest) pos) u n) : UW X cl W (.BoolOp .And (a :: b :: rest) pos) (tAnd t u) (dAnd m n) := by
  refine ⟨pw_and h.pe h2.pe, fun F0 H0 F H σ ρ Q S p => ?_⟩
  unfold dAnd at p
  refine h.es F0 H0 F H σ ρ _ S ?_
  cases e : m ρ with
  | st => rw [e] at p; exact p
  | er x => rw [e] at p; exact p
  | ok c =>
    rw [e, R.bind_ok] at p
    intro F1 H1 g
    cases c with
    | true => exact h2.es F0 H0 F1 H1 σ ρ _ (S.mono g) (PostT.grow p g)
    | false => exact PostT.grow (r := .ok false) p g F1 H1 (Grow.refl g.s)
theorem uw_or {a b : Expr} {rest : List Expr} {t u : TT} {m n : En → R Bool} {pos} (h : UT X cl W a t m) (h2 : UW X cl W (.BoolOp .Or (b :: rest) pos) u n) : UW X cl W (.BoolOp .Or (a :: b :: rest) pos) (tOr t u) (dOr m n) := by
  refine ⟨pw_or h.pe h2.pe, fun F0 H0 F H σ ρ Q S p => ?_⟩
  unfold dOr at p
  refine h.es F0 H0 F H σ ρ _ S ?_
  cases e : m ρ with
  | st => rw [e] at p; exact p
  | er x => rw [e] at p; exact p
  | ok c =>
    rw [e, R.bind_ok] at p
    intro F1 H1 g
    cases c with
    | false => exact h2.es F0 H0 F1 H1 σ ρ _ (S.mono g) (PostT.grow p g)
    | true => exact PostT.grow (r := .ok true) p g F1 H1 (Grow.refl g.s)
theorem ut_not {a : Expr} {t : TT} {m : En → R Bool} {pos} (h : UT X cl W a t m) : UT X cl W (.UnaryOp .Not a pos) (tNot t) (dNot m) := by
  refine ⟨pt_not h.pe, fun F0 H0 F H σ ρ Q S p => h.es F0 H0 F H σ ρ _ S ?_⟩
  unfold dNot at p
  cases e : m ρ with
  | st => rw [e] at p; exact p
  | er x => rw [e] at p; exact p
  | ok c => rw [e, R.bind_ok] at p; exact fun F1 H1 g => p F1 H1 g
/-- as values -/
noncomputable def dAndV (a b : En → R D) : En → R D := fun ρ => (a ρ).bind fun x => (dBl x).bind fun c => if c = true then b ρ else .ok (.bl false)
noncomputable def dNotV (a : En → R D) : En → R D := fun ρ => (a ρ).bind fun x => (dBl x).bind fun c => .ok (.bl (!c))
theorem ue_one {op} {a : Expr} {t : TE} {m : En → R D} {pos} (h : UE X cl W a t m) : UE X cl W (.BoolOp op [a] pos) t m := ⟨pe_one h.pe, h.es⟩
theorem ue_and {a b : Expr} {rest : List Expr} {t u : TE} {m n : En → R D} {pos} (h : UE X cl W a t m) (h2 : UE X cl W (.BoolOp .And (b :: rest) pos) u n) : UE X cl W (.BoolOp .And (a :: b :: rest) pos) (tAndV t u) (dAndV m n) := by
  refine ⟨pe_and h.pe h2.pe, fun F0 H0 F H σ ρ Q S p => ?_⟩
  unfold dAndV at p
  refine h.es F0 H0 F H σ ρ _ S ?_
  cases e : m ρ with
  | st => rw [e] at p; exact p
  | er x => rw [e] at p; exact p
  | ok d =>
    rw [e, R.bind_ok] at p
    intro v F1 H1 g r
    cases d <;> try exact p.elim
    rename_i c
    refine ⟨c, r.bl_inv, ?_⟩
    cases c with
    | true => exact h2.es F0 H0 F1 H1 σ ρ _ (S.mono g) (Post.grow p g)
    | false => exact post_ok (Post.grow (r := .ok (.bl false)) p g) g.s rp_bl
theorem ue_not {a : Expr} {t : TE} {m : En → R D} {pos} (h : UE X cl W a t m) : UE X cl W (.UnaryOp .Not a pos) (tNotV t) (dNotV m) := by
  refine ⟨pe_not h.pe, fun F0 H0 F H σ ρ Q S p => h.es F0 H0 F H σ ρ _ S ?_⟩
  unfold dNotV at p
  cases e : m ρ with
  | st => rw [e] at p; exact p
  | er x => rw [e] at p; exact p
  | ok d =>
    rw [e, R.bind_ok] at p
    intro v F1 H1 g r
    cases d <;> try exact p.elim
    rename_i c
    exact ⟨c, r.bl_inv, p (.bl !c) F1 H1 g rp_bl⟩
/-- minus -/
noncomputable def dNeg : D → R D
  | .int i => .ok (.int (-i))
  | _ => .st
theorem ue_neg {a : Expr} {t : TE} {m : En → R D} {pos} (h : UE X cl W a t m) : UE X cl W (.UnaryOp .USub a pos) (tUn (rU fun i => .int (-i)) t) (d1 dNeg m) := by
  refine ⟨pe_un un_neg h.pe, fun F0 H0 F H σ ρ Q S p => h.es F0 H0 F H σ ρ _ S ?_⟩
  unfold d1 at p
  cases e : m ρ with
  | st => rw [e] at p; exact p
  | er x => rw [e] at p; exact p
  | ok d =>
    rw [e, R.bind_ok] at p
    intro v F1 H1 g r
    cases d <;> try exact p.elim
    rename_i c
    exact ⟨c, r.int_inv, p _ F1 H1 g rp_int⟩
noncomputable def flatD : D → Bool
  | .non => true
  | .bl _ => true
  | .int _ => true
  | .str _ => true
  | _ => false
noncomputable def eqF : D → D → Bool
  | .non, .non => true
  | .bl a, .bl b => a == b
  | .bl a, .int b => (if a then 1 else 0) == b
  | .int a, .bl b => a == (if b then 1 else 0)
  | .int a, .int b => a == b
  | .str a, .str b => a == b
  | _, _ => false
noncomputable def inF (x : D) (xs : List D) : Bool := xs.any fun y => eqF y x
theorem rp_flat {v : V} {d : D} (r : Rp K cl F v d) (h : flatD d = true) : flatV v = true := by
  cases d <;> first | (unfold Rp at r; subst r; rfl) | cases h
theorem rp_eqF {u v : V} {c d : D} (r : Rp K cl F u c) (q : Rp K cl F v d) (hc : flatD c = true) (hd : flatD d = true) : eqV u v = eqF c d := by
  cases c with
  | non => cases d <;> first | (unfold Rp at r q; subst r q; rfl) | exact absurd hd (by unfold flatD; exact Bool.false_ne_true)
  | bl x => cases d <;> first | (unfold Rp at r q; subst r q; rfl) | exact absurd hd (by unfold flatD; exact Bool.false_ne_true)
  | int x => cases d <;> first | (unfold Rp at r q; subst r q; rfl) | exact absurd hd (by unfold flatD; exact Bool.false_ne_true)
  | str x => cases d <;> first | (unfold Rp at r q; subst r q; rfl) | exact absurd hd (by unfold flatD; exact Bool.false_ne_true)
  | _ => exact absurd hc (by unfold flatD; exact Bool.false_ne_true)
theorem rps_flat : ∀ {vs : List V} {ds : List D}, Rps K cl F vs ds → ds.all flatD = true → vs.all flatV = true
  | _, [], r, _ => by rw [r.nil_inv]; rfl
  | _, d :: ds, r, h => by
    obtain ⟨v, r', rfl, h1, h2⟩ := r.cons_inv
    rw [List.all_cons, Bool.and_eq_true] at h ⊢
    exact ⟨rp_flat h1 h.1, rps_flat h2 h.2⟩
theorem rps_inF {v : V} {d : D} (q : Rp K cl F v d) (hd : flatD d = true) : ∀ {vs : List V} {ds : List D}, Rps K cl F vs ds → ds.all flatD = true → inV v vs = inF d ds
  | _, [], r, _ => by rw [r.nil_inv]; rfl
  | _, c :: ds, r, h => by
    obtain ⟨u, r', rfl, h1, h2⟩ := r.cons_inv
    rw [List.all_cons, Bool.and_eq_true] at h
    have := rps_inF q hd h2 h.2
    unfold inV inF at this ⊢
    rw [List.any_cons, List.any_cons, this, rp_eqF h1 q h.1 hd]
noncomputable def dInB (x : D) (q : Bool × List D) : R Bool := if flatD x = true ∧ q.2.all flatD = true then .ok (inF x q.2) else .st
noncomputable def dNotIn (x : D) (q : Bool × List D) : R D := (dInB x q).bind fun b => .ok (.bl (!b))
theorem es_in {neg : Bool} {ta tb : TE} {ma : En → R D} {mb : En → R (Bool × List D)} {g : D → Bool × List D → R D}
    (ha : ∀ F0 H0 F H σ ρ Q, Sr K cl F0 H0 F H σ ρ → Post K cl W σ F H Q (ma ρ) → ta σ H Q) (hb : ∀ F0 H0 F H σ ρ Q, Sr K cl F0 H0 F H σ ρ → PostL K cl W σ F H Q (mb ρ) → tb σ H Q)
    (hg : g = fun x q => (dInB x q).bind fun b => .ok (.bl (if neg then !b else b))) :
    ∀ F0 H0 F H σ ρ Q, Sr K cl F0 H0 F H σ ρ → Post K cl W σ F H Q (d2 g ma mb ρ) → tOp (rIn K neg) ta tb σ H Q := by
  intro F0 H0 F H σ ρ Q S p
  unfold d2 at p
  refine ha F0 H0 F H σ ρ _ S ?_
  cases e : ma ρ with
  | st => rw [e] at p; exact p
  | er x => rw [e] at p; exact p
  | ok dx =>
    rw [e, R.bind_ok] at p
    intro x F1 H1 g1 r1
    refine hb F0 H0 F1 H1 σ ρ _ (S.mono g1) ?_
    cases e2 : mb ρ with
    | st => rw [e2] at p; exact p
    | er x => rw [e2] at p; exact fun c d F2 H2 g2 q => p c d F2 H2 (g1.trans g2) q
    | ok q =>
      obtain ⟨bb, ds⟩ := q
      rw [e2, R.bind_ok] at p
      subst hg
      intro a vs F2 H2 g2 s2 r2
      have p : Post K cl W σ F H Q ((if flatD dx = true ∧ ds.all flatD = true then R.ok (inF dx ds) else R.st).bind fun b => R.ok (D.bl (if neg then !b else b))) := p
      by_cases hc : flatD dx = true ∧ ds.all flatD = true
      · have p' : Post K cl W σ F H Q (.ok (.bl (if neg then !(inF dx ds) else inF dx ds))) := by rw [if_pos hc] at p; exact p
        have r1' := r1.mono g2.f
        refine ⟨a, vs, rfl, s2.or, rp_flat r1' hc.1, rps_flat r2 hc.2, ?_⟩
        rw [rps_inF r1' hc.1 r2 hc.2]
        exact p' _ F2 H2 (g1.trans g2) rp_bl
      · rw [if_neg hc] at p; exact p.elim
theorem ut_notin {a b : Expr} {ta tb : TE} {ma : En → R D} {mb : En → R (Bool × List D)} {pos : Pos} (ha : UE X cl W a ta ma) (hb : UL X cl W b tb mb) (hm : behindInMarks .NotIn b = false := by rfl) :
    UT X cl W (.Compare a [.NotIn] [b] pos) (tTest (tOp (rIn X.K true) ta tb)) (d1 dBl (d2 dNotIn ma mb)) := ⟨pt_cmpR op_notIn_seq ha.pe hb.pe hm, es_tb (es_in (neg := true) ha.es hb.es rfl)⟩
noncomputable def tyN : D → Option String
  | .non => some "NoneType"
  | .bl _ => some "bool"
  | .int _ => some "int"
  | .str _ => some "str"
  | .lst _ => some "list"
  | .tup _ => some "tuple"
  | .dk _ _ => some "dict"
  | _ => none
theorem ty_ok {v : V} {d : D} {n : String} (e : Ex F H) (r : Rp K cl F v d) (h : tyN d = some n) : TyX K H v (.type n) := by
  cases d with
  | non => cases h; unfold Rp at r; subst r; exact .base .non
  | bl b => cases h; unfold Rp at r; subst r; exact .base (.bl b)
  | int b => cases h; unfold Rp at r; subst r; exact .base (.int b)
  | str b => cases h; unfold Rp at r; subst r; exact .base (.str b)
  | ty n => cases h
  | lst xs =>
    cases h; unfold Rp at r
    obtain ⟨a, vs, rfl, h1, _⟩ := r
    rcases ex_l e h1 with (q | ⟨o, q⟩) | ⟨o, its, n, q, c, _⟩
    · exact .base (.lst q)
    · exact .base (.frz q)
    · exact .kList q c
  | tup xs =>
    cases h; unfold Rp at r
    obtain ⟨a, vs, rfl, h1, _⟩ := r
    rcases SqT.of (K := K) (e _ _ h1) with (q | ⟨o, q⟩) | ⟨o, its, n, q, c, _⟩
    · exact .base (.tup q)
    · exact .fTuple q
    · exact .kTuple q c
  | dk ks xs =>
    cases h; unfold Rp at r
    obtain ⟨a, vs, rfl, h1, _⟩ := r
    exact .base (.dK (e _ _ h1))
  | obj c ns xs => cases h
  | exc q ns xs => cases h
noncomputable def bIsi : List D → R D
  | [d, .ty c] => match tyN d with
    | some n => match kitB n c with
      | some b => .ok (.bl b)
      | none => .st
    | none => .st
  | _ => .st
theorem ca_isi : CaR K cl (rIsi K) bIsi := by
  intro W σ F H vs ds Q e r p
  unfold bIsi at p
  split at p
  · rename_i d c
    obtain ⟨v, r', rfl, h1, h2⟩ := r.cons_inv
    obtain ⟨u, r'', rfl, h3, h4⟩ := h2.cons_inv
    rw [h4.nil_inv]
    split at p
    · rename_i n hn
      split at p
      · rename_i b hb
        unfold Rp at h3
        subst h3
        exact ⟨v, .ty c, .type n, .type c, b, rfl, .ty c, ty_ok e h1 hn, kit_ty hb, post_ok p e rp_bl⟩
      · exact False.elim p
    · exact False.elim p
  · exact False.elim p
theorem ue_ty {e : Expr} {n : String} (h : PE X e (tC (.ty n))) : UE X cl W e (tC (.ty n)) (dC (.ty n)) := ue_c h fun F => by unfold Rp; rfl
/-- a built-in class as a value -/
theorem ue_bty {x : Str} {n : String} {pos : Pos} (hm : X.mg x = none) (hv : bootBuiltins x = some (.type n)) (hg : Gl X x := by rfl) (hn : x ≠ "__name__" := by decide) (hd : (x == ("__debug__" : Str)) = false := by decide) : UE X cl W (.Name x pos) (tC (.ty n)) (dC (.ty n)) :=
  ue_ty (pe_bltn hg hm hv rfl hn hd)
/-- what the caller wants of a call -/
noncomputable def PostC (K : PySem.W.Frag) (cl : Str → Option Addr) (F H : Hp) (Q : VK) (E : XK) : R D → Prop
  | .ok d => ∀ v F' H', Grow F H F' H' → Rp K cl F' v d → Q v H'
  | .er x => ∀ cls dd F' H', Grow F H F' H' → ExR K cl F' x cls dd → E cls dd H'
  | .st => False
noncomputable def PostCN (K : PySem.W.Frag) (cl : Str → Option Addr) (F H : Hp) (Q : VK) (E : XK) : R DO → Prop
  | .ok o => ∀ p ho F' H', Grow F H F' H' → H p = none → F' p = none → H' p = some ho → HR K cl F' ho o → Q (.ref p) H'
  | .er x => ∀ cls dd F' H', Grow F H F' H' → ExR K cl F' x cls dd → E cls dd H'
  | .st => False
noncomputable def spV (K : PySem.W.Frag) (cl : Str → Option Addr) (n : Nat) (m : List D → R D) : Sp := fun vs H Q E => ∃ ds F, Ex F H ∧ Rps K cl F vs ds ∧ vs.length = n ∧ PostC K cl F H Q E (m ds)
noncomputable def spN (K : PySem.W.Frag) (cl : Str → Option Addr) (n : Nat) (m : List D → R DO) : Sp := fun vs H Q E => ∃ ds F, Ex F H ∧ Rps K cl F vs ds ∧ vs.length = n ∧ PostCN K cl F H Q E (m ds)
/-- a def that can be called by its name: it does what m says; n parameters -/
noncomputable def Cal (P : Program) (w : World) (K : PySem.W.Frag) (mg : Str → Option Value) (base : Heap) (k : Nat) (x : Str) (ps : List Str) (sp : Sp) : Prop :=
  ∃ (f : Addr) (fd : FuncData), FnOk P w K mg base (L2N.CX P w) k f fd ps sp ∧ mg x = some (.ref f) ∧ PySem.W.keepIn K (.ref f) = true ∧ Binds K fd ps []
variable {x : Str} {ps : List Str} {p pos : Pos} {e : Expr} {es : List Expr} {t : TA} {k n : Nat}
theorem ue_call {ma : En → R (List D)} {m : List D → R D} (G : Cal X.prog X.w X.K X.mg X.base k x ps (spV X.K cl n m)) (hr : Room k X.A) (tk : L2N.Takes X W) (hn : ps.length = n) (ha : UA X cl W (e :: es) t ma) (hl : ∀ ρ ds, ma ρ = .ok ds → ds.length = n) (hg : Gl X x := by rfl)
    (hdb : (x == ("__debug__" : Str)) = false := by decide) (he : starEach (e :: es) X.env = (false, eval e X.env) :: starEach es X.env := by rfl) (hpl : (backTo pos (starEach es X.env)).any (·.1) = false := by rfl) :
    UE X cl W (.Call (.Name x p) (e :: es) [] pos) (tCallSD (spV X.K cl n m) [] (WE W) t) (d1 m ma) := by
  obtain ⟨f, fd, F, hm, hk, hb⟩ := G
  refine ⟨pe_callSD F hr hg hm hk hb .nil (fun σ => L2N.passAt tk σ) ha.pe hdb he hpl, fun F0 H0 F H σ ρ Q S p => ha.es F0 H0 F H σ ρ _ S ?_⟩
  unfold d1 at p
  cases e : ma ρ with
  | st => rw [e] at p; exact p
  | er x => rw [e] at p; exact p
  | ok ds =>
    rw [e, R.bind_ok] at p
    intro vs F1 H1 g r
    rw [List.append_nil]
    refine ⟨ds, F1, g.s, r, by rw [r.length, hl ρ ds e], ?_⟩
    cases e2 : m ds with
    | st => rw [e2] at p; exact p
    | er x => rw [e2] at p; exact fun c d F2 H2 g2 q => p c d F2 H2 (g.trans g2) q
    | ok d => rw [e2] at p; exact fun v F2 H2 g2 q => p v F2 H2 (g.trans g2) q
theorem un_call {ma : En → R (List D)} {m : List D → R DO} (G : Cal X.prog X.w X.K X.mg X.base k x ps (spN X.K cl n m)) (hr : Room k X.A) (tk : L2N.Takes X W) (hn : ps.length = n) (ha : UA X cl W (e :: es) t ma) (hl : ∀ ρ ds, ma ρ = .ok ds → ds.length = n) (hg : Gl X x := by rfl)
    (hdb : (x == ("__debug__" : Str)) = false := by decide) (he : starEach (e :: es) X.env = (false, eval e X.env) :: starEach es X.env := by rfl) (hpl : (backTo pos (starEach es X.env)).any (·.1) = false := by rfl) :
    UN X cl W (.Call (.Name x p) (e :: es) [] pos) (tCallSD (spN X.K cl n m) [] (WE W) t) (d1 m ma) := by
  obtain ⟨f, fd, F, hm, hk, hb⟩ := G
  refine ⟨pe_callSD F hr hg hm hk hb .nil (fun σ => L2N.passAt tk σ) ha.pe hdb he hpl, fun F0 H0 F H σ ρ Q S p => ha.es F0 H0 F H σ ρ _ S ?_⟩
  unfold d1 at p
  cases e : ma ρ with
  | st => rw [e] at p; exact p
  | er x => rw [e] at p; exact p
  | ok ds =>
    rw [e, R.bind_ok] at p
    intro vs F1 H1 g r
    rw [List.append_nil]
    refine ⟨ds, F1, g.s, r, by rw [r.length, hl ρ ds e], ?_⟩
    cases e2 : m ds with
    | st => rw [e2] at p; exact p
    | er x => rw [e2] at p; exact fun c d F2 H2 g2 q => p c d F2 H2 (g.trans g2) q
    | ok o => rw [e2] at p; exact fun q ho F2 H2 g2 h0 h1 h2 h3 => p q ho F2 H2 (g.trans g2) (g.old q h0) h1 h2 h3
theorem dNil_len : ∀ ρ ds, dNil ρ = .ok ds → ds.length = 0 := fun ρ ds h => by cases h; rfl
theorem dCons_len {a : En → R D} {b : En → R (List D)} {n : Nat} (h : ∀ ρ ds, b ρ = .ok ds → ds.length = n) : ∀ ρ ds, dCons a b ρ = .ok ds → ds.length = n + 1 := fun ρ ds q => by
  unfold dCons d2 at q
  cases e : a ρ with
  | st => rw [e] at q; cases q
  | er x => rw [e] at q; cases q
  | ok d =>
    rw [e, R.bind_ok] at q
    cases e2 : b ρ with
    | st => rw [e2] at q; cases q
    | er x => rw [e2] at q; cases q
    | ok r =>
      rw [e2] at q; cases q
      rw [List.length_cons, h ρ r e2]
end
end UP
namespace UP
open PySem L2 PyProof.Rows
section
variable {X : Cx} {cl : Str → Option Addr} {W : WX} {K : PySem.W.Frag} {F0 H0 F H F' H' : Hp} {σ : L2.St} {ρ : En}
theorem Sr.set {i : Nat} {v : V} {d : D} (S : Sr K cl F0 H0 F H σ ρ) (r : Rp K cl F v d) : Sr K cl F0 H0 F H (σ.set i (some v)) (ρ.set i (.val d)) := by
  have hl := S.len
  have ne : ∀ {j : Nat} {o : DO}, (ρ.set i (.val d))[j]? = some (.own o) → j ≠ i ∧ ρ[j]? = some (.own o) := fun {j o} e => by
    by_cases h : i = j
    · subst h
      rw [List.getElem?_set] at e
      simp only [if_true] at e
      split at e <;> cases e
    · rw [List.getElem?_set_ne h] at e
      exact ⟨fun q => h q.symm, e⟩
  refine ⟨S.grow, by simp [hl], fun j d' e => ?_, fun j o e => ?_, fun j k o o' p e1 e2 e3 e4 => ?_, S.tr.to (fun j t e => ?_) (fun j o p e1 e2 => ?_) (Ex.refl _) fun a u hu hf _ _ => ⟨rfl, hf⟩⟩
  rotate_left 3
  · have hj : j ≠ i := fun q => by
      rw [q, List.getElem?_set] at e
      simp only [if_true] at e
      split at e <;> cases e
    rw [List.getElem?_set_ne (Ne.symm hj)] at e ⊢
    exact ⟨e, rfl⟩
  · obtain ⟨n1, e1⟩ := ne e1
    rw [List.getElem?_set_ne (Ne.symm n1)] at e2
    exact .inl ⟨o, e1, e2⟩
  · by_cases h : i = j
    · subst h
      by_cases hi : i < ρ.length
      · rw [List.getElem?_set_self hi] at e
        cases e
        exact ⟨v, List.getElem?_set_self (by omega), r⟩
      · rw [List.getElem?_eq_none (by simpa using hi)] at e; cases e
    · rw [List.getElem?_set_ne h] at e
      obtain ⟨u, h1, h2⟩ := S.val j d' e
      exact ⟨u, by rw [List.getElem?_set_ne h]; exact h1, h2⟩
  · obtain ⟨h, e⟩ := ne e
    obtain ⟨p, ho, h1, h2⟩ := S.own j o e
    exact ⟨p, ho, by rw [List.getElem?_set_ne (Ne.symm h)]; exact h1, h2⟩
  · obtain ⟨n1, e1⟩ := ne e1
    obtain ⟨n2, e2⟩ := ne e2
    rw [List.getElem?_set_ne (Ne.symm n1)] at e3
    rw [List.getElem?_set_ne (Ne.symm n2)] at e4
    exact S.dis j k o o' p e1 e2 e3 e4
/-- a slot is forgotten -/
theorem Sr.un {i : Nat} {u : Option V} (S : Sr K cl F0 H0 F H σ ρ) : Sr K cl F0 H0 F H (σ.set i u) (ρ.set i .un) := by
  have hl := S.len
  have ne : ∀ {j : Nat} {q : Sl}, q ≠ .un → (ρ.set i .un)[j]? = some q → j ≠ i ∧ ρ[j]? = some q := fun {j q} hq e => by
    by_cases h : i = j
    · subst h
      rw [List.getElem?_set] at e
      simp only [if_true] at e
      split at e <;> cases e
      exact absurd rfl hq
    · rw [List.getElem?_set_ne h] at e
      exact ⟨fun q => h q.symm, e⟩
  refine ⟨S.grow, by simp [hl], fun j d' e => ?_, fun j o e => ?_, fun j k o o' p e1 e2 e3 e4 => ?_, S.tr.to (fun j t e => ?_) (fun j o p e1 e2 => ?_) (Ex.refl _) fun a u hu hf _ _ => ⟨rfl, hf⟩⟩
  rotate_left 3
  · obtain ⟨h, e⟩ := ne (by intro z; cases z) e
    exact ⟨e, List.getElem?_set_ne (Ne.symm h)⟩
  · obtain ⟨h, e⟩ := ne (by intro z; cases z) e1
    rw [List.getElem?_set_ne (Ne.symm h)] at e2
    exact .inl ⟨o, e, e2⟩
  · obtain ⟨h, e⟩ := ne (by intro z; cases z) e
    obtain ⟨v, h1, h2⟩ := S.val j d' e
    exact ⟨v, by rw [List.getElem?_set_ne (Ne.symm h)]; exact h1, h2⟩
  · obtain ⟨h, e⟩ := ne (by intro z; cases z) e
    obtain ⟨p, ho, h1, h2⟩ := S.own j o e
    exact ⟨p, ho, by rw [List.getElem?_set_ne (Ne.symm h)]; exact h1, h2⟩
  · obtain ⟨n1, e1⟩ := ne (by intro z; cases z) e1
    obtain ⟨n2, e2⟩ := ne (by intro z; cases z) e2
    rw [List.getElem?_set_ne (Ne.symm n1)] at e3
    rw [List.getElem?_set_ne (Ne.symm n2)] at e4
    exact S.dis j k o o' p e1 e2 e3 e4
/-- ours, in a slot -/
theorem Sr.setOwn {i : Nat} {p : Addr} {ho : HO} {o : DO} (S : Sr K cl F0 H0 F H σ ρ) (hf : F p = none) (hp : H p = some ho) (r : HR K cl F ho o) (h0 : H0 p = none) (hd : ∀ (j : Nat) (o : DO), ρ[j]? = some (.own o) → σ[j]? ≠ some (some (.ref p)))
    (ht : ∀ (j : Nat) (t : DT) (v : V) (fp : List Addr), ρ[j]? = some (.tr t) → σ[j]? = some (some v) → Tr K cl F H v t fp → p ∉ fp) :
    Sr K cl F0 H0 F H (σ.set i (some (.ref p))) (ρ.set i (.own o)) := by
  have hl := S.len
  have at' : ∀ {j : Nat} {q : DO}, (ρ.set i (.own o))[j]? = some (.own q) → (j = i ∧ q = o ∧ i < ρ.length) ∨ (j ≠ i ∧ ρ[j]? = some (.own q)) := fun {j q} e => by
    by_cases h : i = j
    · subst h
      by_cases hi : i < ρ.length
      · rw [List.getElem?_set_self hi] at e
        cases e
        exact .inl ⟨rfl, rfl, hi⟩
      · rw [List.getElem?_eq_none (by simpa using hi)] at e; cases e
    · rw [List.getElem?_set_ne h] at e
      exact .inr ⟨fun q => h q.symm, e⟩
  refine ⟨S.grow, by simp [hl], fun j d' e => ?_, fun j q e => ?_, fun j k q q' p' e1 e2 e3 e4 => ?_, S.tr.to (fun j t e => ?_) (fun j q p' e1 e2 => ?_) (Ex.refl _) fun a u hu hf _ _ => ⟨rfl, hf⟩⟩
  rotate_left 3
  · have hj : j ≠ i := fun q => by
      rw [q, List.getElem?_set] at e
      simp only [if_true] at e
      split at e <;> cases e
    rw [List.getElem?_set_ne (Ne.symm hj)] at e ⊢
    exact ⟨e, rfl⟩
  · rcases at' e1 with ⟨rfl, rfl, hi⟩ | ⟨h, e1'⟩
    · rw [List.getElem?_set_self (by omega)] at e2
      cases e2
      exact .inr ht
    · rw [List.getElem?_set_ne (Ne.symm h)] at e2
      exact .inl ⟨q, e1', e2⟩
  · by_cases h : i = j
    · subst h
      rw [List.getElem?_set] at e
      simp only [if_true] at e
      split at e <;> cases e
    · rw [List.getElem?_set_ne h] at e
      obtain ⟨v, h1, h2⟩ := S.val j d' e
      exact ⟨v, by rw [List.getElem?_set_ne h]; exact h1, h2⟩
  · rcases at' e with ⟨rfl, rfl, hi⟩ | ⟨h, e⟩
    · exact ⟨p, ho, List.getElem?_set_self (by omega), hf, hp, r, h0⟩
    · obtain ⟨p', ho', h1, h2⟩ := S.own j q e
      exact ⟨p', ho', by rw [List.getElem?_set_ne (Ne.symm h)]; exact h1, h2⟩
  · rcases at' e1 with ⟨q1, q2, hi⟩ | ⟨h, e1'⟩
    · rcases at' e2 with ⟨q3, _, _⟩ | ⟨h2, e2'⟩
      · rw [q1, q3]
      · rw [q1, List.getElem?_set_self (by omega)] at e3
        cases e3
        rw [List.getElem?_set_ne (Ne.symm h2)] at e4
        exact absurd e4 (hd k q' e2')
    · rcases at' e2 with ⟨q3, _, hi⟩ | ⟨h2, e2'⟩
      · rw [q3, List.getElem?_set_self (by omega)] at e4
        cases e4
        rw [List.getElem?_set_ne (Ne.symm h)] at e3
        exact absurd e3 (hd j q e1')
      · rw [List.getElem?_set_ne (Ne.symm h)] at e3
        rw [List.getElem?_set_ne (Ne.symm h2)] at e4
        exact S.dis j k q q' p' e1' e2' e3 e4
noncomputable def PostG (K : PySem.W.Frag) (cl : Str → Option Addr) (F0 H0 F H : Hp) (σ : L2.St) (ws : List Nat) (Q : L2.St → Hp → Prop) : R En → Prop
  | .ok ρ' => ∀ σ', Sr K cl F0 H0 F H σ' ρ' → σ'.length = σ.length → (∀ k : Nat, k ∉ ws → σ'[k]? = σ[k]?) → Q σ' H
  | _ => False
structure UG (X : Cx) (cl : Str → Option Addr) (tg : Expr) (g : TG) (mg : D → En → R En) (ws : List Nat) : Prop where
  pe : PG X tg g
  es : ∀ F0 H0 F H σ ρ v d Q, Sr X.K cl F0 H0 F H σ ρ → Rp X.K cl F v d → PostG X.K cl F0 H0 F H σ ws Q (mg d ρ) → g v σ H Q
structure UGs (X : Cx) (cl : Str → Option Addr) (tgs : List Expr) (g : TGs) (mg : List D → En → R En) (ws : List Nat) : Prop where
  pe : PGs X tgs g
  es : ∀ F0 H0 F H σ ρ vs ds Q, Sr X.K cl F0 H0 F H σ ρ → Rps X.K cl F vs ds → PostG X.K cl F0 H0 F H σ ws Q (mg ds ρ) → g vs σ H Q
noncomputable def gSet (i : Nat) : D → En → R En := fun d ρ => .ok (ρ.set i (.val d))
theorem ug_name {i : Nat} {x : Str} {pos} (h : PG X (.Name x pos) (gName i)) : UG X cl (.Name x pos) (gName i) (gSet i) [i] := by
  refine ⟨h, fun F0 H0 F H σ ρ v d Q S r p => ?_⟩
  exact p _ (S.set r) (by simp) fun k hk => List.getElem?_set_ne (fun q => hk (by simp [q]))
noncomputable def gsNil : List D → En → R En
  | [], ρ => .ok ρ
  | _, _ => .st
theorem ugs_nil : UGs X cl [] gNil gsNil [] := by
  refine ⟨pgs_nil, fun F0 H0 F H σ ρ vs ds Q S r p => ?_⟩
  cases ds with
  | nil => exact ⟨r.nil_inv, p σ S rfl fun _ _ => rfl⟩
  | cons d ds => exact False.elim p
noncomputable def gsCons (a : D → En → R En) (b : List D → En → R En) : List D → En → R En
  | d :: ds, ρ => (a d ρ).bind fun ρ1 => b ds ρ1
  | _, _ => .st
theorem ugs_cons {e : Expr} {es : List Expr} {t : TG} {u : TGs} {a : D → En → R En} {b : List D → En → R En} {w1 w2 : List Nat} (h1 : UG X cl e t a w1) (h2 : UGs X cl es u b w2)
    (hs : (assignEach (e :: es) X.env).map (·.2) = assign e X.env :: (assignEach es X.env).map (·.2) := by rfl) : UGs X cl (e :: es) (gCons t u) (gsCons a b) (w1 ++ w2) := by
  refine ⟨pgs_cons h1.pe h2.pe hs, fun F0 H0 F H σ ρ vs ds Q S r p => ?_⟩
  cases ds with
  | nil => exact False.elim p
  | cons d ds =>
    obtain ⟨v, r', rfl, r1, r2⟩ := r.cons_inv
    refine ⟨v, r', rfl, ?_⟩
    have p : PostG X.K cl F0 H0 F H σ (w1 ++ w2) Q ((a d ρ).bind fun ρ1 => b ds ρ1) := p
    refine h1.es F0 H0 F H σ ρ v d _ S r1 ?_
    cases e : a d ρ with
    | st => rw [e] at p; exact p
    | er x => rw [e] at p; exact p
    | ok ρ1 =>
      rw [e, R.bind_ok] at p
      intro σ1 S1 hl1 hk1
      refine h2.es F0 H0 F H σ1 ρ1 r' ds _ S1 r2 ?_
      cases e2 : b ds ρ1 with
      | st => rw [e2] at p; exact p
      | er x => rw [e2] at p; exact p
      | ok ρ2 =>
        rw [e2] at p
        exact fun σ2 S2 hl2 hk2 => p σ2 S2 (hl2.trans hl1) fun k hk => (hk2 k fun q => hk (List.mem_append_right _ q)).trans (hk1 k fun q => hk (List.mem_append_left _ q))
noncomputable def gTupD (n : Nat) (b : List D → En → R En) : D → En → R En
  | .tup ds, ρ => if ds.length = n then b ds ρ else .st
  | .lst ds, ρ => if ds.length = n then b ds ρ else .st
  | _, _ => .st
theorem pg_or {tg : Expr} {t1 t2 : TG} (h1 : PG X tg t1) (h2 : PG X tg t2) : PG X tg (fun v σ H Q => t1 v σ H Q ∨ t2 v σ H Q) :=
  ⟨fun pins s σ H v u Q I r h => h.elim (h1.run pins s σ H v u Q I r) (h2.run pins s σ H v u Q I r)⟩
theorem ug_tup {es : List Expr} {k : Nat} {t : TGs} {n : Nat} {b : List D → En → R En} {ws : List Nat} {pos} (hc : X.calm = true) (h : UGs X cl es t b ws) (hn : (assignEach es X.env).length = n := by rfl) (hst : (assignEach es X.env).findIdx? (·.1) = none := by rfl) :
    UG X cl (.Tuple es k pos) (fun v σ H Q => gTup X.K n t v σ H Q ∨ gLst X.K n t v σ H Q) (gTupD n b) ws := by
  refine ⟨pg_or (pg_tup hc h.pe hn hst) (pg_lst hc h.pe hn hst), fun F0 H0 F H σ ρ v d Q S r p => ?_⟩
  cases d <;> try exact False.elim p
  · rename_i ds
    unfold Rp at r
    obtain ⟨a, vs, rfl, h1, h2⟩ := r
    have p : PostG X.K cl F0 H0 F H σ ws Q (if ds.length = n then b ds ρ else .st) := p
    by_cases hq : ds.length = n
    · rw [if_pos hq] at p
      exact .inr ⟨a, vs, rfl, ex_l S.ex h1, by rw [h2.length]; exact hq, h.es F0 H0 F H σ ρ vs ds Q S h2 p⟩
    · rw [if_neg hq] at p; exact p.elim
  · rename_i ds
    unfold Rp at r
    obtain ⟨a, vs, rfl, h1, h2⟩ := r
    have p : PostG X.K cl F0 H0 F H σ ws Q (if ds.length = n then b ds ρ else .st) := p
    by_cases hq : ds.length = n
    · rw [if_pos hq] at p
      exact .inl ⟨a, vs, rfl, SqT.of (S.ex _ _ h1), by rw [h2.length]; exact hq, h.es F0 H0 F H σ ρ vs ds Q S h2 p⟩
    · rw [if_neg hq] at p; exact p.elim
noncomputable def ItR (K : PySem.W.Frag) (cl : Str → Option Addr) (J : It) (ds : List D) (F1 Hs : Hp) : Prop :=
  ∀ F2 H2 (i : Nat), Ex F1 F2 → Ex F2 H2 → Ex Hs H2 → (∀ d, ds[i]? = some d → J.go i H2 ∧ ∀ x H3, J.yld i H2 x H3 → ∃ F3, Grow F2 H2 F3 H3 ∧ Rp K cl F3 x d) ∧ (ds.length ≤ i → J.stop i H2)
noncomputable def PostI (K : PySem.W.Frag) (cl : Str → Option Addr) (W : WX) (b : Bool) (σ : L2.St) (F H : Hp) (Q : It → Hp → Prop) : R (List D) → Prop
  | .ok ds => ∀ J F1 H1, Grow F H F1 H1 → ItR K cl J ds F1 (if b = true then F1 else H1) → Q J H1
  | .er x => ∀ cls dd F' H', Grow F H F' H' → ExR K cl F' x cls dd → W cls dd σ H'
  | .st => False
/-- b: the thing walked is frozen -/
structure UI (X : Cx) (cl : Str → Option Addr) (W : WX) (b : Bool) (tg iter : Expr) (wi : TI) (mi : En → R (List D)) : Prop where
  pe : PI X tg iter wi
  es : ∀ F0 H0 F H σ ρ Q, Sr X.K cl F0 H0 F H σ ρ → PostI X.K cl W b σ F H Q (mi ρ) → wi σ H Q
theorem UI.weak {tg iter : Expr} {wi : TI} {mi : En → R (List D)} (h : UI X cl W true tg iter wi mi) : UI X cl W false tg iter wi mi := by
  refine ⟨h.pe, fun F0 H0 F H σ ρ Q S p => h.es F0 H0 F H σ ρ Q S ?_⟩
  cases e : mi ρ with
  | st => rw [e] at p; exact p
  | er x => rw [e] at p; exact p
  | ok ds =>
    rw [e] at p
    exact fun J F1 H1 g it => p J F1 H1 g fun F2 H2 i a b c => it F2 H2 i a b (a.trans b)
theorem pi_or {tg iter : Expr} {w1 w2 : TI} (h1 : PI X tg iter w1) (h2 : PI X tg iter w2) : PI X tg iter (fun σ H R => w1 σ H R ∨ w2 σ H R) :=
  ⟨fun pins s σ H R I h => h.elim (h1.run pins s σ H R I) (h2.run pins s σ H R I)⟩
theorem itr_list {a : Addr} {vs : List V} {ds : List D} {F1 Hs : Hp} (h1 : SqL K Hs a vs) (h2 : Rps K cl F1 vs ds) : ItR K cl (Itl K a) ds F1 Hs := by
  intro F2 H2 i e1 e2 e3
  have q := ex_l e3 h1
  refine ⟨fun d hd => ?_, fun hl => ⟨vs, q, by rw [h2.length]; exact hl⟩⟩
  obtain ⟨v, hv, rv⟩ := h2.get hd
  refine ⟨⟨vs, v, q, hv⟩, fun x H3 y => ?_⟩
  obtain ⟨e, y⟩ := y
  subst e
  have := y vs q
  rw [hv] at this; cases this
  exact ⟨F2, Grow.refl e2, rv.mono e1⟩
theorem itr_tup {a : Addr} {vs : List V} {ds : List D} {F1 Hs : Hp} (h1 : SqT K Hs a vs) (h2 : Rps K cl F1 vs ds) : ItR K cl (Itt K a) ds F1 Hs := by
  intro F2 H2 i e1 e2 e3
  have q := ex_t e3 h1
  refine ⟨fun d hd => ?_, fun hl => ⟨vs, q, by rw [h2.length]; exact hl⟩⟩
  obtain ⟨v, hv, rv⟩ := h2.get hd
  refine ⟨⟨vs, v, q, hv⟩, fun x H3 y => ?_⟩
  obtain ⟨e, y⟩ := y
  subst e
  have := y vs q
  rw [hv] at this; cases this
  exact ⟨F2, Grow.refl e2, rv.mono e1⟩
/-- a list's or tuple's content -/
theorem ui_l {tg e : Expr} {te : TE} {ml : En → R (Bool × List D)} (h : UL X cl W e te ml) : UI X cl W false tg e (fun σ H R => iList X.K te σ H R ∨ iTup X.K te σ H R) (d1 (fun q => .ok q.2) ml) := by
  refine ⟨pi_or (pi_list h.pe) (pi_tup h.pe), fun F0 H0 F H σ ρ Q S p => ?_⟩
  unfold d1 at p
  cases e : ml ρ with
  | st => rw [e] at p; exact p.elim
  | er x =>
    rw [e] at p
    exact .inl (h.es F0 H0 F H σ ρ _ S (by rw [e]; exact p))
  | ok q =>
    obtain ⟨b, ds⟩ := q
    rw [e, R.bind_ok] at p
    cases b with
    | true =>
      refine .inl (h.es F0 H0 F H σ ρ _ S ?_)
      rw [e]
      intro a vs F1 H1 g s r
      have s : SqL X.K H1 a vs := s
      exact ⟨a, rfl, ⟨vs, s⟩, p _ F1 H1 g (itr_list s r)⟩
    | false =>
      refine .inr (h.es F0 H0 F H σ ρ _ S ?_)
      rw [e]
      intro a vs F1 H1 g s r
      have s : SqT X.K H1 a vs := s
      exact ⟨a, rfl, ⟨vs, s⟩, p _ F1 H1 g (itr_tup s r)⟩
/-- a frozen list, tuple, a text -/
noncomputable def dIt : D → R (List D)
  | .lst xs => .ok xs
  | .tup xs => .ok xs
  | .str z => .ok (z.cps.toList.map fun c => .str ⟨#[c]⟩)
  | _ => .st
theorem ui_v {tg e : Expr} {te : TE} {me : En → R D} (h : UE X cl W e te me) : UI X cl W true tg e (fun σ H R => iList X.K te σ H R ∨ (iTup X.K te σ H R ∨ iStr te σ H R)) (d1 dIt me) := by
  refine ⟨pi_or (pi_list h.pe) (pi_or (pi_tup h.pe) (pi_str h.pe)), fun F0 H0 F H σ ρ Q S p => ?_⟩
  unfold d1 at p
  cases e : me ρ with
  | st => rw [e] at p; exact p.elim
  | er x =>
    rw [e] at p
    exact .inl (h.es F0 H0 F H σ ρ _ S (by rw [e]; exact p))
  | ok d =>
    rw [e, R.bind_ok] at p
    cases d with
    | lst xs =>
      refine .inl (h.es F0 H0 F H σ ρ _ S ?_)
      rw [e]
      intro v F1 H1 g r
      unfold Rp at r
      obtain ⟨a, vs, rfl, s, r⟩ := r
      exact ⟨a, rfl, ⟨vs, ex_l g.s s⟩, p _ F1 H1 g (itr_list s r)⟩
    | tup xs =>
      refine .inr (.inl (h.es F0 H0 F H σ ρ _ S ?_))
      rw [e]
      intro v F1 H1 g r
      unfold Rp at r
      obtain ⟨a, vs, rfl, s, r⟩ := r
      exact ⟨a, rfl, ⟨vs, SqT.of (g.s _ _ s)⟩, p _ F1 H1 g (itr_tup (SqT.of s) r)⟩
    | str z =>
      refine .inr (.inr (h.es F0 H0 F H σ ρ _ S ?_))
      rw [e]
      intro v F1 H1 g r
      refine ⟨z, r.str_inv, p _ F1 H1 g fun F2 H2 i e1 e2 e3 => ⟨fun d hd => ?_, fun hl => ?_⟩⟩
      · rw [List.getElem?_map] at hd
        cases q : z.cps.toList[i]? with
        | none => rw [q] at hd; cases hd
        | some c =>
          rw [q] at hd
          cases hd
          have q' : z.cps[i]? = some c := by simpa using q
          refine ⟨?_, fun x H3 y => ?_⟩
          · exact (Array.getElem?_eq_some_iff.mp q').1
          · obtain ⟨e, c', h1, h2⟩ := y
            subst e
            rw [q'] at h1; cases h1
            subst h2
            exact ⟨F2, Grow.refl e2, rp_str⟩
      · have : z.cps.toList.length ≤ i := by simpa using hl
        exact this
    | _ => exact False.elim p
noncomputable def dRange (lo : Int) (n : Nat) : List D := (List.range n).map fun k => .int (lo + (k : Nat))
theorem itr_range {lo : Int} {n : Nat} {F1 Hs : Hp} : ItR K cl (Itr lo n) (dRange lo n) F1 Hs := by
  intro F2 H2 i e1 e2 e3
  unfold dRange
  refine ⟨fun d hd => ?_, fun hl => ?_⟩
  · rw [List.getElem?_map] at hd
    cases q : (List.range n)[i]? with
    | none => rw [q] at hd; cases hd
    | some c =>
      rw [q] at hd
      cases hd
      obtain ⟨h1, h2⟩ := List.getElem?_eq_some_iff.mp q
      have hi : i < n := by simpa using h1
      have hc : i = c := by simpa using h2
      subst hc
      exact ⟨hi, fun x H3 y => by obtain ⟨e, y⟩ := y; subst e y; exact ⟨F2, Grow.refl e2, rp_int⟩⟩
  · have : n ≤ i := by simpa using hl
    exact this
noncomputable def dRng1 : List D → R (List D)
  | [.int j] => if -(2 ^ 62) ≤ j ∧ j < 2 ^ 62 then .ok (dRange 0 j.toNat) else .st
  | _ => .st
theorem ui_range1 {tg a : Expr} {ta : TA} {ma : En → R (List D)} {p pos : Pos} (hm : X.mg "range" = none) (ha : UA X cl W [a] ta ma) (hg : Gl X "range" := by rfl) (hs : starEach [a] X.env = [(false, eval a X.env)] := by rfl) :
    UI X cl W true tg (.Call (.Name "range" p) [a] [] pos) (iRng1 ta) (d1 dRng1 ma) := by
  refine ⟨pi_range1 hg hm ha.pe hs, fun F0 H0 F H σ ρ Q S p => ha.es F0 H0 F H σ ρ _ S ?_⟩
  unfold d1 at p
  cases e : ma ρ with
  | st => rw [e] at p; exact p
  | er x => rw [e] at p; exact p
  | ok ds =>
    rw [e, R.bind_ok] at p
    intro vs F1 H1 g r
    unfold dRng1 at p
    split at p
    · rename_i j
      split at p
      · rename_i hj
        obtain ⟨v, r', rfl, h1, h2⟩ := r.cons_inv
        rw [h2.nil_inv, h1.int_inv]
        exact ⟨j, rfl, hj.1, hj.2, p _ F1 H1 g itr_range⟩
      · exact False.elim p
    · exact False.elim p
noncomputable def dZipL : List D → List D → List D
  | a :: as, b :: bs => .tup [a, b] :: dZipL as bs
  | _, _ => []
theorem dZipL_get : ∀ (as bs : List D) (i : Nat), (dZipL as bs)[i]? = match as[i]?, bs[i]? with | some a, some b => some (.tup [a, b]) | _, _ => none
  | [], bs, i => by simp [dZipL]
  | a :: as, [], i => by simp [dZipL]
  | a :: as, b :: bs, 0 => by simp [dZipL]
  | a :: as, b :: bs, i + 1 => by simp [dZipL, dZipL_get as bs i]
theorem dZipL_len : ∀ (as bs : List D), (dZipL as bs).length = min as.length bs.length
  | [], bs => by simp [dZipL]
  | a :: as, [] => by simp [dZipL]
  | a :: as, b :: bs => by simp [dZipL, dZipL_len as bs]
noncomputable def dZip : List D → R (List D)
  | [.lst xs, .lst ys] => .ok (dZipL xs ys)
  | _ => .st
theorem itr_zip {a b : Addr} {vs us : List V} {ds es : List D} {F1 Hs : Hp} (h1 : SqL K Hs a vs) (h2 : Rps K cl F1 vs ds) (h3 : SqL K Hs b us) (h4 : Rps K cl F1 us es) : ItR K cl (Itz K a b) (dZipL ds es) F1 Hs := by
  intro F2 H2 i e1 e2 e3
  have q1 := ex_l e3 h1
  have q2 := ex_l e3 h3
  refine ⟨fun d hd => ?_, fun hl => ⟨vs, us, q1, q2, by rw [h2.length, h4.length]; rw [dZipL_len] at hl; omega⟩⟩
  rw [dZipL_get] at hd
  split at hd
  · rename_i x y ex ey
    cases hd
    obtain ⟨v, hv, rv⟩ := h2.get ex
    obtain ⟨u, hu, ru⟩ := h4.get ey
    refine ⟨⟨vs, us, v, u, q1, q2, hv, hu⟩, fun x H3 y => ?_⟩
    obtain ⟨T, x', y', rfl, hT, rfl, y1, y2⟩ := y
    have z1 := y1 vs q1
    rw [hv] at z1; cases z1
    have z2 := y2 us q2
    rw [hu] at z2; cases z2
    have g := Grow.lay (o := .tup [v, u]) e2 hT
    refine ⟨_, g, ?_⟩
    unfold Rp
    exact ⟨T, _, rfl, upd_same, Rps.cons ((rv.mono e1).mono g.f) (Rps.cons ((ru.mono e1).mono g.f) Rps.nil)⟩
  · cases hd
theorem ui_zip {e e2 : Expr} {ta : TA} {ma : En → R (List D)} {p pos tpos : Pos} {elts : List Expr} {kk : Nat} (hm : X.mg "zip" = none) (ha : UA X cl W [e, e2] ta ma) (hg : Gl X "zip" := by rfl)
    (hs : starEach [e, e2] X.env = (false, eval e X.env) :: starEach [e2] X.env := by rfl) (hpl : (backTo pos (starEach [e2] X.env)).any (·.1) = false := by rfl) :
    UI X cl W true (.Tuple elts kk tpos) (.Call (.Name "zip" p) [e, e2] [] pos) (iZip X.K ta) (d1 dZip ma) := by
  refine ⟨pi_zip hg hm ha.pe hs hpl, fun F0 H0 F H σ ρ Q S p => ha.es F0 H0 F H σ ρ _ S ?_⟩
  unfold d1 at p
  cases e : ma ρ with
  | st => rw [e] at p; exact p
  | er x => rw [e] at p; exact p
  | ok ds =>
    rw [e, R.bind_ok] at p
    intro vs F1 H1 g r
    unfold dZip at p
    split at p
    · rename_i xs ys
      obtain ⟨v, r', rfl, h1, h2⟩ := r.cons_inv
      obtain ⟨v2, r2, rfl, h3, h4⟩ := h2.cons_inv
      rw [h4.nil_inv]
      unfold Rp at h1 h3
      obtain ⟨a, us, rfl, h5, h6⟩ := h1
      obtain ⟨b, ws, rfl, h7, h8⟩ := h3
      exact ⟨a, b, us, ws, rfl, ex_l g.s h5, ex_l g.s h7, p _ F1 H1 g (itr_zip h5 h6 h7 h8)⟩
    · exact False.elim p
noncomputable def wipeE (ρ : En) : List Nat → En
  | [] => ρ
  | v :: vs => (wipeE ρ vs).set v .un
theorem Sr.wipe (S : Sr K cl F0 H0 F H σ ρ) : ∀ vs : List Nat, Sr K cl F0 H0 F H (L2.wipe σ vs) (wipeE ρ vs)
  | [] => S
  | v :: vs => (Sr.wipe S vs).un
theorem wipe_in {σ : L2.St} {i : Nat} : ∀ {vs : List Nat}, i ∈ vs → i < σ.length → (L2.wipe σ vs)[i]? = some none
  | [], h, _ => by simp at h
  | v :: vs, h, hl => by
    unfold L2.wipe
    by_cases e : v = i
    · subst e
      exact List.getElem?_set_self (by rw [wipe_length]; exact hl)
    · rw [List.getElem?_set_ne e]
      have : i ∈ vs := by simpa [Ne.symm e] using h
      exact wipe_in this hl
theorem wipe_eq {σ σ2 : L2.St} {vs : List Nat} (hl : σ2.length = σ.length) (h : ∀ k : Nat, k ∉ vs → σ2[k]? = (L2.wipe σ vs)[k]?) : L2.wipe σ2 vs = L2.wipe σ vs := by
  refine List.ext_getElem? fun k => ?_
  by_cases hk : k ∈ vs
  · by_cases hi : k < σ.length
    · rw [wipe_in hk hi, wipe_in hk (by omega)]
    · rw [List.getElem?_eq_none (by rw [wipe_length]; omega), List.getElem?_eq_none (by rw [wipe_length]; omega)]
  · rw [wipe_out hk, h k hk]
noncomputable def dLcGo (gm : D → En → R En) (tm : En → R Bool) (em : En → R D) (ρw : En) : List D → R (List D)
  | [] => .ok []
  | d :: ds => (gm d ρw).bind fun ρ1 => (tm ρ1).bind fun b => if b = true then (em ρ1).bind fun y => (dLcGo gm tm em ρw ds).bind fun r => .ok (y :: r) else dLcGo gm tm em ρw ds
noncomputable def noer {α : Type} : R α → R α
  | .ok a => .ok a
  | _ => .st
noncomputable def dLc (vs : List Nat) (mi : En → R (List D)) (gm : D → En → R En) (tm : En → R Bool) (em : En → R D) : En → R DO := fun ρ =>
  (mi ρ).bind fun ds => if ds.length ≤ SZ then (noer (dLcGo gm tm em (wipeE ρ vs) ds)).bind fun r => .ok (.lst r) else .st
noncomputable def WF : WX := fun _ _ _ _ => False
structure UTs (X : Cx) (cl : Str → Option Addr) (W : WX) (e : List Expr) (te : TT) (me : En → R Bool) : Prop where
  pe : PTs X e te
  es : ∀ F0 H0 F H σ ρ Q, Sr X.K cl F0 H0 F H σ ρ → PostT X.K cl W σ F H Q (me ρ) → te σ H Q
noncomputable def dYes : En → R Bool := fun _ => .ok true
theorem uts_nil : UTs X cl W [] tYes dYes := ⟨pts_nil, fun F0 H0 F H σ ρ Q S p => p F H (Grow.refl S.ex)⟩
theorem es_lc {wi : TI} {g : TG} {tt : TT} {te : TE} {vs ws : List Nat} {mi : En → R (List D)} {gm : D → En → R En} {tm : En → R Bool} {em : En → R D}
    (hi : ∀ F0 H0 F H σ ρ Q, Sr K cl F0 H0 F H σ ρ → PostI K cl W false σ F H Q (mi ρ) → wi σ H Q)
    (hg : ∀ F0 H0 F H σ ρ v d Q, Sr K cl F0 H0 F H σ ρ → Rp K cl F v d → PostG K cl F0 H0 F H σ ws Q (gm d ρ) → g v σ H Q)
    (ht : ∀ F0 H0 F H σ ρ Q, Sr K cl F0 H0 F H σ ρ → PostT K cl WF σ F H Q (tm ρ) → tt σ H Q)
    (he : ∀ F0 H0 F H σ ρ Q, Sr K cl F0 H0 F H σ ρ → Post K cl WF σ F H Q (em ρ) → te σ H Q) (hws : ∀ k ∈ ws, k ∈ vs) :
    ∀ F0 H0 F H σ ρ Q, Sr K cl F0 H0 F H σ ρ → PostN K cl W σ F H Q (dLc vs mi gm tm em ρ) → tLc wi g tt te vs σ H Q := by
  intro F0 H0 F H σ ρ Q S p
  unfold dLc at p
  refine hi F0 H0 F H σ ρ _ S ?_
  cases e : mi ρ with
  | st => rw [e] at p; exact p
  | er x => rw [e] at p; exact p
  | ok ds =>
    rw [e, R.bind_ok] at p
    by_cases hz : ds.length ≤ SZ
    rotate_left
    · rw [if_neg hz] at p; exact p.elim
    rw [if_pos hz] at p
    cases e2 : dLcGo gm tm em (wipeE ρ vs) ds with
    | st => rw [e2] at p; exact p.elim
    | er x => rw [e2] at p; exact p.elim
    | ok fin =>
    rw [e2] at p
    have p : PostN K cl W σ F H Q (.ok (.lst fin)) := p
    intro J F1 H1 g1 it A hA
    refine ⟨fun i m H2 => m = ds.length - i ∧ i ≤ ds.length ∧ ∃ F2 acc accV r, Grow F1 H1 F2 H2 ∧ F2 A = none ∧ H2 A = some (.lst accV) ∧ Rps K cl F2 accV acc ∧ acc.length ≤ i ∧ dLcGo gm tm em (wipeE ρ vs) (ds.drop i) = .ok r ∧ acc ++ r = fin,
      ⟨ds.length, by simp, Nat.zero_le _, F1, [], [], fin, Grow.lay' g1.s hA, Grow.fnone g1.s hA, upd_same, Rps.nil, Nat.le_refl _, by simpa using e2, rfl⟩, ?_⟩
    rintro i m H2 ⟨rfl, hi, F2, acc, accV, r, g2, fA, hA2, ra, hacc, hgo, hfin⟩
    have I := it F2 H2 i g2.f g2.s g2.h
    by_cases hlt : i < ds.length
    · have hd : ds[i]? = some ds[i] := List.getElem?_eq_getElem hlt
      obtain ⟨go, yl⟩ := I.1 _ hd
      rw [List.drop_eq_getElem_cons hlt] at hgo
      refine .inr ⟨go, fun H' => ∃ F2 acc accV r, Grow F1 H1 F2 H' ∧ F2 A = none ∧ H' A = some (.lst accV) ∧ Rps K cl F2 accV acc ∧ acc.length ≤ i + 1 ∧ dLcGo gm tm em (wipeE ρ vs) (ds.drop (i + 1)) = .ok r ∧ acc ++ r = fin,
        fun H' n => ⟨ds.length - (i + 1), by omega, rfl, hlt, n⟩, fun x H3 y => ?_⟩
      obtain ⟨F3, g3, r3⟩ := yl x H3 y
      have Sw : Sr K cl F0 H0 F3 H3 (L2.wipe σ vs) (wipeE ρ vs) := ((S.mono ((g1.trans g2).trans g3))).wipe vs
      unfold dLcGo at hgo
      refine hg F0 H0 F3 H3 _ _ x _ _ Sw r3 ?_
      cases eg : gm ds[i] (wipeE ρ vs) with
      | st => rw [eg] at hgo; cases hgo
      | er x => rw [eg] at hgo; cases hgo
      | ok ρ1 =>
        rw [eg, R.bind_ok] at hgo
        intro σ2 S2 hl2 hk2
        refine ⟨wipe_eq (by rw [hl2, wipe_length]) fun k hk => hk2 k fun q => hk (hws k q), ?_⟩
        refine ht F0 H0 F3 H3 σ2 ρ1 _ S2 ?_
        cases et : tm ρ1 with
        | st => rw [et] at hgo; cases hgo
        | er x => rw [et] at hgo; cases hgo
        | ok b =>
          rw [et, R.bind_ok] at hgo
          intro F4 H4 g4
          have hA4 : H4 A = some (.lst accV) := g4.h _ _ (g3.h _ _ hA2)
          have fA4 : F4 A = none := g4.n _ _ (g3.h _ _ hA2) (g3.n _ _ hA2 fA)
          cases b with
          | false =>
            exact ⟨F4, acc, accV, r, (g2.trans g3).trans g4, fA4, hA4, (ra.mono g3.f).mono g4.f, by omega, hgo, hfin⟩
          | true =>
            have hgo : ((em ρ1).bind fun y => (dLcGo gm tm em (wipeE ρ vs) (ds.drop (i + 1))).bind fun r => .ok (y :: r)) = .ok r := hgo
            show te σ2 H4 _
            refine he F0 H0 F4 H4 σ2 ρ1 _ (S2.mono g4) ?_
            cases ee : em ρ1 with
            | st => rw [ee] at hgo; cases hgo
            | er x => rw [ee] at hgo; cases hgo
            | ok y =>
              rw [ee, R.bind_ok] at hgo
              intro v F5 H5 g5 r5
              have hA5 : H5 A = some (.lst accV) := g5.h _ _ hA4
              have fA5 : F5 A = none := g5.n _ _ hA4 fA4
              have ra5 : Rps K cl F5 accV acc := ((ra.mono g3.f).mono g4.f).mono g5.f
              cases e6 : dLcGo gm tm em (wipeE ρ vs) (ds.drop (i + 1)) with
              | st => rw [e6] at hgo; cases hgo
              | er x => rw [e6] at hgo; cases hgo
              | ok r' =>
                rw [e6] at hgo
                cases hgo
                refine ⟨accV, hA5, sz_lt (by rw [ra5.length]; omega), F5, acc ++ [y], accV ++ [v], r', ?_, fA5, upd_same, ra5.append (Rps.cons r5 Rps.nil), by rw [List.length_append]; simp; omega, rfl, by rw [List.append_assoc]; exact hfin⟩
                have g6 := ((g2.trans g3).trans g4).trans g5
                refine ⟨g6.f, fun a u q => ?_, fun a u q => ?_, g6.n⟩
                · have : a ≠ A := fun z => by rw [z, fA5] at q; cases q
                  rw [upd_ne this]; exact g6.s a u q
                · have : a ≠ A := fun z => by rw [z, hA] at q; cases q
                  rw [upd_ne this]; exact g6.h a u q
    · have e : i = ds.length := by omega
      subst e
      refine .inl ⟨I.2 (Nat.le_refl _), ?_⟩
      rw [List.drop_length] at hgo
      cases hgo
      rw [List.append_nil] at hfin
      subst hfin
      exact p A (.lst accV) F2 H2 (g1.trans g2) (g1.old A hA) fA hA2 ⟨accV, rfl, ra⟩
variable {elt tg iter : Expr} {ifs : List Expr} {scope : Scope} {own : List (Str × Nat)} {pos : Pos} {wi : TI} {g : TG} {tt : TT} {te : TE} {ws : List Nat} {mi : En → R (List D)} {gm : D → En → R En} {tm : En → R Bool} {em : En → R D}
/-- readings made from the mirrors -/
noncomputable def tStar (K : PySem.W.Frag) (cl : Str → Option Addr) (W : WX) (me : En → R D) : TE := fun σ H Q => ∃ F0 H0 F ρ, Sr K cl F0 H0 F H σ ρ ∧ Post K cl W σ F H Q (me ρ)
noncomputable def ttStar (K : PySem.W.Frag) (cl : Str → Option Addr) (W : WX) (me : En → R Bool) : TT := fun σ H Q => ∃ F0 H0 F ρ, Sr K cl F0 H0 F H σ ρ ∧ PostT K cl W σ F H Q (me ρ)
noncomputable def gStar (K : PySem.W.Frag) (cl : Str → Option Addr) (ws : List Nat) (gm : D → En → R En) : TG := fun v σ H Q => ∃ F0 H0 F ρ d, Sr K cl F0 H0 F H σ ρ ∧ Rp K cl F v d ∧ PostG K cl F0 H0 F H σ ws Q (gm d ρ)
theorem UE.star {X : Cx} {e : Expr} {te : TE} {me : En → R D} (h : UE X cl W e te me) : UE X cl W e (tStar X.K cl W me) me :=
  ⟨⟨fun pins s σ H Q I ⟨F0, H0, F, ρ, S, p⟩ => h.pe.run pins s σ H Q I (h.es F0 H0 F H σ ρ Q S p)⟩, fun F0 H0 F H σ ρ Q S p => ⟨F0, H0, F, ρ, S, p⟩⟩
theorem UTs.star {X : Cx} {e : List Expr} {te : TT} {me : En → R Bool} (h : UTs X cl W e te me) : UTs X cl W e (ttStar X.K cl W me) me :=
  ⟨⟨fun pins s σ H Q I ⟨F0, H0, F, ρ, S, p⟩ => h.pe.run pins s σ H Q I (h.es F0 H0 F H σ ρ Q S p)⟩, fun F0 H0 F H σ ρ Q S p => ⟨F0, H0, F, ρ, S, p⟩⟩
theorem UG.star {X : Cx} {e : Expr} {g : TG} {gm : D → En → R En} {ws : List Nat} (h : UG X cl e g gm ws) : UG X cl e (gStar X.K cl ws gm) gm ws :=
  ⟨⟨fun pins s σ H v u Q I r ⟨F0, H0, F, ρ, d, S, rp, p⟩ => h.pe.run pins s σ H v u Q I r (h.es F0 H0 F H σ ρ v d Q S rp p)⟩, fun F0 H0 F H σ ρ v d Q S rp p => ⟨F0, H0, F, ρ, d, S, rp, p⟩⟩
theorem un_lc {vs : List Nat} (hc : X.calm = true) (hN : X.N.Nodup) (hi : UI X cl W false tg iter wi mi) (ok : BlkOk X.N X.env.scope scope own) (hws : ∀ k ∈ ws, k ∈ own.map (·.2))
    (hg : ∀ (s : Shared) (H : Hp) (C : Addr) (cs : List (Str × Addr)) (fp : List Addr), ∃ g, UG (X.blk s H scope (compEnvC scope cs C X.env) fp) cl tg g gm ws)
    (ht : ∀ (s : Shared) (H : Hp) (C : Addr) (cs : List (Str × Addr)) (fp : List Addr), ∃ tt, UTs (X.blk s H scope (compEnvC scope cs C X.env) fp) cl WF ifs tt tm)
    (he : ∀ (s : Shared) (H : Hp) (C : Addr) (cs : List (Str × Addr)) (fp : List Addr), ∃ te, UE (X.blk s H scope (compEnvC scope cs C X.env) fp) cl WF elt te em) (hvs : own.map (·.2) = vs) (hs : ∀ x, foldedSetIterable iter X.env x = pure x := by intro _; rfl) :
    UN X cl W (.ListComp elt [⟨tg, iter, ifs, 0⟩] scope pos) (tLc wi (gStar X.K cl ws gm) (ttStar X.K cl WF tm) (tStar X.K cl WF em) (own.map (·.2))) (dLc vs mi gm tm em) := by
  subst hvs
  have hg' : ∀ (s : Shared) (H : Hp) (C : Addr) (cs : List (Str × Addr)) (fp : List Addr), UG (X.blk s H scope (compEnvC scope cs C X.env) fp) cl tg (gStar X.K cl ws gm) gm ws := fun s H C cs fp => (hg s H C cs fp).elim fun _ h => h.star
  have ht' : ∀ (s : Shared) (H : Hp) (C : Addr) (cs : List (Str × Addr)) (fp : List Addr), UTs (X.blk s H scope (compEnvC scope cs C X.env) fp) cl WF ifs (ttStar X.K cl WF tm) tm := fun s H C cs fp => (ht s H C cs fp).elim fun _ h => h.star
  have he' : ∀ (s : Shared) (H : Hp) (C : Addr) (cs : List (Str × Addr)) (fp : List Addr), UE (X.blk s H scope (compEnvC scope cs C X.env) fp) cl WF elt (tStar X.K cl WF em) em := fun s H C cs fp => (he s H C cs fp).elim fun _ h => h.star
  exact ⟨pe_lc hc hN hi.pe ok (fun s H C cs fp => (hg' s H C cs fp).pe) (fun s H C cs fp => (ht' s H C cs fp).pe) (fun s H C cs fp => (he' s H C cs fp).pe) hs,
    es_lc hi.es (hg' X.s_0 X.H_0 0 [] []).es (ht' X.s_0 X.H_0 0 [] []).es (he' X.s_0 X.H_0 0 [] []).es hws⟩
end
end UP
namespace UP
open PySem L2 PyProof.Rows
/-- what F' adds holds no tuple -/
noncomputable def NoTup (F F' : Hp) : Prop := ∀ a vs, F a = none → F' a ≠ some (.tup vs)
theorem NoTup.refl {F : Hp} : NoTup F F := fun a vs h => by rw [h]; exact fun z => nomatch z
theorem NoTup.trans {F F1 F2 : Hp} (a : NoTup F F1) (b : NoTup F1 F2) (e : Ex F1 F2) : NoTup F F2 := fun x vs h z => by
  cases q : F1 x with
  | none => exact b x vs q z
  | some o =>
    have := e _ _ q
    rw [z] at this
    cases this
    exact a x vs h q
section
variable {X : Cx} {cl : Str → Option Addr} {W : WX} {K : PySem.W.Frag} {F0 H0 F H F' H' : Hp} {σ : L2.St} {ρ : En}
theorem Sr.unE {i : Nat} (S : Sr K cl F0 H0 F H σ ρ) : Sr K cl F0 H0 F H σ (ρ.set i .un) := by
  by_cases hi : i < σ.length
  · have := S.un (i := i) (u := σ[i])
    rw [List.set_getElem_self] at this
    exact this
  · have : ρ.set i .un = ρ := List.set_eq_of_length_le (by have := S.len; omega)
    rw [this]; exact S
theorem Sr.new_tr {q : Addr} (S : Sr K cl F0 H0 F H σ ρ) (g : Grow F H F' H') (hq : H q = none) : ∀ (j : Nat) (t : DT) (v : V) (fp : List Addr), ρ[j]? = some (.tr t) → σ[j]? = some (some v) → Tr K cl F' H' v t fp → q ∉ fp := fun j t v fp e1 e2 h hm => by
  obtain ⟨ω, h1, h2, h3⟩ := S.tr
  obtain ⟨v', q1, q2, q3, q4⟩ := h1 j t e1
  rw [e2] at q1; cases q1
  have := h.fn (q2.mono g.f fun a ha => by
    obtain ⟨u, hu⟩ := q2.here a ha
    rw [g.h a u hu, hu])
  rw [this] at hm
  obtain ⟨u, hu⟩ := q2.here q hm
  rw [hq] at hu; cases hu
theorem set_un {i j : Nat} {q : Sl} (e : (ρ.set i .un)[j]? = some q) (hq : q ≠ .un) : j ≠ i ∧ ρ[j]? = some q := by
  by_cases h : i = j
  · subst h
    rw [List.getElem?_set] at e
    simp only [if_true] at e
    split at e <;> cases e
    exact absurd rfl hq
  · rw [List.getElem?_set_ne h] at e
    exact ⟨fun q => h q.symm, e⟩
theorem tr_ne {t : DT} : Sl.tr t ≠ .un := fun z => nomatch z
theorem own_ne {o : DO} : Sl.own o ≠ .un := fun z => nomatch z
theorem TrOk.notin {ρ' : En} {i : Nat} {o : DO} {p : Addr} (T : TrOk K cl H0 F H σ ρ) (hi : ρ[i]? = some (.own o)) (hp : σ[i]? = some (some (.ref p))) (hF : Ex F F') (hH : ∀ (a : Addr) (u : HO), H a = some u → F a = none → H0 a = none → a ≠ p → H' a = H a)
    (hρ : ∀ (j : Nat) (t : DT), ρ'[j]? = some (.tr t) → ρ[j]? = some (.tr t)) : ∀ (j : Nat) (t : DT) (v : V) (fp : List Addr), ρ'[j]? = some (.tr t) → σ[j]? = some (some v) → Tr K cl F' H' v t fp → p ∉ fp := fun j t v fp e1 e2 h hm => by
  obtain ⟨ω, h1, h2, h3⟩ := T
  have e1 := hρ j t e1
  obtain ⟨v', q1, q2, q3, q4⟩ := h1 j t e1
  rw [e2] at q1; cases q1
  have np := h3 j i t o p e1 hi hp
  have := h.fn (q2.mono hF fun a ha => by
    obtain ⟨u, hu⟩ := q2.here a ha
    exact hH a u hu (q4 a ha).1 (q4 a ha).2 fun z => np (z ▸ ha))
  rw [this] at hm
  exact np hm
mutual
noncomputable def frzD : DT → D
  | .fz d => d
  | .lst ts => .lst (frzDs ts)
  | .tup ts => .tup (frzDs ts)
  | .dk ks ts => .dk ks (frzDs ts)
  | .ob c ns ts => .obj c ns (frzDs ts)
noncomputable def frzDs : List DT → List D
  | [] => []
  | t :: ts => frzD t :: frzDs ts
end
mutual
noncomputable def noT : DT → Bool
  | .fz _ => true
  | .lst ts => noTs ts
  | .tup _ => false
  | .dk _ ts => noTs ts
  | .ob _ _ ts => noTs ts
noncomputable def noTs : List DT → Bool
  | [] => true
  | t :: ts => noT t && noTs ts
end
mutual
theorem Tr.rp (e : Ex F F') : ∀ {v : V} {t : DT} {fp : List Addr}, Tr K cl F H v t fp → (∀ a ∈ fp, F' a = H a) → Rp K cl F' v (frzD t)
  | v, .fz d, fp, h, _ => by unfold Tr at h; unfold frzD; exact h.2.mono e
  | v, .lst ts, fp, h, q => by
    unfold Tr at h; unfold frzD Rp
    obtain ⟨a, vs, fq, rfl, h1, rfl, h2⟩ := h
    exact ⟨a, vs, rfl, SqL.of (by rw [q a (by simp)]; exact h1), Trs.rp e h2 fun b hb => q b (by simp [hb])⟩
  | v, .tup ts, fp, h, q => by
    unfold Tr at h; unfold frzD Rp
    obtain ⟨a, vs, fq, rfl, h1, rfl, h2⟩ := h
    exact ⟨a, vs, rfl, by rw [q a (by simp)]; exact h1, Trs.rp e h2 fun b hb => q b (by simp [hb])⟩
  | v, .dk ks ts, fp, h, q => by
    unfold Tr at h; unfold frzD Rp
    obtain ⟨a, vs, fq, rfl, h1, hl, rfl, h2⟩ := h
    exact ⟨a, vs, rfl, by rw [q a (by simp)]; exact h1, hl, Trs.rp e h2 fun b hb => q b (by simp [hb])⟩
  | v, .ob c ns ts, fp, h, q => by
    unfold Tr at h; unfold frzD Rp
    obtain ⟨a, C, dx, vs, fq, rfl, h0, h1, hl, rfl, h2⟩ := h
    exact ⟨a, C, dx, vs, rfl, h0, by rw [q a (by simp)]; exact h1, hl, Trs.rp e h2 fun b hb => q b (by simp [hb])⟩
theorem Trs.rp (e : Ex F F') : ∀ {vs : List V} {ts : List DT} {fp : List Addr}, Trs K cl F H vs ts fp → (∀ a ∈ fp, F' a = H a) → Rps K cl F' vs (frzDs ts)
  | vs, [], fp, h, _ => by unfold Trs at h; unfold frzDs; rw [h.1]; exact Rps.nil
  | vs, t :: ts, fp, h, q => by
    unfold Trs at h; unfold frzDs
    obtain ⟨v, r, f1, f2, rfl, rfl, h1, h2⟩ := h
    exact Rps.cons (Tr.rp e h1 fun a ha => q a (by simp [ha])) (Trs.rp e h2 fun a ha => q a (by simp [ha]))
end
mutual
theorem Tr.noTup : ∀ {v : V} {t : DT} {fp : List Addr}, Tr K cl F H v t fp → noT t = true → ∀ a ∈ fp, ∀ vs, H a ≠ some (.tup vs)
  | v, .fz d, fp, h, _, a, ha => by unfold Tr at h; rw [h.1] at ha; cases ha
  | v, .lst ts, fp, h, n, b, hb => by
    unfold Tr at h; unfold noT at n
    obtain ⟨a, vs, fq, rfl, h1, rfl, h2⟩ := h
    rcases List.mem_cons.mp hb with e | e
    · intro us z; rw [e, h1] at z; cases z
    · exact Trs.noTup h2 n b e
  | v, .tup ts, fp, h, n, b, hb => by unfold noT at n; cases n
  | v, .dk ks ts, fp, h, n, b, hb => by
    unfold Tr at h; unfold noT at n
    obtain ⟨a, vs, fq, rfl, h1, hl, rfl, h2⟩ := h
    rcases List.mem_cons.mp hb with e | e
    · intro us z; rw [e, h1] at z; cases z
    · exact Trs.noTup h2 n b e
  | v, .ob c ns ts, fp, h, n, b, hb => by
    unfold Tr at h; unfold noT at n
    obtain ⟨a, C, dx, vs, fq, rfl, h0, h1, hl, rfl, h2⟩ := h
    rcases List.mem_cons.mp hb with e | e
    · intro us z; rw [e, h1] at z; cases z
    · exact Trs.noTup h2 n b e
theorem Trs.noTup : ∀ {vs : List V} {ts : List DT} {fp : List Addr}, Trs K cl F H vs ts fp → noTs ts = true → ∀ a ∈ fp, ∀ us, H a ≠ some (.tup us)
  | vs, [], fp, h, _, a, ha => by unfold Trs at h; rw [h.2] at ha; cases ha
  | vs, t :: ts, fp, h, n, a, ha => by
    unfold Trs at h; unfold noTs at n
    rw [Bool.and_eq_true] at n
    obtain ⟨v, r, f1, f2, rfl, rfl, h1, h2⟩ := h
    rcases List.mem_append.mp ha with e | e
    · exact Tr.noTup h1 n.1 a e
    · exact Trs.noTup h2 n.2 a e
end
theorem set_keep {i : Nat} {v : Option V} (hv : σ[i]? = some v) : σ.set i v = σ := by
  refine List.ext_getElem? fun k => ?_
  by_cases hk : i = k
  · subst hk; rw [List.getElem?_set_self (List.getElem?_eq_some_iff.mp hv).1, hv]
  · rw [List.getElem?_set_ne hk]
theorem Sr.frzTr {i : Nat} {t : DT} (S : Sr K cl F0 H0 F H σ ρ) (hi : ρ[i]? = some (.tr t)) : ∃ F', Ex F F' ∧ (noT t = true → NoTup F F') ∧ Sr K cl F0 H0 F' H σ (ρ.set i (.val (frzD t))) := by
  obtain ⟨ω, h1, h2, h3⟩ := S.tr
  obtain ⟨v, hv, hT, hn, hz⟩ := h1 i t hi
  let F' : Hp := fun a => if a ∈ ω i then H a else F a
  have in_ : ∀ {a}, a ∈ ω i → F' a = H a := fun h => if_pos h
  have out : ∀ {a}, a ∉ ω i → F' a = F a := fun h => if_neg h
  have ex : Ex F F' := fun a o e => by
    have : a ∉ ω i := fun z => by rw [(hz a z).1] at e; cases e
    rw [out this]; exact e
  refine ⟨F', ex, fun hq a vs e z => ?_, ?_⟩
  · by_cases ha : a ∈ ω i
    · rw [in_ ha] at z; exact hT.noTup hq a ha vs z
    · rw [out ha, e] at z; cases z
  have g : Grow F0 H0 F' H := ⟨S.grow.f.trans ex, fun a o e => by
    by_cases ha : a ∈ ω i
    · rw [in_ ha] at e; exact e
    · rw [out ha] at e; exact S.grow.s a o e, S.grow.h, fun a o e z => by
    have : a ∉ ω i := fun w => by rw [(hz a w).2] at e; cases e
    rw [out this]; exact S.grow.n a o e z⟩
  have S0 := S.unE (i := i)
  have S1 : Sr K cl F0 H0 F' H σ (ρ.set i .un) := by
    refine ⟨g, S0.len, fun j d e => ?_, fun j o e => ?_, S0.dis, ω, fun j t' e => ?_, fun j k t1 t2 a e1 e2 => h2 j k t1 t2 a (set_un e1 tr_ne).2 (set_un e2 tr_ne).2, fun j k t1 o p e1 e2 => h3 j k t1 o p (set_un e1 tr_ne).2 (set_un e2 own_ne).2⟩
    · obtain ⟨u, q1, q2⟩ := S0.val j d e
      exact ⟨u, q1, q2.mono ex⟩
    · obtain ⟨p, ho, q1, q2, q3, q4, q5⟩ := S0.own j o e
      have : p ∉ ω i := h3 i j t o p hi (set_un e own_ne).2 q1
      exact ⟨p, ho, q1, by rw [out this]; exact q2, q3, q4.mono ex, q5⟩
    · obtain ⟨hji, e'⟩ := set_un e tr_ne
      obtain ⟨u, q1, q2, q3, q4⟩ := h1 j t' e'
      exact ⟨u, q1, q2.mono ex fun _ _ => rfl, q3, fun a ha => ⟨by rw [out fun w => hji (h2 j i t' t a e' hi ha w)]; exact (q4 a ha).1, (q4 a ha).2⟩⟩
  have S2 := S1.set (i := i) (hT.rp ex fun a ha => in_ ha)
  rw [List.set_set, set_keep hv] at S2
  exact S2
/-- a tree of ours, new in a slot -/
theorem Sr.setTr {i : Nat} {v : V} {t : DT} {fp : List Addr} (S : Sr K cl F0 H0 F H σ ρ) (hT : Tr K cl F H v t fp) (hn : fp.Nodup) (hz : ∀ a ∈ fp, F a = none ∧ H0 a = none)
    (hd : ∀ (j : Nat) (o : DO) (p : Addr), ρ[j]? = some (.own o) → σ[j]? = some (some (.ref p)) → p ∉ fp)
    (ht : ∀ (j : Nat) (t' : DT) (v' : V) (fq : List Addr) (a : Addr), ρ[j]? = some (.tr t') → σ[j]? = some (some v') → Tr K cl F H v' t' fq → a ∈ fq → a ∉ fp) :
    Sr K cl F0 H0 F H (σ.set i (some v)) (ρ.set i (.tr t)) := by
  have hl := S.len
  by_cases hi : i < ρ.length
  rotate_left
  · rw [List.set_eq_of_length_le (by omega), List.set_eq_of_length_le (by omega)]; exact S
  have ne : ∀ {j : Nat} {q : Sl}, (ρ.set i (.tr t))[j]? = some q → (j = i ∧ q = .tr t) ∨ (j ≠ i ∧ ρ[j]? = some q) := fun {j q} e => by
    by_cases h : i = j
    · subst h
      rw [List.getElem?_set_self hi] at e
      cases e
      exact .inl ⟨rfl, rfl⟩
    · rw [List.getElem?_set_ne h] at e
      exact .inr ⟨fun z => h z.symm, e⟩
  obtain ⟨ω, h1, h2, h3⟩ := S.tr
  have tf : ∀ (j : Nat) (t' : DT), ρ[j]? = some (.tr t') → ∀ a ∈ ω j, a ∉ fp := fun j t' e a ha => by
    obtain ⟨u, q1, q2, _⟩ := h1 j t' e
    exact ht j t' u _ a e q1 q2 ha
  obtain ⟨ω', wi, wj⟩ : ∃ ω' : Nat → List Addr, ω' i = fp ∧ ∀ j, j ≠ i → ω' j = ω j := ⟨fun j => if j = i then fp else ω j, if_pos rfl, fun j h => if_neg h⟩
  refine ⟨S.grow, by simp [hl], fun j d e => ?_, fun j o e => ?_, fun j k o o' p e1 e2 e3 e4 => ?_, ω', fun j t' e => ?_, fun j k t1 t2 a e1 e2 z1 z2 => ?_, fun j k t' o p e1 e2 e3 hp => ?_⟩
  · rcases ne e with ⟨_, z⟩ | ⟨h, e⟩
    · cases z
    · obtain ⟨u, q1, q2⟩ := S.val j d e
      exact ⟨u, by rw [List.getElem?_set_ne (Ne.symm h)]; exact q1, q2⟩
  · rcases ne e with ⟨_, z⟩ | ⟨h, e⟩
    · cases z
    · obtain ⟨p, ho, q1, q2⟩ := S.own j o e
      exact ⟨p, ho, by rw [List.getElem?_set_ne (Ne.symm h)]; exact q1, q2⟩
  · rcases ne e1 with ⟨_, z⟩ | ⟨n1, e1⟩
    · cases z
    · rcases ne e2 with ⟨_, z⟩ | ⟨n2, e2⟩
      · cases z
      · rw [List.getElem?_set_ne (Ne.symm n1)] at e3
        rw [List.getElem?_set_ne (Ne.symm n2)] at e4
        exact S.dis j k o o' p e1 e2 e3 e4
  · rcases ne e with ⟨q, z⟩ | ⟨h, e⟩
    · cases z; rw [q, wi]
      exact ⟨v, List.getElem?_set_self (by omega), hT, hn, hz⟩
    · rw [wj j h, List.getElem?_set_ne (Ne.symm h)]
      exact h1 j t' e
  · rcases ne e1 with ⟨q1, _⟩ | ⟨n1, e1⟩
    · rcases ne e2 with ⟨q2, _⟩ | ⟨n2, e2⟩
      · rw [q1, q2]
      · rw [q1, wi] at z1
        rw [wj k n2] at z2
        exact absurd z1 (tf k t2 e2 a z2)
    · rcases ne e2 with ⟨q2, _⟩ | ⟨n2, e2⟩
      · rw [wj j n1] at z1
        rw [q2, wi] at z2
        exact absurd z2 (tf j t1 e1 a z1)
      · rw [wj j n1] at z1
        rw [wj k n2] at z2
        exact h2 j k t1 t2 a e1 e2 z1 z2
  · rcases ne e2 with ⟨_, z⟩ | ⟨n2, e2⟩
    · cases z
    · rw [List.getElem?_set_ne (Ne.symm n2)] at e3
      rcases ne e1 with ⟨q1, _⟩ | ⟨n1, e1⟩
      · rw [q1, wi] at hp
        exact hd k o p e2 e3 hp
      · rw [wj j n1] at hp
        exact h3 j k t' o p e1 e2 e3 hp
/-- a tree of ours is changed: only at its own places, or at places that are new -/
theorem Sr.trW {i : Nat} {v : V} {t t' : DT} {fp fp' : List Addr} (S : Sr K cl F0 H0 F H σ ρ) (hi : ρ[i]? = some (.tr t)) (hv : σ[i]? = some (some v)) (hT : Tr K cl F H v t fp)
    (hH : ∀ a, a ∉ fp → H' a = H a) (hT' : Tr K cl F H' v t' fp') (hn : fp'.Nodup)
    (hs : ∀ a ∈ fp', a ∈ fp ∨ (F a = none ∧ H0 a = none ∧ (∀ (j : Nat) (o : DO) (p : Addr), ρ[j]? = some (.own o) → σ[j]? = some (some (.ref p)) → p ≠ a) ∧
      ∀ (j : Nat) (t' : DT) (v' : V) (fq : List Addr), ρ[j]? = some (.tr t') → σ[j]? = some (some v') → Tr K cl F H v' t' fq → a ∉ fq)) : Sr K cl F0 H0 F H' σ (ρ.set i (.tr t')) := by
  obtain ⟨ω, h1, h2, h3⟩ := S.tr
  obtain ⟨u, q1, q2, q3, q4⟩ := h1 i t hi
  rw [hv] at q1; cases q1
  have := hT.fn q2
  subst this
  have ne : ∀ {a : Addr} {o : HO}, F a = some o → a ∉ ω i := fun {a o} e z => by rw [(q4 a z).1] at e; cases e
  have ne0 : ∀ {a : Addr} {o : HO}, H0 a = some o → a ∉ ω i := fun {a o} e z => by rw [(q4 a z).2] at e; cases e
  have S0 := S.unE (i := i)
  have S1 : Sr K cl F0 H0 F H' σ (ρ.set i .un) := by
    refine ⟨⟨S.grow.f, fun a o e => by rw [hH a (ne e)]; exact S.grow.s a o e, fun a o e => by rw [hH a (ne0 e)]; exact S.grow.h a o e, S.grow.n⟩, S0.len, S0.val, fun j o e => ?_, S0.dis, ω, fun j t' e => ?_, fun j k t1 t2 a e1 e2 => h2 j k t1 t2 a (set_un e1 tr_ne).2 (set_un e2 tr_ne).2, fun j k t1 o p e1 e2 => h3 j k t1 o p (set_un e1 tr_ne).2 (set_un e2 own_ne).2⟩
    · obtain ⟨p, ho, w1, w2, w3, w4, w5⟩ := S0.own j o e
      have : p ∉ ω i := h3 i j t o p hi (set_un e own_ne).2 w1
      exact ⟨p, ho, w1, w2, by rw [hH p this]; exact w3, w4, w5⟩
    · obtain ⟨hji, e'⟩ := set_un e tr_ne
      obtain ⟨u, w1, w2, w3, w4⟩ := h1 j t' e'
      exact ⟨u, w1, w2.mono (Ex.refl _) fun a ha => hH a fun w => hji (h2 j i t' t a e' hi ha w), w3, w4⟩
  have S2 := S1.setTr (i := i) hT' hn (fun a ha => (hs a ha).elim (q4 a) fun z => ⟨z.1, z.2.1⟩) (fun j o p e1 e2 hp => (hs p hp).elim (h3 i j t o p hi (set_un e1 own_ne).2 e2) fun z => z.2.2.1 j o p (set_un e1 own_ne).2 e2 rfl) fun j t1 v1 fq a e1 e2 e3 ha hp => by
    obtain ⟨hji, e1'⟩ := set_un e1 tr_ne
    obtain ⟨u, w1, w2, w3, w4⟩ := h1 j t1 e1'
    rw [e2] at w1; cases w1
    have := e3.fn (w2.mono (Ex.refl _) fun b hb => hH b fun w => hji (h2 j i t1 t b e1' hi hb w))
    rw [this] at ha
    rcases hs a hp with z | z
    · exact hji (h2 j i t1 t a e1' hi ha z)
    · exact z.2.2.2 j t1 v1 _ e1' e2 w2 ha
  rw [List.set_set, set_keep hv] at S2
  exact S2
end
end UP
namespace UP
open PySem L2 PyProof.Rows
inductive Fl (α : Type) where
  | nx (ρ : En) | rt (a : α) (ρ : En) | bk (ρ : En) | ct (ρ : En) | er (x : Exc) (ρ : En) | st
/-- slots whose address stays -/
noncomputable def Pin (mp : List (Nat × Addr)) (σ : L2.St) : Prop := ∀ q ∈ mp, σ[q.1]? = some (some (.ref q.2))
/-- what is wanted of what is told back -/
noncomputable abbrev RPt (α : Type) := Hp → Hp → VK → α → En → Prop
noncomputable def RPV (K : PySem.W.Frag) (cl : Str → Option Addr) (mp : List (Nat × Addr)) : RPt D := fun F0 H0 rt d ρ => ∀ v σ F H, Sr K cl F0 H0 F H σ ρ → Pin mp σ → Rp K cl F v d → rt v H
noncomputable def RPN (K : PySem.W.Frag) (cl : Str → Option Addr) (mp : List (Nat × Addr)) : RPt DO := fun F0 H0 rt o ρ => ∀ p ho σ F H, Sr K cl F0 H0 F H σ ρ → Pin mp σ → F p = none → H p = some ho → HR K cl F ho o → H0 p = none → rt (.ref p) H
noncomputable def PostS {α : Type} (K : PySem.W.Frag) (cl : Str → Option Addr) (W : WX) (mp : List (Nat × Addr)) (RP : RPt α) (F0 H0 F : Hp) (Dn : Ends) : Fl α → Prop
  | .nx ρ => ∀ σ F' H', Ex F F' → Sr K cl F0 H0 F' H' σ ρ → Pin mp σ → Dn.nx σ H'
  | .bk ρ => ∀ σ F' H', Ex F F' → Sr K cl F0 H0 F' H' σ ρ → Pin mp σ → Dn.bk σ H'
  | .ct ρ => ∀ σ F' H', Ex F F' → Sr K cl F0 H0 F' H' σ ρ → Pin mp σ → Dn.ct σ H'
  | .rt a ρ => RP F0 H0 Dn.rt a ρ
  | .er x ρ => ∀ cls dd σ F' H', Ex F F' → Sr K cl F0 H0 F' H' σ ρ → Pin mp σ → ExR K cl F' x cls dd → W cls dd σ H'
  | .st => False
section
variable {α : Type} {X : Cx} {cl : Str → Option Addr} {W : WX} {K : PySem.W.Frag} {F0 H0 F H F' H' : Hp} {σ : L2.St} {ρ : En} {mp : List (Nat × Addr)} {RP : RPt α} {Dn : Ends}
theorem PostS.mono {r : Fl α} (h : PostS K cl W mp RP F0 H0 F Dn r) (e : Ex F F') : PostS K cl W mp RP F0 H0 F' Dn r := by
  cases r with
  | nx ρ => exact fun σ F2 H2 e2 => h σ F2 H2 (e.trans e2)
  | bk ρ => exact fun σ F2 H2 e2 => h σ F2 H2 (e.trans e2)
  | ct ρ => exact fun σ F2 H2 e2 => h σ F2 H2 (e.trans e2)
  | er x ρ => exact fun c d σ F2 H2 e2 => h c d σ F2 H2 (e.trans e2)
  | rt a ρ => exact h
  | st => exact h
structure US (X : Cx) (cl : Str → Option Addr) (W : WX) (mp : List (Nat × Addr)) (RP : RPt α) (s : Stmt) (t : TS) (m : En → Fl α) : Prop where
  pe : PS X s t
  es : ∀ F0 H0 F H σ ρ Dn, Sr X.K cl F0 H0 F H σ ρ → Pin mp σ → PostS X.K cl W mp RP F0 H0 F Dn (m ρ) → t Dn σ H
structure USs (X : Cx) (cl : Str → Option Addr) (W : WX) (mp : List (Nat × Addr)) (RP : RPt α) (s : List Stmt) (t : TS) (m : En → Fl α) : Prop where
  pe : PSs X s t
  es : ∀ F0 H0 F H σ ρ Dn, Sr X.K cl F0 H0 F H σ ρ → Pin mp σ → PostS X.K cl W mp RP F0 H0 F Dn (m ρ) → t Dn σ H
noncomputable def fNext : En → Fl α := .nx
noncomputable def fThen (r : Fl α) (k : En → Fl α) : Fl α := match r with
  | .nx ρ => k ρ
  | r => r
noncomputable def fSeq (a b : En → Fl α) : En → Fl α := fun ρ => fThen (a ρ) b
variable {st : Stmt} {rest : List Stmt} {t u : TS} {m n : En → Fl α} {e : Expr} {te : TE} {pos : Pos}
theorem uss_nil : USs X cl W mp RP [] tNext fNext := ⟨pss_nil, fun F0 H0 F H σ ρ Dn S P p => p σ F H (Ex.refl _) S P⟩
theorem uss_one (h : US X cl W mp RP st t m) : USs X cl W mp RP [st] t m := ⟨pss_one h.pe, h.es⟩
theorem es_seq (h1 : ∀ F0 H0 F H σ ρ Dn, Sr K cl F0 H0 F H σ ρ → Pin mp σ → PostS K cl W mp RP F0 H0 F Dn (m ρ) → t Dn σ H)
    (h2 : ∀ F0 H0 F H σ ρ Dn, Sr K cl F0 H0 F H σ ρ → Pin mp σ → PostS K cl W mp RP F0 H0 F Dn (n ρ) → u Dn σ H) :
    ∀ F0 H0 F H σ ρ Dn, Sr K cl F0 H0 F H σ ρ → Pin mp σ → PostS K cl W mp RP F0 H0 F Dn (fSeq m n ρ) → tSeq t u Dn σ H := by
  intro F0 H0 F H σ ρ Dn S P p
  refine h1 F0 H0 F H σ ρ _ S P ?_
  unfold fSeq at p
  cases e : m ρ with
  | nx ρ' =>
    rw [e] at p
    exact fun σ' F' H' e1 S' P' => h2 F0 H0 F' H' σ' ρ' Dn S' P' (PostS.mono p e1)
  | bk ρ' => rw [e] at p; exact p
  | ct ρ' => rw [e] at p; exact p
  | rt a ρ' => rw [e] at p; exact p
  | er x ρ' => rw [e] at p; exact p
  | st => rw [e] at p; exact p
theorem uss_cons (h1 : US X cl W mp RP st t m) (h2 : USs X cl W mp RP rest u n) : USs X cl W mp RP (st :: rest) (tSeq t u) (fSeq m n) := ⟨pss_cons h1.pe h2.pe, es_seq h1.es h2.es⟩
noncomputable def fOf {β : Type} (r : R β) (ρ : En) (k : β → Fl α) : Fl α := match r with
  | .ok d => k d
  | .er x => .er x ρ
  | .st => .st
theorem pin_set {i : Nat} {v : Option V} (P : Pin mp σ) (h : i ∉ mp.map (·.1)) : Pin mp (σ.set i v) := fun q hq => by
  have : i ≠ q.1 := fun z => h (List.mem_map.mpr ⟨q, hq, z.symm⟩)
  rw [List.getElem?_set_ne this]
  exact P q hq
/-- from what is wanted of a statement to what is wanted of its expression -/
theorem post_of {me : R D} {k : D → Fl α} {Q : VK} (S : Sr K cl F0 H0 F H σ ρ) (P : Pin mp σ) (p : PostS K cl W mp RP F0 H0 F Dn (fOf me ρ k))
    (h : ∀ d v F1 H1, Grow F H F1 H1 → Rp K cl F1 v d → PostS K cl W mp RP F0 H0 F1 Dn (k d) → Q v H1) : Post K cl W σ F H Q me := by
  cases me with
  | ok d => exact fun v F1 H1 g r => h d v F1 H1 g r (PostS.mono p g.f)
  | er x => exact fun c d F1 H1 g r => p c d σ F1 H1 g.f (S.mono g) P r
  | st => exact p
theorem postN_of {me : R DO} {k : DO → Fl α} {Q : VK} (S : Sr K cl F0 H0 F H σ ρ) (P : Pin mp σ) (p : PostS K cl W mp RP F0 H0 F Dn (fOf me ρ k))
    (h : ∀ o q ho F1 H1, Grow F H F1 H1 → H q = none → F1 q = none → H1 q = some ho → HR K cl F1 ho o → PostS K cl W mp RP F0 H0 F1 Dn (k o) → Q (.ref q) H1) : PostN K cl W σ F H Q me := by
  cases me with
  | ok o => exact fun q ho F1 H1 g h0 h1 h2 r => h o q ho F1 H1 g h0 h1 h2 r (PostS.mono p g.f)
  | er x => exact fun c d F1 H1 g r => p c d σ F1 H1 g.f (S.mono g) P r
  | st => exact p
theorem postT_of {me : R Bool} {k : Bool → Fl α} {Q : Bool → Hp → Prop} (S : Sr K cl F0 H0 F H σ ρ) (P : Pin mp σ) (p : PostS K cl W mp RP F0 H0 F Dn (fOf me ρ k))
    (h : ∀ b F1 H1, Grow F H F1 H1 → PostS K cl W mp RP F0 H0 F1 Dn (k b) → Q b H1) : PostT K cl W σ F H Q me := by
  cases me with
  | ok b => exact fun F1 H1 g => h b F1 H1 g (PostS.mono p g.f)
  | er x => exact fun c d F1 H1 g r => p c d σ F1 H1 g.f (S.mono g) P r
  | st => exact p
/-- x = e -/
noncomputable def fSet (i : Nat) (me : En → R D) : En → Fl α := fun ρ => fOf (me ρ) ρ fun d => .nx (ρ.set i (.val d))
theorem us_set {i : Nat} {x : Str} {me : En → R D} {pos' : Pos} (hN : X.N.Nodup) (hi : X.N[i]? = some x) (hx : Loc X.env.scope x) (he : UE X cl W e te me) (hp : i ∉ mp.map (·.1)) (hs : swapsWith e (some (.Name x pos')) pos.line X.env = pure false := by rfl)
    (hf : X.fn x = true ∨ X.env.scope.names.lookup x = some .local := by first | exact .inl rfl | exact .inr rfl | assumption) : US X cl W mp RP (.Assign [.Name x pos'] e pos) (tAsg te (gName i)) (fSet i me) := by
  refine ⟨ps_set hN hi hx he.pe hs hf, fun F0 H0 F H σ ρ Dn S P p => he.es F0 H0 F H σ ρ _ S (post_of S P p fun d v F1 H1 g r q => ?_)⟩
  exact q _ F1 H1 (Ex.refl _) ((S.mono g).set r) (pin_set P hp)
noncomputable def fSetN (i : Nat) (me : En → R DO) : En → Fl α := fun ρ => fOf (me ρ) ρ fun o => .nx (ρ.set i (.own o))
theorem Sr.own_new {q : Addr} (S : Sr K cl F0 H0 F H σ ρ) (hq : H q = none) : ∀ (j : Nat) (o : DO), ρ[j]? = some (.own o) → σ[j]? ≠ some (some (.ref q)) := fun j o e z => by
  obtain ⟨p, ho, h1, _, h3, _⟩ := S.own j o e
  rw [h1] at z
  cases z
  rw [hq] at h3; cases h3
theorem es_setN {i : Nat} {me : En → R DO} (hp : i ∉ mp.map (·.1)) (he : ∀ F0 H0 F H σ ρ Q, Sr K cl F0 H0 F H σ ρ → PostN K cl W σ F H Q (me ρ) → te σ H Q) :
    ∀ F0 H0 F H σ ρ Dn, Sr K cl F0 H0 F H σ ρ → Pin mp σ → PostS K cl W mp RP F0 H0 F Dn (fSetN i me ρ) → tAsg te (gName i) Dn σ H := by
  intro F0 H0 F H σ ρ Dn S P p
  refine he F0 H0 F H σ ρ _ S (postN_of S P p fun o q ho F1 H1 g h0 h1 h2 r z => ?_)
  exact z _ F1 H1 (Ex.refl _) ((S.mono g).setOwn h1 h2 r (S.grow.old q h0) (S.own_new h0) (S.new_tr g h0)) (pin_set P hp)
theorem us_setN {i : Nat} {x : Str} {me : En → R DO} {pos' : Pos} (hN : X.N.Nodup) (hi : X.N[i]? = some x) (hx : Loc X.env.scope x) (he : UN X cl W e te me) (hp : i ∉ mp.map (·.1)) (hs : swapsWith e (some (.Name x pos')) pos.line X.env = pure false := by rfl)
    (hf : X.fn x = true ∨ X.env.scope.names.lookup x = some .local := by first | exact .inl rfl | exact .inr rfl | assumption) : US X cl W mp RP (.Assign [.Name x pos'] e pos) (tAsg te (gName i)) (fSetN i me) :=
  ⟨ps_set hN hi hx he.pe hs hf, es_setN hp he.es⟩
theorem us_setLcF {vs : List Nat} {i : Nat} {y : Str} {py : Pos} {elt tg iter : Expr} {ifs : List Expr} {scope : Scope} {own : List (Str × Nat)} {pos spos : Pos} {wi : TI} {ws : List Nat} {mi : En → R (List D)} {gm : D → En → R En} {tm : En → R Bool} {em : En → R D}
    (hc : X.calm = true) (hN : X.N.Nodup) (hy : X.N[i]? = some y) (hyl : X.env.scope.names.lookup y = some .local) (hp : i ∉ mp.map (·.1))
    (hsw : swapsWith (.ListComp elt [⟨tg, iter, ifs, 0⟩] scope pos) (some (.Name y py)) spos.line X.env = pure true)
    (hi : UI X cl W false tg iter wi mi) (ok : BlkOk X.N X.env.scope scope own) (hws : ∀ k ∈ ws, k ∈ own.map (·.2))
    (hg : ∀ (s : Shared) (H : Hp) (C : Addr) (cs : List (Str × Addr)) (fp : List Addr), ∃ g, UG (X.blk s H scope (compEnvC scope cs C X.env) fp) cl tg g gm ws)
    (ht : ∀ (s : Shared) (H : Hp) (C : Addr) (cs : List (Str × Addr)) (fp : List Addr), ∃ tt, UTs (X.blk s H scope (compEnvC scope cs C X.env) fp) cl WF ifs tt tm)
    (he : ∀ (s : Shared) (H : Hp) (C : Addr) (cs : List (Str × Addr)) (fp : List Addr), ∃ te, UE (X.blk s H scope (compEnvC scope cs C X.env) fp) cl WF elt te em) (hvs : own.map (·.2) = vs) (hs : ∀ x, foldedSetIterable iter X.env x = pure x := by intro _; rfl) :
    US X cl W mp RP (.Assign [.Name y py] (.ListComp elt [⟨tg, iter, ifs, 0⟩] scope pos) spos) (tAsg (tLc wi (gStar X.K cl ws gm) (ttStar X.K cl WF tm) (tStar X.K cl WF em) (own.map (·.2))) (gName i)) (fSet i (d1 dFz (dLc vs mi gm tm em))) := by
  subst hvs
  have hg' : ∀ (s : Shared) (H : Hp) (C : Addr) (cs : List (Str × Addr)) (fp : List Addr), UG (X.blk s H scope (compEnvC scope cs C X.env) fp) cl tg (gStar X.K cl ws gm) gm ws := fun s H C cs fp => (hg s H C cs fp).elim fun _ h => h.star
  have ht' : ∀ (s : Shared) (H : Hp) (C : Addr) (cs : List (Str × Addr)) (fp : List Addr), UTs (X.blk s H scope (compEnvC scope cs C X.env) fp) cl WF ifs (ttStar X.K cl WF tm) tm := fun s H C cs fp => (ht s H C cs fp).elim fun _ h => h.star
  have he' : ∀ (s : Shared) (H : Hp) (C : Addr) (cs : List (Str × Addr)) (fp : List Addr), UE (X.blk s H scope (compEnvC scope cs C X.env) fp) cl WF elt (tStar X.K cl WF em) em := fun s H C cs fp => (he s H C cs fp).elim fun _ h => h.star
  exact ⟨ps_setLc hc hN hy hyl hsw hi.pe ok (fun s H C cs fp => (hg' s H C cs fp).pe) (fun s H C cs fp => (ht' s H C cs fp).pe) (fun s H C cs fp => (he' s H C cs fp).pe) hs,
    fun F0 H0 F H σ ρ Dn S P p => (UN.e (un_lc (pos := pos) hc hN hi ok hws hg ht he rfl hs)).es F0 H0 F H σ ρ _ S (post_of S P p fun d v F1 H1 g r q => q _ F1 H1 (Ex.refl _) ((S.mono g).set r) (pin_set P hp))⟩
/-- return; nothing is known any more -/
noncomputable def wipeA (ρ : En) : En := ρ.map fun _ => .un
theorem Sr.unsE (S : Sr K cl F0 H0 F H σ ρ) : ∀ vs : List Nat, Sr K cl F0 H0 F H σ (wipeE ρ vs)
  | [] => S
  | v :: vs => (Sr.unsE S vs).unE
theorem Sr.unA (S : Sr K cl F0 H0 F H σ ρ) : Sr K cl F0 H0 F H σ (wipeA ρ) := by
  have no : ∀ {i : Nat} {q : Sl}, (wipeA ρ)[i]? = some q → q = .un := fun {i q} e => by
    unfold wipeA at e
    rw [List.getElem?_map] at e
    cases h : ρ[i]? with
    | none => rw [h] at e; cases e
    | some z => rw [h] at e; cases e; rfl
  refine ⟨S.grow, by unfold wipeA; rw [List.length_map]; exact S.len, fun i d e => ?_, fun i o e => ?_, fun i j o o' p e => ?_, trOk_none fun i t e => ?_⟩
  · cases no e
  · cases no e
  · cases no e
  · cases no e
noncomputable def fRet (me : En → R D) : En → Fl D := fun ρ => fOf (me ρ) ρ fun d => .rt d (wipeA ρ)
theorem us_ret {me : En → R D} (he : UE X cl W e te me) : US X cl W mp (RPV X.K cl mp) (.Return (some e) pos) (tRet te) (fRet me) :=
  ⟨ps_ret he.pe, fun F0 H0 F H σ ρ Dn S P p => he.es F0 H0 F H σ ρ _ S (post_of S P p fun d v F1 H1 g r q => q v σ F1 H1 (S.mono g).unA P r)⟩
noncomputable def fRetN (me : En → R DO) : En → Fl DO := fun ρ => fOf (me ρ) ρ fun d => .rt d (wipeA ρ)
theorem us_retN {me : En → R DO} (he : UN X cl W e te me) : US X cl W mp (RPN X.K cl mp) (.Return (some e) pos) (tRet te) (fRetN me) :=
  ⟨ps_ret he.pe, fun F0 H0 F H σ ρ Dn S P p => he.es F0 H0 F H σ ρ _ S (postN_of S P p fun o q ho F1 H1 g h0 h1 h2 r z => z q ho σ F1 H1 (S.mono g).unA P h1 h2 r (S.grow.old q h0))⟩
noncomputable def fRetO (i : Nat) : En → Fl DO := fun ρ => match ρ[i]? with
  | some (.own o) => .rt o (wipeA ρ)
  | _ => .st
theorem us_retO {i : Nat} (he : PE X e (tVar i)) : US X cl W mp (RPN X.K cl mp) (.Return (some e) pos) (tRet (tVar i)) (fRetO i) := by
  refine ⟨ps_ret he, fun F0 H0 F H σ ρ Dn S P p => ?_⟩
  unfold fRetO at p
  split at p
  · rename_i o ho
    obtain ⟨q, h, h1, h2, h3, h4, h5⟩ := S.own i o ho
    exact ⟨_, h1, p q h σ F H S.unA P h2 h3 h4 h5⟩
  · exact p.elim
/-- if -/
noncomputable def fIf (mc : En → R Bool) (a b : En → Fl α) : En → Fl α := fun ρ => fOf (mc ρ) ρ fun c => if c = true then a ρ else b ρ
theorem us_if {c : Expr} {a b : List Stmt} {tc : TT} {mc : En → R Bool} (hc : UT X cl W c tc mc) (ha : USs X cl W mp RP a t m) (hb : USs X cl W mp RP b u n) : US X cl W mp RP (.If c a b pos) (tIfS tc t u) (fIf mc m n) := by
  refine ⟨ps_if hc.pe ha.pe hb.pe, fun F0 H0 F H σ ρ Dn S P p => hc.es F0 H0 F H σ ρ _ S (postT_of S P p fun k F1 H1 g q => ?_)⟩
  cases k with
  | true => exact ha.es F0 H0 F1 H1 σ ρ Dn (S.mono g) P q
  | false => exact hb.es F0 H0 F1 H1 σ ρ Dn (S.mono g) P q
noncomputable def fAft (r : Fl α) (k : En → Fl α) : Fl α := match r with
  | .nx ρ => k ρ
  | .ct ρ => k ρ
  | .bk ρ => .nx ρ
  | .rt a ρ => .rt a ρ
  | .er x ρ => .er x ρ
  | .st => .st
noncomputable def fG (r : R En) (k : En → Fl α) : Fl α := match r with
  | .ok ρ => k ρ
  | _ => .st
noncomputable def fLoop (mg : D → En → R En) (mb : En → Fl α) : List D → En → Fl α
  | [], ρ => .nx ρ
  | d :: ds, ρ => fG (mg d ρ) fun ρ1 => fAft (mb ρ1) (fLoop mg mb ds)
noncomputable def fFor (W : List Nat) (mi : En → R (List D)) (mg : D → En → R En) (mb : En → Fl α) : En → Fl α := fun ρ => fOf (mi ρ) ρ fun ds => fLoop mg mb ds (wipeE ρ W)
theorem us_for (Wp : List Nat) {tg iter : Expr} {body : List Stmt} {wi : TI} {g : TG} {tb : TS} {mi : En → R (List D)} {mg : D → En → R En} {ws : List Nat} {mb : En → Fl α} (po : PassesOwn (model X.prog X.w) X.A X.env X.xe) (hc : X.calm = true)
    (hi : UI X cl W true tg iter wi mi) (hg : UG X cl tg g mg ws) (hb : USs X cl W mp RP body tb mb) (hp : ∀ i ∈ ws, i ∉ mp.map (·.1))
    (hs : ∀ x, foldedSetIterable iter X.env x = pure x := by intro _; rfl) : US X cl W mp RP (.For tg iter body [] pos) (tFor wi g tb) (fFor Wp mi mg mb) := by
  refine ⟨ps_for po hc hi.pe hg.pe hb.pe hs, fun F0 H0 F H σ ρ Dn S P p => hi.es F0 H0 F H σ ρ _ S ?_⟩
  unfold fFor at p
  cases e : mi ρ with
  | st => rw [e] at p; exact p
  | er x => rw [e] at p; exact fun c d F1 H1 g r => p c d σ F1 H1 g.f (S.mono g) P r
  | ok ds =>
    rw [e] at p
    have p : PostS X.K cl W mp RP F0 H0 F Dn (fLoop mg mb ds (wipeE ρ Wp)) := p
    intro J F1 H1 g1 it
    refine ⟨fun i m σ H => m = ds.length - i ∧ i ≤ ds.length ∧ ∃ F2 ρ2, Sr X.K cl F0 H0 F2 H σ ρ2 ∧ Pin mp σ ∧ Ex F1 F2 ∧ PostS X.K cl W mp RP F0 H0 F2 Dn (fLoop mg mb (ds.drop i) ρ2),
      ⟨ds.length, by simp, Nat.zero_le _, F1, wipeE ρ Wp, (S.mono g1).unsE Wp, P, Ex.refl _, by simpa using PostS.mono p g1.f⟩, ?_⟩
    rintro i m σ H ⟨rfl, hi, F2, ρ2, S2, P2, e2, p2⟩
    have I := it F2 H i e2 S2.ex (e2.trans S2.ex)
    by_cases hlt : i < ds.length
    · have hd : ds[i]? = some ds[i] := List.getElem?_eq_getElem hlt
      obtain ⟨go, yl⟩ := I.1 _ hd
      rw [List.drop_eq_getElem_cons hlt] at p2
      refine .inr ⟨go, fun σ H => ∃ F2 ρ2, Sr X.K cl F0 H0 F2 H σ ρ2 ∧ Pin mp σ ∧ Ex F1 F2 ∧ PostS X.K cl W mp RP F0 H0 F2 Dn (fLoop mg mb (ds.drop (i + 1)) ρ2), fun σ' H' n => ⟨ds.length - (i + 1), by omega, rfl, hlt, n⟩, fun x H3 y => ?_⟩
      obtain ⟨F3, g3, r3⟩ := yl x H3 y
      refine hg.es F0 H0 F3 H3 σ ρ2 x _ _ (S2.mono g3) r3 ?_
      have p2 : PostS X.K cl W mp RP F0 H0 F2 Dn (fG (mg ds[i] ρ2) fun ρ1 => fAft (mb ρ1) (fLoop mg mb (ds.drop (i + 1)))) := p2
      cases e3 : mg ds[i] ρ2 with
      | st => rw [e3] at p2; exact p2
      | er x => rw [e3] at p2; exact p2
      | ok ρ3 =>
        rw [e3] at p2
        have p2 : PostS X.K cl W mp RP F0 H0 F2 Dn (fAft (mb ρ3) (fLoop mg mb (ds.drop (i + 1)))) := p2
        intro σ3 S3 hl3 hk3
        have P3 : Pin mp σ3 := fun z hz => by rw [hk3 _ fun w => hp _ w (List.mem_map.mpr ⟨z, hz, rfl⟩)]; exact P2 z hz
        have E3 := e2.trans g3.f
        refine hb.es F0 H0 F3 H3 σ3 ρ3 _ S3 P3 ?_
        cases e4 : mb ρ3 with
        | nx ρ4 => rw [e4] at p2; exact fun σ4 F4 H4 E4 S4 P4 => ⟨F4, ρ4, S4, P4, E3.trans E4, PostS.mono p2 (g3.f.trans E4)⟩
        | ct ρ4 => rw [e4] at p2; exact fun σ4 F4 H4 E4 S4 P4 => ⟨F4, ρ4, S4, P4, E3.trans E4, PostS.mono p2 (g3.f.trans E4)⟩
        | bk ρ4 => rw [e4] at p2; exact fun σ4 F4 H4 E4 S4 P4 => p2 σ4 F4 H4 (g3.f.trans E4) S4 P4
        | rt a ρ4 => rw [e4] at p2; exact p2
        | er x ρ4 => rw [e4] at p2; exact fun c d σ4 F4 H4 E4 S4 P4 => p2 c d σ4 F4 H4 (g3.f.trans E4) S4 P4
        | st => rw [e4] at p2; exact p2
    · have e : i = ds.length := by omega
      subst e
      rw [List.drop_length] at p2
      exact .inl ⟨I.2 (Nat.le_refl _), p2 σ F2 H (Ex.refl _) S2 P2⟩
noncomputable def fW (Wp : List Nat) : Fl α → Fl α
  | .nx ρ => .nx (wipeE ρ Wp)
  | .ct ρ => .ct (wipeE ρ Wp)
  | .bk ρ => .bk (wipeE ρ Wp)
  | r => r
noncomputable def fWb (Wp : List Nat) (m : En → Fl α) : En → Fl α := fun ρ => fW Wp (m ρ)
theorem uss_W {s : List Stmt} (Wp : List Nat) (h : USs X cl W mp RP s t m) : USs X cl W mp RP s t (fWb Wp m) := by
  refine ⟨h.pe, fun F0 H0 F H σ ρ Dn S P p => h.es F0 H0 F H σ ρ Dn S P ?_⟩
  unfold fWb at p
  cases e : m ρ with
  | nx ρ' => rw [e] at p; exact fun σ F' H' x S' P' => p σ F' H' x (S'.unsE Wp) P'
  | ct ρ' => rw [e] at p; exact fun σ F' H' x S' P' => p σ F' H' x (S'.unsE Wp) P'
  | bk ρ' => rw [e] at p; exact fun σ F' H' x S' P' => p σ F' H' x (S'.unsE Wp) P'
  | rt a ρ' => rw [e] at p; exact p
  | er x ρ' => rw [e] at p; exact p
  | st => rw [e] at p; exact p
noncomputable def dFz? : DO → Option D
  | .lst xs => some (.lst xs)
  | .dK ks xs => some (.dk ks xs)
  | .ins c ns xs => some (.obj c ns xs)
  | .dT _ _ => none
noncomputable def frzE (i : Nat) (ρ : En) : En := match ρ[i]? with
  | some (.own o) => match dFz? o with
    | some d => ρ.set i (.val d)
    | none => ρ
  | some (.tr t) => if noT t = true then ρ.set i (.val (frzD t)) else ρ
  | _ => ρ
theorem dFz_ok {o : DO} {d : D} (h : dFz? o = some d) : dFz o = .ok d := by cases o <;> cases h <;> rfl
theorem Sr.frz (S : Sr K cl F0 H0 F H σ ρ) (i : Nat) : ∃ F', Ex F F' ∧ Sr K cl F0 H0 F' H σ (frzE i ρ) := by
  unfold frzE
  split
  · rename_i o hi
    split
    · rename_i d hd
      obtain ⟨p, ho, h1, h2, h3, h4, h5⟩ := S.own i o hi
      have r := rp_fz h4 h2 (dFz_ok hd)
      have ex := Ex.new (o := ho) h2
      refine ⟨upd F p ho, ex, ?_⟩
      have hl := S.len
      have hi' : i < ρ.length := (List.getElem?_eq_some_iff.mp hi).1
      have S1 : Sr K cl F0 H0 (upd F p ho) H σ (ρ.set i .un) := by
        have S0 := S.unE (i := i)
        refine ⟨S.grow.freeze h5 h2 h3, S0.len, fun j d' e => ?_, fun j o' e => ?_, S0.dis, S.tr.to (fun j t e => ⟨(set_un e tr_ne).2, rfl⟩) (fun j o p e1 e2 => .inl ⟨o, (set_un e1 own_ne).2, e2⟩) ex fun a u hu hf _ hne => ⟨rfl, by rw [upd_ne (hne i o p hi h1)]; exact hf⟩⟩
        · obtain ⟨v, q1, q2⟩ := S0.val j d' e
          exact ⟨v, q1, q2.mono ex⟩
        · obtain ⟨q, ho', q1, q2, q3, q4, q5⟩ := S0.own j o' e
          have hji : j ≠ i := fun z => by
            rw [z, List.getElem?_set_self hi'] at e; cases e
          have hj : ρ[j]? = some (.own o') := by rwa [List.getElem?_set_ne (Ne.symm hji)] at e
          have hqp : q ≠ p := fun z => by
            rw [z] at q1
            exact hji (S.dis j i o' o p hj hi q1 h1)
          exact ⟨q, ho', q1, by rw [upd_ne hqp]; exact q2, q3, q4.mono ex, q5⟩
      have S2 := S1.set (i := i) r
      rw [List.set_set] at S2
      have : σ.set i (some (.ref p)) = σ := by
        refine List.ext_getElem? fun k => ?_
        by_cases hk : i = k
        · subst hk; rw [List.getElem?_set_self (by omega), h1]
        · rw [List.getElem?_set_ne hk]
      rw [this] at S2
      exact S2
    · exact ⟨F, Ex.refl _, S⟩
  · rename_i t hi
    split
    · obtain ⟨F', e, _, S'⟩ := S.frzTr hi
      exact ⟨F', e, S'⟩
    · exact ⟨F, Ex.refl _, S⟩
  · exact ⟨F, Ex.refl _, S⟩
noncomputable def fFrz (i : Nat) (m : En → Fl α) : En → Fl α := fun ρ => m (frzE i ρ)
theorem us_frz {s : Stmt} (i : Nat) (h : US X cl W mp RP s t m) : US X cl W mp RP s t (fFrz i m) := by
  refine ⟨h.pe, fun F0 H0 F H σ ρ Dn S P p => ?_⟩
  obtain ⟨F', e, S'⟩ := S.frz i
  exact h.es F0 H0 F' H σ _ Dn S' P (PostS.mono p e)
theorem Sr.write {i : Nat} {p : Addr} {ho' : HO} {o o' : DO} (S : Sr K cl F0 H0 F H σ ρ) (hi : ρ[i]? = some (.own o)) (hp : σ[i]? = some (some (.ref p))) (r : HR K cl F ho' o') : Sr K cl F0 H0 F (upd H p ho') σ (ρ.set i (.own o')) := by
  obtain ⟨q, ho, h1, h2, h3, h4, h5⟩ := S.own i o hi
  rw [hp] at h1; cases h1
  have hi' : i < ρ.length := (List.getElem?_eq_some_iff.mp hi).1
  have S1 : Sr K cl F0 H0 F (upd H p ho') σ (ρ.set i .un) := by
    have S0 := S.unE (i := i)
    refine ⟨⟨S.grow.f, fun a u e => ?_, fun a u e => ?_, S.grow.n⟩, S0.len, S0.val, fun j o2 e => ?_, S0.dis, S.tr.to (fun j t e => ⟨(set_un e tr_ne).2, rfl⟩) (fun j o p e1 e2 => .inl ⟨o, (set_un e1 own_ne).2, e2⟩) (Ex.refl _) fun a u hu hf _ hne => ⟨upd_ne (hne i o p hi hp), hf⟩⟩
    · rw [upd_ne (ne_of_none e h2)]; exact S.grow.s a u e
    · rw [upd_ne (ne_of_none e h5)]; exact S.grow.h a u e
    · obtain ⟨q, ho2, q1, q2, q3, q4, q5⟩ := S0.own j o2 e
      have hji : j ≠ i := fun z => by
        rw [z, List.getElem?_set_self hi'] at e; cases e
      have hj : ρ[j]? = some (.own o2) := by rwa [List.getElem?_set_ne (Ne.symm hji)] at e
      have hqp : q ≠ p := fun z => by
        rw [z] at q1
        exact hji (S.dis j i o2 o p hj hi q1 hp)
      exact ⟨q, ho2, q1, q2, by rw [upd_ne hqp]; exact q3, q4, q5⟩
  have S2 := S1.setOwn (i := i) (p := p) (o := o') h2 upd_same r h5 (fun j o2 e z => by
    have hji : j ≠ i := fun w => by
      rw [w, List.getElem?_set_self hi'] at e; cases e
    have hj : ρ[j]? = some (.own o2) := by rwa [List.getElem?_set_ne (Ne.symm hji)] at e
    exact hji (S.dis j i o2 o p hj hi z hp)) (S.tr.notin hi hp (Ex.refl _) (fun a u _ _ _ hn => upd_ne hn) fun j t e => (set_un e tr_ne).2)
  rw [List.set_set] at S2
  have : σ.set i (some (.ref p)) = σ := by
    have hl := S.len
    refine List.ext_getElem? fun k => ?_
    by_cases hk : i = k
    · subst hk; rw [List.getElem?_set_self (by omega), hp]
    · rw [List.getElem?_set_ne hk]
  rw [this] at S2
  exact S2
end
end UP
namespace UP
open PySem L2 PyProof.Rows
section
variable {α : Type} {X : Cx} {cl : Str → Option Addr} {W : WX} {K : PySem.W.Frag} {F0 H0 F H F' H' : Hp} {σ : L2.St} {ρ : En} {mp : List (Nat × Addr)} {RP : RPt α} {Dn : Ends} {e o : Expr} {te : TE} {pos apos cpos pos' : Pos} {es : List Expr} {t : TA}
noncomputable def PostX (K : PySem.W.Frag) (cl : Str → Option Addr) (F0 H0 F : Hp) (σ : L2.St) (Q : VK) : R (D × En) → Prop
  | .ok (d, ρ) => ∀ v F' H', Ex F F' → Sr K cl F0 H0 F' H' σ ρ → Rp K cl F' v d → Q v H'
  | _ => False
structure UX (X : Cx) (cl : Str → Option Addr) (e : Expr) (te : TE) (me : En → R (D × En)) : Prop where
  pe : PE X e te
  es : ∀ F0 H0 F H σ ρ Q, Sr X.K cl F0 H0 F H σ ρ → PostX X.K cl F0 H0 F σ Q (me ρ) → te σ H Q
theorem PostX.mono {r : R (D × En)} {Q : VK} (h : PostX K cl F0 H0 F σ Q r) (e : Ex F F') : PostX K cl F0 H0 F' σ Q r := by
  cases r with
  | ok q => exact fun v F2 H2 e2 => h v F2 H2 (e.trans e2)
  | er x => exact h
  | st => exact h
noncomputable def dX (me : En → R D) : En → R (D × En) := fun ρ => (noer (me ρ)).bind fun d => .ok (d, ρ)
theorem UE.x {me : En → R D} (h : UE X cl WF e te me) : UX X cl e te (dX me) := by
  refine ⟨h.pe, fun F0 H0 F H σ ρ Q S p => h.es F0 H0 F H σ ρ Q S ?_⟩
  unfold dX at p
  cases e1 : me ρ with
  | st => rw [e1] at p; exact p
  | er x => rw [e1] at p; exact p.elim
  | ok d => rw [e1] at p; exact fun v F1 H1 g r => p v F1 H1 g.f (S.mono g) r
theorem tyV_lst {p : Addr} {vs : List V} (h : H p = some (.lst vs)) : tyV K "list" (.ref p) H := Or.inl ⟨rfl, _, Or.inl (Or.inl h)⟩
/-- statements upon such -/
noncomputable def fOfX (r : R (D × En)) (k : D → En → Fl α) : Fl α := match r with
  | .ok (d, ρ) => k d ρ
  | _ => .st
noncomputable def fApp (i : Nat) (me : En → R (D × En)) : En → Fl α := fun ρ => fOfX (me ρ) fun d ρ => match ρ[i]? with
  | some (.own (.lst xs)) => if xs.length < SZ then .nx (ρ.set i (.own (.lst (xs ++ [d])))) else .st
  | _ => .st
theorem us_append {i : Nat} {me : En → R (D × En)} (ho : PE X o (tVar i)) (he : UX X cl e te me) (hi0 : ∀ ρ ρ' d, me ρ = .ok (d, ρ') → (∃ xs, ρ'[i]? = some (.own (.lst xs))) → ∃ xs, ρ[i]? = some (.own (.lst xs)))
    (hp : PE X (.Call (.Attribute o "append" apos) [e] [] cpos) (tBM X.K "list" rAppend (tVar i) (tCons te tNil)))
    (hs : swapsWith (.Call (.Attribute o "append" apos) [e] [] cpos) none pos.line X.env = pure false := by rfl) :
    US X cl W mp RP (.Expr (.Call (.Attribute o "append" apos) [e] [] cpos) pos) (tDrop (tBM X.K "list" rAppend (tVar i) (tCons te tNil))) (fApp i me) := by
  refine ⟨ps_expr hp hs, fun F0 H0 F H σ ρ Dn S P p => ?_⟩
  unfold fApp at p
  cases e1 : me ρ with
  | st => rw [e1] at p; exact p.elim
  | er x => rw [e1] at p; exact p.elim
  | ok q =>
    obtain ⟨d, ρ1⟩ := q
    rw [e1] at p
    have p : PostS X.K cl W mp RP F0 H0 F Dn (match ρ1[i]? with
      | some (.own (.lst xs)) => if xs.length < SZ then .nx (ρ1.set i (.own (.lst (xs ++ [d])))) else .st
      | _ => .st) := p
    split at p
    · rename_i xs hi
      obtain ⟨xs0, hi0'⟩ := hi0 ρ ρ1 d e1 ⟨xs, hi⟩
      obtain ⟨q, ho, h1, h2, h3, ⟨vs, rfl, hv⟩, h5⟩ := S.own i _ hi0'
      refine ⟨_, h1, tyV_lst h3, he.es F0 H0 F H σ ρ _ S ?_⟩
      rw [e1]
      intro v F1 H1 x1 S1 r
      obtain ⟨q', ho', k1, k2, k3, ⟨vs', rfl, hv'⟩, k5⟩ := S1.own i _ hi
      rw [h1] at k1; cases k1
      split at p
      · rename_i hz
        exact ⟨q, vs', v, rfl, rfl, k3, by rw [hv'.length]; exact sz_lt hz, p σ F1 _ x1 (S1.write hi h1 ⟨_, rfl, hv'.append (Rps.cons r Rps.nil)⟩) P⟩
      · exact p.elim
    · exact p.elim
theorem dX_same {i : Nat} {me : En → R D} : ∀ ρ ρ' d, dX me ρ = .ok (d, ρ') → (∃ xs, ρ'[i]? = some (.own (.lst xs))) → ∃ xs, ρ[i]? = some (.own (.lst xs)) := fun ρ ρ' d e h => by
  unfold dX at e
  cases e1 : me ρ with
  | st => rw [e1] at e; cases e
  | er x => rw [e1] at e; cases e
  | ok q => rw [e1] at e; cases e; exact h
/-- x[i] = e -/
noncomputable def fSetItemV (i : Nat) (ρ : En) (d : D) : D → Fl α
  | .int k => match ρ[i]? with
    | some (.own (.lst xs)) => match ixN xs.length k with
      | some j => .nx (ρ.set i (.own (.lst (xs.set j d))))
      | none => .st
    | _ => .st
  | _ => .st
noncomputable def fSetItem (i : Nat) (mk : En → R D) (me : En → R D) : En → Fl α := fun ρ => fOf (me ρ) ρ fun d => fOf (noer (mk ρ)) ρ fun k => fSetItemV i ρ d k
theorem us_setitem {i : Nat} {k : Expr} {tk : TE} {mk me : En → R D} {tpos : Pos} (ho : PE X o (tVar i)) (hk : UE X cl W k tk mk) (he : UE X cl W e te me)
    (hp : PS X (.Assign [.Subscript o k tpos] e pos) (tAsg te (gSub (tVar i) tk rSetL))) : US X cl W mp RP (.Assign [.Subscript o k tpos] e pos) (tAsg te (gSub (tVar i) tk rSetL)) (fSetItem i mk me) := by
  refine ⟨hp, fun F0 H0 F H σ ρ Dn S P p => he.es F0 H0 F H σ ρ _ S (post_of S P p fun d v F1 H1 g r p => ?_)⟩
  cases e1 : mk ρ with
  | st => rw [e1] at p; exact p.elim
  | er x => rw [e1] at p; exact p.elim
  | ok dk =>
    rw [e1] at p
    replace p : PostS X.K cl W mp RP F0 H0 F1 Dn (fSetItemV i ρ d dk) := p
    unfold fSetItemV at p
    split at p
    rotate_left
    · exact p.elim
    rename_i kk
    split at p
    · rename_i xs hi
      obtain ⟨q, ho', h1, h2, h3, ⟨vs, rfl, hv⟩, h5⟩ := (S.mono g).own i _ hi
      refine ⟨_, h1, hk.es F0 H0 F1 H1 σ ρ _ (S.mono g) ?_⟩
      rw [e1]
      intro vk F2 H2 g2 rk
      split at p
      · rename_i j hj
        exact ⟨q, vs, kk, j, rfl, rk.int_inv, g2.h _ _ h3, by rw [hv.length]; exact hj, p σ F2 _ g2.f (((S.mono g).mono g2).write hi h1 ⟨_, rfl, (hv.mono g2.f).set j (r.mono g2.f)⟩) P⟩
      · exact p.elim
    · exact p.elim
end
end UP
namespace UP
open PySem L2 PyProof.Rows
section
variable {α : Type} {X : Cx} {cl : Str → Option Addr} {W : WX} {K : PySem.W.Frag} {F0 H0 F H F' H' : Hp} {σ : L2.St} {ρ : En} {mp : List (Nat × Addr)} {RP : RPt α} {Dn : Ends} {e o : Expr} {te : TE} {pos apos cpos pos' : Pos} {es : List Expr} {t : TA}
noncomputable def fAug (i : Nat) (f : D → D → R D) (me : En → R D) : En → Fl α := fun ρ => match ρ[i]? with
  | some (.val c) => fOf (me ρ) ρ fun d => fOf (noer (f c d)) ρ fun z => .nx (ρ.set i (.val z))
  | _ => .st
noncomputable def AugOk (K : PySem.W.Frag) (cl : Str → Option Addr) (ti : TIp) (f : D → D → R D) : Prop :=
  ∀ (F H : Hp) (x y : V) (dx dy z : D) (Q : VK), Rp K cl F x dx → Rp K cl F y dy → f dx dy = .ok z → (∀ v, Rp K cl F v z → Q v H) → ti x y H Q
theorem us_aug {i : Nat} {x : Str} {me : En → R D} {op : Operator} {ti : TIp} {f : D → D → R D} (hN : X.N.Nodup) (hi : X.N[i]? = some x) (hx : Loc X.env.scope x) (he : UE X cl W e te me) (ho : PIp X op ti) (hf : AugOk X.K cl ti f) (hp : i ∉ mp.map (·.1))
    (hfn : X.fn x = true ∨ X.env.scope.names.lookup x = some .local := by first | exact .inl rfl | exact .inr rfl | assumption) : US X cl W mp RP (.AugAssign (.Name x pos') op e pos) (tAug i te ti) (fAug i f me) := by
  refine ⟨ps_aug hN hi hx he.pe ho hfn, fun F0 H0 F H σ ρ Dn S P p => ?_⟩
  unfold fAug at p
  split at p
  · rename_i c hc
    obtain ⟨v, h1, h2⟩ := S.val i c hc
    refine ⟨v, h1, he.es F0 H0 F H σ ρ _ S (post_of S P p fun d u F1 H1 g r q => ?_)⟩
    cases e2 : f c d with
    | st => rw [e2] at q; exact q.elim
    | er x => rw [e2] at q; exact q.elim
    | ok z =>
      rw [e2] at q
      exact hf F1 H1 v u c d z _ (h2.mono g.f) r e2 fun w rw' => q _ F1 H1 (Ex.refl _) ((S.mono g).set rw') (pin_set P hp)
  · exact p.elim
theorem aug_add : AugOk K cl (ipI fun i j => i + j) (dI0 fun i j => .int (i + j)) := by
  intro F H x y dx dy z Q rx ry e q
  cases dx <;> cases dy <;> try cases e
  exact ⟨_, _, rx.int_inv, ry.int_inv, q _ rp_int⟩
end
noncomputable def startE (n : Nat) (ds : List D) : En := ds.map Sl.val ++ List.replicate (n - ds.length) .un
noncomputable def runV (n : Nat) (mb : En → Fl D) (ds : List D) : R D := match mb (startE n ds) with
  | .rt d _ => .ok d
  | .nx _ => .ok .non
  | .er x _ => .er x
  | _ => .st
noncomputable def runN (n : Nat) (mb : En → Fl DO) (ds : List D) : R DO := match mb (startE n ds) with
  | .rt d _ => .ok d
  | .er x _ => .er x
  | _ => .st
section
variable {P : Program} {w : World} {K : PySem.W.Frag} {mg : Str → Option Value} {base : Heap} {cl : Str → Option Addr}
theorem sr_start {F H : Hp} {N : List Str} {vs : List V} {ds : List D} (e : Ex F H) (r : Rps K cl F vs ds) (h : vs.length ≤ N.length) : Sr K cl F H F H (L2.start N vs) (startE N.length ds) := by
  have hl := r.length
  unfold L2.start startE
  refine ⟨Grow.refl e, by simp; omega, fun i d hd => ?_, fun i o ho => ?_, fun i j o o' p ho => ?_, trOk_none fun i t ho => ?_⟩
  rotate_right 1
  · have : Sl.tr t ∈ ds.map Sl.val ++ List.replicate (N.length - ds.length) Sl.un := List.mem_of_getElem? ho
    rcases List.mem_append.mp this with h | h
    · obtain ⟨_, _, z⟩ := List.mem_map.mp h; cases z
    · have := List.eq_of_mem_replicate h; cases this
  · by_cases hi : i < ds.length
    · rw [List.getElem?_append_left (by simpa using hi), List.getElem?_map] at hd
      cases q : ds[i]? with
      | none => rw [q] at hd; cases hd
      | some d' =>
        rw [q] at hd
        cases hd
        obtain ⟨v, hv, rv⟩ := r.get q
        exact ⟨v, by rw [List.getElem?_append_left (by simpa using (by omega : i < vs.length)), List.getElem?_map, hv] <;> rfl, rv⟩
    · rw [List.getElem?_append_right (by simpa using hi)] at hd
      have := List.mem_of_getElem? hd
      have := List.eq_of_mem_replicate this
      cases this
  · have : Sl.own o ∈ ds.map Sl.val ++ List.replicate (N.length - ds.length) Sl.un := List.mem_of_getElem? ho
    rcases List.mem_append.mp this with h | h
    · obtain ⟨_, _, z⟩ := List.mem_map.mp h; cases z
    · have := List.eq_of_mem_replicate h; cases this
  · have : Sl.own o ∈ ds.map Sl.val ++ List.replicate (N.length - ds.length) Sl.un := List.mem_of_getElem? ho
    rcases List.mem_append.mp this with h | h
    · obtain ⟨_, _, z⟩ := List.mem_map.mp h; cases z
    · have := List.eq_of_mem_replicate h; cases this
noncomputable abbrev WD (E : XK) : WX := fun cls d _ H => E cls d H
section
variable {N : List Str} {qual : Str} {scope : Scope} {f : Addr} {cd : Value} {A : Around} {outer : List Env} {s : Shared} {H : Hp} {E : XK}
theorem po_cx : PassesOwn (model (cxOf (L2N.CX P w) P w K mg base N qual scope f cd A outer s H E).prog (cxOf (L2N.CX P w) P w K mg base N qual scope f cd A outer s H E).w) (cxOf (L2N.CX P w) P w K mg base N qual scope f cd A outer s H E).A (cxOf (L2N.CX P w) P w K mg base N qual scope f cd A outer s H E).env (cxOf (L2N.CX P w) P w K mg base N qual scope f cd A outer s H E).xe := passes_of (X := cxOf (L2N.CX P w) P w K mg base N qual scope f cd A outer s H E) rfl
theorem calm_cx : (cxOf (L2N.CX P w) P w K mg base N qual scope f cd A outer s H E).calm = true := rfl
theorem tk_cx : L2N.Takes (cxOf (L2N.CX P w) P w K mg base N qual scope f cd A outer s H E) (WD E) := L2N.takes_of rfl rfl rfl rfl
end
theorem def_V {x qual : Str} {st : Stmt} {f : Addr} {fd : FuncData} {N ps : List Str} {k : Nat} {mb : En → Fl D} (F : Fun K x qual st f fd) (S : FnScope N ps (defScope st)) (hn : ps.length ≤ N.length)
    (hb : ∀ (cdv : Value) (A : Around) (outer : List Env) (s : Shared) (H : Hp) (E : XK), Room k (A.deeper (envOfC qual (defScope st) s.heap.objs.size f cdv)) →
      ∃ t, USs (cxOf (L2N.CX P w) P w K mg base N qual (defScope st) f cdv A outer s H E) cl (WD E) [] (RPV K cl []) (defBody st) t mb) : FnOk P w K mg base (L2N.CX P w) (k + 1) f fd ps (spV K cl ps.length (runV N.length mb)) := by
  refine okXN F S (fun vs H Q E ⟨ds, F, _, _, h, _⟩ => h) (fun cdv A outer s H vs Q E hr h => ?_)
  obtain ⟨ds, Fh, ex, r, hl, p⟩ := h
  obtain ⟨t, U⟩ := hb cdv A outer s H E hr
  refine ⟨t, U.pe, U.es Fh H Fh H _ _ _ (sr_start ex r (by omega)) (fun q hq => by cases hq) ?_⟩
  unfold runV at p
  cases e : mb (startE N.length ds) with
  | nx ρ => rw [e] at p; exact fun σ F' H' _ S' _ => p .non F' H' S'.grow rp_non
  | rt d ρ => rw [e] at p; exact fun v σ F' H' S' _ r' => p v F' H' S'.grow r'
  | bk ρ => rw [e] at p; exact p.elim
  | ct ρ => rw [e] at p; exact p.elim
  | er x ρ => rw [e] at p; exact fun c d σ F' H' _ S' _ r' => p c d F' H' S'.grow r'
  | st => rw [e] at p; exact p.elim
theorem def_N {x qual : Str} {st : Stmt} {f : Addr} {fd : FuncData} {N ps : List Str} {k : Nat} {mb : En → Fl DO} (F : Fun K x qual st f fd) (S : FnScope N ps (defScope st)) (hn : ps.length ≤ N.length)
    (hb : ∀ (cdv : Value) (A : Around) (outer : List Env) (s : Shared) (H : Hp) (E : XK), Room k (A.deeper (envOfC qual (defScope st) s.heap.objs.size f cdv)) →
      ∃ t, USs (cxOf (L2N.CX P w) P w K mg base N qual (defScope st) f cdv A outer s H E) cl (WD E) [] (RPN K cl []) (defBody st) t mb) : FnOk P w K mg base (L2N.CX P w) (k + 1) f fd ps (spN K cl ps.length (runN N.length mb)) := by
  refine okXN F S (fun vs H Q E ⟨ds, F, _, _, h, _⟩ => h) (fun cdv A outer s H vs Q E hr h => ?_)
  obtain ⟨ds, Fh, ex, r, hl, p⟩ := h
  obtain ⟨t, U⟩ := hb cdv A outer s H E hr
  refine ⟨t, U.pe, U.es Fh H Fh H _ _ _ (sr_start ex r (by omega)) (fun q hq => by cases hq) ?_⟩
  unfold runN at p
  cases e : mb (startE N.length ds) with
  | nx ρ => rw [e] at p; exact p.elim
  | rt d ρ => rw [e] at p; exact fun q ho σ F' H' S' _ h1 h2 h3 h4 => p q ho F' H' S'.grow h4 h1 h2 h3
  | bk ρ => rw [e] at p; exact p.elim
  | ct ρ => rw [e] at p; exact p.elim
  | er x ρ => rw [e] at p; exact fun c d σ F' H' _ S' _ r' => p c d F' H' S'.grow r'
  | st => rw [e] at p; exact p.elim
/-- the law -/
theorem law_sp {n : Nat} {m : List D → R D} (hm : ∀ ns : List Int, ns.length ≤ n → m [.lst (ns.map .int)] = .ok (.bl true)) : ∀ (H : Hp) (a : Addr) (ns : List Int), ns.length ≤ n → SqL K H a (ns.map V.int) → spV K cl 1 m [.ref a] H (fun v _ => v = .bl true) fun _ _ _ => False := by
  intro H a ns hl hS
  refine ⟨[.lst (ns.map .int)], H, Ex.refl _, Rps.cons ?_ Rps.nil, rfl, ?_⟩
  · unfold Rp; exact ⟨a, _, rfl, hS, Rps.ints⟩
  · rw [hm ns hl]
    intro v F' H' g r
    exact r.bl_inv
theorem no_ex {H : Hp} {s : Shared} {e : Value} {s' : Shared} (h : L2N.CX P w [] H s (fun _ _ _ => False) e s') : False := by
  obtain ⟨a, B, sI, H', cls, d, h⟩ := h
  simp at h
end
end UP
namespace UP
open PySem L2 PyProof.Rows
section
variable {α : Type} {X : Cx} {cl : Str → Option Addr} {W : WX} {K : PySem.W.Frag} {F0 H0 F H F' H' : Hp} {σ : L2.St} {ρ : En} {mp : List (Nat × Addr)} {RP : RPt α} {Dn : Ends} {e o a b : Expr} {te ta tb : TE} {ma mb me : En → R D} {pos apos cpos pos' : Pos} {es : List Expr} {t : TA}
noncomputable abbrev q_sub : R2 := rI0 fun i j => .int (i - j)
noncomputable abbrev q_mul : R2 := rI CMulA fun i j => .int (i * j)
noncomputable abbrev q_fdiv : R2 := rI CDivA fun i j => .int (i.fdiv j)
noncomputable abbrev q_mod : R2 := rI (fun _ j => j ≠ 0) fun i j => .int (i.fmod j)
noncomputable abbrev q_pow : R2 := rI CPow fun i j => .int (i ^ j.toNat)
noncomputable abbrev q_shl : R2 := rI CPow fun i j => .int (i * 2 ^ j.toNat)
noncomputable abbrev q_shr : R2 := rI (fun _ j => 0 ≤ j) fun i j => .int (i / 2 ^ j.toNat)
noncomputable abbrev q_band : R2 := rI0 fun i j => .int (Builtin.bitAnd i j)
noncomputable abbrev q_bor : R2 := rI0 fun i j => .int (Builtin.bitOr i j)
noncomputable abbrev q_lt : R2 := rI0 fun i j => .bl (decide (i < j))
noncomputable abbrev q_gt : R2 := rI0 fun i j => .bl (decide (j < i))
noncomputable abbrev dSub := dI0 fun i j => .int (i - j)
noncomputable abbrev dMul := dI CMulA fun i j => .int (i * j)
noncomputable abbrev dFdiv := dI CDivA fun i j => .int (i.fdiv j)
noncomputable abbrev dMod := dI (fun _ j => j ≠ 0) fun i j => .int (i.fmod j)
noncomputable abbrev dPow := dI CPow fun i j => .int (i ^ j.toNat)
noncomputable abbrev dShl := dI CPow fun i j => .int (i * 2 ^ j.toNat)
noncomputable abbrev dShr := dI (fun _ j => 0 ≤ j) fun i j => .int (i / 2 ^ j.toNat)
noncomputable abbrev dBand := dI0 fun i j => .int (Builtin.bitAnd i j)
noncomputable abbrev dBor := dI0 fun i j => .int (Builtin.bitOr i j)
noncomputable abbrev dLt := dI0 fun i j => .bl (decide (i < j))
noncomputable abbrev dGt := dI0 fun i j => .bl (decide (j < i))
theorem ue_sub (ha : UE X cl W a ta ma) (hb : UE X cl W b tb mb) : UE X cl W (.BinOp a .Sub b pos) (tOp q_sub ta tb) (d2 dSub ma mb) := ue_op op_sub (op2_I0 fun _ _ _ => rp_int) ha hb
theorem ue_mul (ha : UE X cl W a ta ma) (hb : UE X cl W b tb mb) : UE X cl W (.BinOp a .Mult b pos) (tOp q_mul ta tb) (d2 dMul ma mb) := ue_op op_mulA (op2_I fun _ _ _ => rp_int) ha hb
theorem ue_fdiv (ha : UE X cl W a ta ma) (hb : UE X cl W b tb mb) : UE X cl W (.BinOp a .FloorDiv b pos) (tOp q_fdiv ta tb) (d2 dFdiv ma mb) := ue_op op_fdivA (op2_I fun _ _ _ => rp_int) ha hb
theorem ue_mod (ha : UE X cl W a ta ma) (hb : UE X cl W b tb mb) : UE X cl W (.BinOp a .Mod b pos) (tOp q_mod ta tb) (d2 dMod ma mb) := ue_op op_modN (op2_I fun _ _ _ => rp_int) ha hb
theorem ue_pow (ha : UE X cl W a ta ma) (hb : UE X cl W b tb mb) : UE X cl W (.BinOp a .Pow b pos) (tOp q_pow ta tb) (d2 dPow ma mb) := ue_op op_pow (op2_I fun _ _ _ => rp_int) ha hb
theorem ue_shl (ha : UE X cl W a ta ma) (hb : UE X cl W b tb mb) : UE X cl W (.BinOp a .LShift b pos) (tOp q_shl ta tb) (d2 dShl ma mb) := ue_op op_shl (op2_I fun _ _ _ => rp_int) ha hb
theorem ue_shr (ha : UE X cl W a ta ma) (hb : UE X cl W b tb mb) : UE X cl W (.BinOp a .RShift b pos) (tOp q_shr ta tb) (d2 dShr ma mb) := ue_op op_shr (op2_I fun _ _ _ => rp_int) ha hb
theorem ue_band (ha : UE X cl W a ta ma) (hb : UE X cl W b tb mb) : UE X cl W (.BinOp a .BitAnd b pos) (tOp q_band ta tb) (d2 dBand ma mb) := ue_op op_and (op2_I0 fun _ _ _ => rp_int) ha hb
theorem ue_bor (ha : UE X cl W a ta ma) (hb : UE X cl W b tb mb) : UE X cl W (.BinOp a .BitOr b pos) (tOp q_bor ta tb) (d2 dBor ma mb) := ue_op op_or (op2_I0 fun _ _ _ => rp_int) ha hb
/-- comparisons: the rule and its reading -/
structure Cmp (X : Cx) (cl : Str → Option Addr) (op : CmpOp) (r : R2) (f : D → D → R D) : Prop where
  o : OpR X (compareOp op) r
  f : Op2 X.K cl r f
theorem c_lt : Cmp X cl .Lt q_lt dLt := ⟨op_lt, op2_I0 fun _ _ _ => rp_bl⟩
theorem c_gt : Cmp X cl .Gt q_gt dGt := ⟨op_gt, op2_I0 fun _ _ _ => rp_bl⟩
theorem c_eq (hu : X.A.units + 64 < cLine) : Cmp X cl .Eq (fun x y H Q => rEq x y H Q ∨ rEqD X.K x y H Q) dEq := ⟨op_eqA hu, op2_eq⟩
theorem c_ne (hu : X.A.units + 64 < cLine) : Cmp X cl .NotEq (fun x y H Q => rNe x y H Q ∨ rNeD X.K x y H Q) dNe := ⟨op_neA hu, op2_ne⟩
theorem c_isN : Cmp X cl .Is (fun x y H Q => y = .non ∧ Q (.bl (decide (x = .non))) H) dIsN := ⟨op_isN, op2_isN⟩
noncomputable def dNotB : D → D → R D
  | .bl a, .bl b => .ok (.bl (!decide (a = b)))
  | _, _ => .st
theorem c_notB : Cmp X cl .IsNot (fun x y H Q => ∃ a b, x = .bl a ∧ y = .bl b ∧ Q (.bl (!decide (a = b))) H) dNotB := ⟨op_isnot_bl, fun W σ F H x y dx dy Q e rx ry p => by
  cases dx <;> cases dy <;> try exact False.elim p
  exact ⟨_, _, rx.bl_inv, ry.bl_inv, post_ok (W := W) (σ := σ) p e rp_bl⟩⟩
theorem ue_cm {op : CmpOp} {r : R2} {f : D → D → R D} (c : Cmp X cl op r f) (ha : UE X cl W a ta ma) (hb : UE X cl W b tb mb) (hm : behindInMarks op b = false := by rfl) : UE X cl W (.Compare a [op] [b] pos) (tOp r ta tb) (d2 f ma mb) := ue_cmp c.o c.f ha hb hm
theorem ut_cm {op : CmpOp} {r : R2} {f : D → D → R D} (c : Cmp X cl op r f) (ha : UE X cl W a ta ma) (hb : UE X cl W b tb mb) (hm : behindInMarks op b = false := by rfl) : UT X cl W (.Compare a [op] [b] pos) (tTest (tOp r ta tb)) (d1 dBl (d2 f ma mb)) := ut_cmp c.o c.f ha hb hm
noncomputable def frzs (is : List Nat) (ρ : En) : En := is.foldr frzE ρ
theorem Sr.frzs (S : Sr K cl F0 H0 F H σ ρ) : ∀ is : List Nat, ∃ F', Ex F F' ∧ Sr K cl F0 H0 F' H σ (frzs is ρ)
  | [] => ⟨F, Ex.refl _, S⟩
  | i :: is => by
    obtain ⟨F', e, S'⟩ := Sr.frzs S is
    obtain ⟨F'', e', S''⟩ := S'.frz i
    exact ⟨F'', e.trans e', S''⟩
end
end UP
namespace UP
open PySem L2 PyProof.Rows
section
variable {α : Type} {X : Cx} {cl : Str → Option Addr} {W : WX} {K : PySem.W.Frag} {F0 H0 F H F' H' : Hp} {σ : L2.St} {ρ : En} {k v : Expr} {tk tv : TE} {mk mv : En → R D} {pos : Pos}
noncomputable def dD0 : En → R DO := fun _ => .ok (.dK [] [])
theorem un_dict0 : UN X cl W (.Dict [] [] pos) tDNewK dD0 := ⟨pe_dnewK, fun F0 H0 F H σ ρ Q S p => fun d hd => p d (.dK []) F _ (Grow.lay' S.ex hd) hd (Grow.fnone S.ex hd) upd_same ⟨[], rfl, rfl, Rps.nil⟩⟩
end
end UP
namespace UP
open PySem L2 PyProof.Rows
section
variable {α β γ : Type} {ρ : En}
@[simp] theorem bind_ite {c : Prop} [Decidable c] (a b : R α) (f : α → R β) : R.bind (if c then a else b) f = if c then R.bind a f else R.bind b f := by split <;> rfl
@[simp] theorem d1_ap (f : α → R γ) (a : En → R α) : d1 f a ρ = (a ρ).bind f := id rfl
@[simp] theorem d2_ap (f : α → β → R γ) (a : En → R α) (b : En → R β) : d2 f a b ρ = (a ρ).bind fun x => (b ρ).bind fun y => f x y := id rfl
@[simp] theorem dC_ap (d : D) : dC d ρ = .ok d := id rfl
@[simp] theorem dVar_ap (i : Nat) : dVar i ρ = match ρ[i]? with | some (Sl.val d) => R.ok d | _ => R.st := id rfl
@[simp] theorem dLv_ap (i : Nat) : dLv i ρ = match ρ[i]? with
  | some (Sl.val (D.lst xs)) => R.ok (true, xs)
  | some (Sl.val (D.tup xs)) => R.ok (false, xs)
  | some (Sl.own (DO.lst xs)) => R.ok (true, xs)
  | _ => R.st := id rfl
@[simp] theorem dNil_ap : dNil ρ = .ok [] := id rfl
@[simp] theorem dCons_ap (a : En → R D) (b : En → R (List D)) : dCons a b ρ = (a ρ).bind fun x => (b ρ).bind fun xs => .ok (x :: xs) := id rfl
@[simp] theorem dI0_int (g : Int → Int → D) (i j : Int) : dI0 g (.int i) (.int j) = .ok (g i j) := id rfl
theorem dI_ok {C : Int → Int → Prop} [∀ i j, Decidable (C i j)] {g : Int → Int → D} {i j : Int} (h : C i j) : dI C g (.int i) (.int j) = .ok (g i j) := if_pos h
@[simp] theorem dBl_bl (b : Bool) : dBl (.bl b) = .ok b := id rfl
@[simp] theorem dIx_ap (b : Bool) (xs : List D) (i : Int) : dIx (b, xs) (.int i) = match atI xs i with | some d => .ok d | none => .st := id rfl
@[simp] theorem bLenL_ap (q : Bool × List D) : bLenL q = .ok (.int (q.2.length : Nat)) := id rfl
@[simp] theorem dAdd_int (i j : Int) : dAdd (.int i) (.int j) = .ok (.int (i + j)) := id rfl
@[simp] theorem dEq_int (i j : Int) : dEq (.int i) (.int j) = .ok (.bl (decide (i = j))) := id rfl
@[simp] theorem dNe_int (i j : Int) : dNe (.int i) (.int j) = .ok (.bl (!decide (i = j))) := id rfl
@[simp] theorem dEq_bl (i j : Bool) : dEq (.bl i) (.bl j) = .ok (.bl (decide (i = j))) := id rfl
@[simp] theorem dNeg_int (i : Int) : dNeg (.int i) = .ok (.int (-i)) := id rfl
@[simp] theorem dNotB_bl (i j : Bool) : dNotB (.bl i) (.bl j) = .ok (.bl (!decide (i = j))) := id rfl
@[simp] theorem dAnd_ap (a b : En → R Bool) : dAnd a b ρ = (a ρ).bind fun c => if c = true then b ρ else .ok false := id rfl
@[simp] theorem dOr_ap (a b : En → R Bool) : dOr a b ρ = (a ρ).bind fun c => if c = true then .ok true else b ρ := id rfl
@[simp] theorem dNot_ap (a : En → R Bool) : dNot a ρ = (a ρ).bind fun c => .ok (!c) := id rfl
@[simp] theorem dAndV_ap (a b : En → R D) : dAndV a b ρ = (a ρ).bind fun x => (dBl x).bind fun c => if c = true then b ρ else .ok (.bl false) := id rfl
@[simp] theorem dNotV_ap (a : En → R D) : dNotV a ρ = (a ρ).bind fun x => (dBl x).bind fun c => .ok (.bl (!c)) := id rfl
@[simp] theorem dFz_lst (xs : List D) : dFz (.lst xs) = .ok (.lst xs) := id rfl
@[simp] theorem dFz_dK (ks : List Key) (xs : List D) : dFz (.dK ks xs) = .ok (.dk ks xs) := id rfl
@[simp] theorem dSq_lst (xs : List D) : dSq (.lst xs) = .ok (true, xs) := id rfl
@[simp] theorem dSq_tup (xs : List D) : dSq (.tup xs) = .ok (false, xs) := id rfl
@[simp] theorem dOl_lst (xs : List D) : dOl (.lst xs) = .ok (true, xs) := id rfl
@[simp] theorem dMkT_ap (xs : List D) : dMkT xs = if xs.length ≤ SZ then .ok (.tup xs) else .st := id rfl
@[simp] theorem dMkL_ap (xs : List D) : dMkL xs = if xs.length ≤ SZ then .ok (.lst xs) else .st := id rfl
@[simp] theorem dInt_int (i : Int) : dInt (.int i) = .ok (some i) := id rfl
@[simp] theorem dNoPart_ap : dNoPart ρ = .ok none := id rfl
@[simp] theorem dSl_ap (ml : En → R (Bool × List D)) (mo mh : En → R (Option Int)) : dSl ml mo mh ρ = (ml ρ).bind fun x => (mo ρ).bind fun l => (mh ρ).bind fun h => if x.1 = true then .ok (.lst (cutD x.2 l h)) else .st := id rfl
@[simp] theorem dIt_lst (xs : List D) : dIt (.lst xs) = .ok xs := id rfl
@[simp] theorem dIt_tup (xs : List D) : dIt (.tup xs) = .ok xs := id rfl
@[simp] theorem gSet_ap (i : Nat) (d : D) : gSet i d ρ = .ok (ρ.set i (.val d)) := id rfl
@[simp] theorem dD0_ap : dD0 ρ = .ok (.dK [] []) := id rfl
@[simp] theorem dInts_map (ns : List Int) : dInts (ns.map D.int) = some ns := by
  induction ns with
  | nil => rfl
  | cons n ns ih => simp [dInts, ih]
-- statements
@[simp] theorem fNext_ap : (fNext ρ : Fl α) = .nx ρ := id rfl
@[simp] theorem fThen_nx (k : En → Fl α) : fThen (.nx ρ) k = k ρ := id rfl
@[simp] theorem fThen_rt (a : α) (k : En → Fl α) : fThen (.rt a ρ) k = .rt a ρ := id rfl
@[simp] theorem fThen_bk (k : En → Fl α) : fThen (.bk ρ) k = .bk ρ := id rfl
@[simp] theorem fThen_ct (k : En → Fl α) : fThen (.ct ρ) k = .ct ρ := id rfl
@[simp] theorem fThen_er (x : Exc) (k : En → Fl α) : fThen (.er x ρ) k = .er x ρ := id rfl
@[simp] theorem fThen_st (k : En → Fl α) : fThen .st k = .st := id rfl
@[simp] theorem fThen_ite {c : Prop} [Decidable c] (a b : Fl α) (k : En → Fl α) : fThen (if c then a else b) k = if c then fThen a k else fThen b k := by split <;> rfl
@[simp] theorem fSeq_ap (a b : En → Fl α) : fSeq a b ρ = fThen (a ρ) b := id rfl
@[simp] theorem fOf_ok (d : β) (k : β → Fl α) : fOf (.ok d) ρ k = k d := id rfl
@[simp] theorem fOf_er (x : Exc) (k : β → Fl α) : fOf (.er x) ρ k = .er x ρ := id rfl
@[simp] theorem fOf_st (k : β → Fl α) : fOf .st ρ k = .st := id rfl
@[simp] theorem fOf_ite {c : Prop} [Decidable c] (a b : R β) (k : β → Fl α) : fOf (if c then a else b) ρ k = if c then fOf a ρ k else fOf b ρ k := by split <;> rfl
@[simp] theorem fSet_ap (i : Nat) (me : En → R D) : (fSet i me ρ : Fl α) = fOf (me ρ) ρ fun d => .nx (ρ.set i (.val d)) := id rfl
@[simp] theorem fSetN_ap (i : Nat) (me : En → R DO) : (fSetN i me ρ : Fl α) = fOf (me ρ) ρ fun d => .nx (ρ.set i (.own d)) := id rfl
@[simp] theorem fRet_ap (me : En → R D) : fRet me ρ = fOf (me ρ) ρ fun d => .rt d (wipeA ρ) := id rfl
@[simp] theorem fRetN_ap (me : En → R DO) : fRetN me ρ = fOf (me ρ) ρ fun d => .rt d (wipeA ρ) := id rfl
@[simp] theorem fRetO_ap (i : Nat) : fRetO i ρ = match ρ[i]? with | some (Sl.own o) => .rt o (wipeA ρ) | _ => .st := id rfl
@[simp] theorem wipeA_nil : wipeA [] = [] := id rfl
@[simp] theorem wipeA_cons (s : Sl) (ρ : En) : wipeA (s :: ρ) = .un :: wipeA ρ := id rfl
@[simp] theorem wipeE_nil : wipeE ρ [] = ρ := id rfl
@[simp] theorem wipeE_cons (v : Nat) (vs : List Nat) : wipeE ρ (v :: vs) = (wipeE ρ vs).set v .un := id rfl
@[simp] theorem fWb_ap (Wp : List Nat) (m : En → Fl α) : fWb Wp m ρ = fW Wp (m ρ) := id rfl
@[simp] theorem fW_nx (Wp : List Nat) : fW Wp (.nx ρ : Fl α) = .nx (wipeE ρ Wp) := id rfl
@[simp] theorem fW_ct (Wp : List Nat) : fW Wp (.ct ρ : Fl α) = .ct (wipeE ρ Wp) := id rfl
@[simp] theorem fW_bk (Wp : List Nat) : fW Wp (.bk ρ : Fl α) = .bk (wipeE ρ Wp) := id rfl
@[simp] theorem fW_rt (Wp : List Nat) (a : α) : fW Wp (.rt a ρ) = .rt a ρ := id rfl
@[simp] theorem fW_st (Wp : List Nat) : fW Wp (.st : Fl α) = .st := id rfl
@[simp] theorem fW_ite (Wp : List Nat) {c : Prop} [Decidable c] (a b : Fl α) : fW Wp (if c then a else b) = if c then fW Wp a else fW Wp b := by split <;> rfl
@[simp] theorem fIf_ap (mc : En → R Bool) (a b : En → Fl α) : fIf mc a b ρ = fOf (mc ρ) ρ fun c => if c = true then a ρ else b ρ := id rfl
@[simp] theorem fFor_ap (Wp : List Nat) (mi : En → R (List D)) (mg : D → En → R En) (mb : En → Fl α) : fFor Wp mi mg mb ρ = fOf (mi ρ) ρ fun ds => fLoop mg mb ds (wipeE ρ Wp) := id rfl
@[simp] theorem fG_ok (k : En → Fl α) : fG (.ok ρ) k = k ρ := id rfl
@[simp] theorem fAft_nx (k : En → Fl α) : fAft (.nx ρ) k = k ρ := id rfl
@[simp] theorem fAft_ct (k : En → Fl α) : fAft (.ct ρ) k = k ρ := id rfl
@[simp] theorem fAft_bk (k : En → Fl α) : fAft (.bk ρ) k = .nx ρ := id rfl
@[simp] theorem fAft_rt (a : α) (k : En → Fl α) : fAft (.rt a ρ) k = .rt a ρ := id rfl
@[simp] theorem fAft_ite {c : Prop} [Decidable c] (a b : Fl α) (k : En → Fl α) : fAft (if c then a else b) k = if c then fAft a k else fAft b k := by split <;> rfl
theorem fLoop_nil (mg : D → En → R En) (mb : En → Fl α) : fLoop mg mb [] ρ = .nx ρ := id rfl
theorem fLoop_cons (mg : D → En → R En) (mb : En → Fl α) (d : D) (ds : List D) : fLoop mg mb (d :: ds) ρ = fG (mg d ρ) fun ρ1 => fAft (mb ρ1) (fLoop mg mb ds) := id rfl
@[simp] theorem fOfX_ok (d : D) (k : D → En → Fl α) : fOfX (.ok (d, ρ)) k = k d ρ := id rfl
@[simp] theorem fApp_ap (i : Nat) (me : En → R (D × En)) : (fApp i me ρ : Fl α) = fOfX (me ρ) fun d ρ => match ρ[i]? with
  | some (Sl.own (DO.lst xs)) => if xs.length < SZ then .nx (ρ.set i (.own (.lst (xs ++ [d])))) else .st
  | _ => .st := id rfl
@[simp] theorem dX_ap (me : En → R D) : dX me ρ = (noer (me ρ)).bind fun d => .ok (d, ρ) := id rfl
@[simp] theorem noer_ok (a : α) : noer (.ok a) = .ok a := id rfl
@[simp] theorem noer_st : noer (.st : R α) = .st := id rfl
@[simp] theorem noer_ite {c : Prop} [Decidable c] (a b : R α) : noer (if c then a else b) = if c then noer a else noer b := by split <;> rfl
@[simp] theorem fFrz_ap (i : Nat) (m : En → Fl α) : fFrz i m ρ = m (frzE i ρ) := id rfl
@[simp] theorem frzE_ap (i : Nat) : frzE i ρ = match ρ[i]? with
  | some (Sl.own o) => match dFz? o with
    | some d => ρ.set i (.val d)
    | none => ρ
  | some (Sl.tr t) => if noT t = true then ρ.set i (.val (frzD t)) else ρ
  | _ => ρ := id rfl
@[simp] theorem dFz?_lst (xs : List D) : dFz? (.lst xs) = some (.lst xs) := id rfl
@[simp] theorem frzs_nil : frzs [] ρ = ρ := id rfl
@[simp] theorem frzs_cons (i : Nat) (is : List Nat) : frzs (i :: is) ρ = frzE i (frzs is ρ) := id rfl
noncomputable def flV : Fl D → R D
  | .rt d _ => .ok d
  | .nx _ => .ok .non
  | .er x _ => .er x
  | _ => .st
noncomputable def flN : Fl DO → R DO
  | .rt d _ => .ok d
  | .er x _ => .er x
  | _ => .st
@[simp] theorem runV_ap (n : Nat) (mb : En → Fl D) (ds : List D) : runV n mb ds = flV (mb (startE n ds)) := by
  unfold runV flV; cases mb (startE n ds) <;> rfl
@[simp] theorem runN_ap (n : Nat) (mb : En → Fl DO) (ds : List D) : runN n mb ds = flN (mb (startE n ds)) := by
  unfold runN flN; cases mb (startE n ds) <;> rfl
@[simp] theorem flV_rt (d : D) : flV (.rt d ρ) = .ok d := id rfl
@[simp] theorem flV_nx : flV (.nx ρ) = .ok .non := id rfl
@[simp] theorem flV_st : flV .st = .st := id rfl
@[simp] theorem flV_ite {c : Prop} [Decidable c] (a b : Fl D) : flV (if c then a else b) = if c then flV a else flV b := by split <;> rfl
@[simp] theorem flN_rt (d : DO) : flN (.rt d ρ) = .ok d := id rfl
@[simp] theorem flN_st : flN .st = .st := id rfl
@[simp] theorem flN_ite {c : Prop} [Decidable c] (a b : Fl DO) : flN (if c then a else b) = if c then flN a else flN b := by split <;> rfl
@[simp] theorem startE_ap (n : Nat) (ds : List D) : startE n ds = ds.map Sl.val ++ List.replicate (n - ds.length) .un := id rfl
theorem atI_nat' {α : Type} (xs : List α) (k : Nat) : atI xs (k : Int) = xs[k]? := by
  by_cases h : k < xs.length
  · have e : xs[k]? = some xs[k] := List.getElem?_eq_getElem h
    rw [e]; exact atI_nat e
  · have e : xs[k]? = none := List.getElem?_eq_none (by omega)
    rw [e]
    unfold atI ixN
    have h1 : (0 : Int) ≤ (k : Int) := by omega
    have h2 : ¬ (k : Int) < xs.length := by omega
    rw [if_pos h1, if_neg h2]; rfl
theorem kitB_int_int : kitB "int" "int" = some true := by decide +kernel
theorem kitB_int_bool : kitB "int" "bool" = some false := by decide +kernel
@[simp] theorem isi_int (i : Int) : bIsi [.int i, .ty "int"] = .ok (.bl true) := by simp [bIsi, tyN, kitB_int_int]
@[simp] theorem isi_int_bool (i : Int) : bIsi [.int i, .ty "bool"] = .ok (.bl false) := by simp [bIsi, tyN, kitB_int_bool]
end
end UP
namespace UP
open PySem L2 PyProof.Rows
inductive Ty where
  | int | bool | str | list | tuple | dict
  deriving DecidableEq
noncomputable def Ty.nm : Ty → String
  | .int => "int" | .bool => "bool" | .str => "str" | .list => "list" | .tuple => "tuple" | .dict => "dict"
noncomputable def isK (t : Ty) : D → R D
  | .non => .ok (.bl false)
  | .bl _ => .ok (.bl (match t with | .int => true | .bool => true | _ => false))
  | .int _ => .ok (.bl (match t with | .int => true | _ => false))
  | .str _ => .ok (.bl (match t with | .str => true | _ => false))
  | .lst _ => .ok (.bl (match t with | .list => true | _ => false))
  | .tup _ => .ok (.bl (match t with | .tuple => true | _ => false))
  | .dk _ _ => .ok (.bl (match t with | .dict => true | _ => false))
  | _ => .st
theorem kit_all : (["NoneType", "bool", "int", "str", "list", "tuple", "dict"].all fun n => [Ty.int, .bool, .str, .list, .tuple, .dict].all fun t => kitB n t.nm == some (n == t.nm || (n == "bool" && t.nm == "int"))) = true := by decide +kernel
theorem kit_at {n : String} {t : Ty} {b : Bool} (h : n ∈ ["NoneType", "bool", "int", "str", "list", "tuple", "dict"]) (e : (n == t.nm || (n == "bool" && t.nm == "int")) = b) : kitB n t.nm = some b := by
  have := List.all_eq_true.mp (List.all_eq_true.mp kit_all n h) t (by cases t <;> decide)
  rw [← e]; exact eq_of_beq this
theorem isK_ok {t : Ty} {d : D} {b : Bool} (h : isK t d = .ok (.bl b)) : ∃ n, tyN d = some n ∧ kitB n t.nm = some b := by
  cases d
  case ty => cases h
  case obj => cases h
  case exc => cases h
  all_goals
    refine ⟨_, rfl, kit_at (by decide) ?_⟩
    unfold isK at h
    cases h
    cases t <;> decide
theorem isK_bl {t : Ty} {d x : D} (h : isK t d = .ok x) : ∃ b, x = .bl b := by
  cases d <;> unfold isK at h <;> cases h <;> exact ⟨_, rfl⟩
section
variable {X : Cx} {cl : Str → Option Addr} {W : WX} {a : Expr} {ta : TE} {ma : En → R D} {p p2 pos : Pos} {x : Str}
theorem boot_ty (t : Ty) : bootBuiltins (Str.ofString t.nm) = some (.type t.nm) := by
  cases t <;> first | exact boot_int | exact boot_bool | exact boot_str | exact boot_list | exact boot_tuple | exact boot_dict
theorem ty_name (t : Ty) : (Str.ofString t.nm) ≠ "__name__" := by cases t <;> decide
theorem ty_dbg (t : Ty) : ((Str.ofString t.nm) == ("__debug__" : Str)) = false := by cases t <;> decide
theorem ue_isi (t : Ty) (hm : X.mg "isinstance" = none) (ht : X.mg (Str.ofString t.nm) = none) (ha : UE X cl W a ta ma) (hg2 : Gl X (Str.ofString t.nm) := by rfl) (hg : Gl X "isinstance" := by rfl)
    (hs1 : starEach (a :: [.Name (Str.ofString t.nm) p2]) X.env = (false, eval a X.env) :: starEach [.Name (Str.ofString t.nm) p2] X.env := by rfl)
    (hs2 : starEach (.Name (Str.ofString t.nm) p2 :: []) X.env = (false, eval (.Name (Str.ofString t.nm) p2) X.env) :: starEach [] X.env := by rfl)
    (hpl : (backTo pos (starEach [.Name (Str.ofString t.nm) p2] X.env)).any (·.1) = false := by rfl) :
    UE X cl W (.Call (.Name "isinstance" p) [a, .Name (Str.ofString t.nm) p2] [] pos) (tCB (rIsi X.K) (tCons ta (tCons (tC (.ty t.nm)) tNil))) (d1 (isK t) ma) := by
  have B : UE X cl W (.Call (.Name "isinstance" p) [a, .Name (Str.ofString t.nm) p2] [] pos) (tCB (rIsi X.K) (tCons ta (tCons (tC (.ty t.nm)) tNil))) (d1 bIsi (dCons ma (dCons (dC (.ty t.nm)) dNil))) :=
    ue_callB call_isi ca_isi hm boot_isinstance (ua_cons ha (ua_cons (ue_bty ht (boot_ty t) hg2 (ty_name t) (ty_dbg t)) ua_nil hs2) hs1) hg (by decide) (by decide) hs1 hpl
  refine ⟨B.pe, fun F0 H0 F H σ ρ Q S p => B.es F0 H0 F H σ ρ Q S ?_⟩
  unfold d1 at p ⊢
  show Post X.K cl W σ F H Q (R.bind (R.bind (ma ρ) fun x => R.bind (R.bind (R.ok (D.ty t.nm)) fun x => R.bind (R.ok []) fun xs => R.ok (x :: xs)) fun xs => R.ok (x :: xs)) bIsi)
  cases e : ma ρ with
  | st => rw [e] at p; exact p
  | er x => rw [e] at p; exact p
  | ok d =>
    rw [e, R.bind_ok] at p
    show Post X.K cl W σ F H Q (bIsi [d, .ty t.nm])
    cases e2 : isK t d with
    | st => rw [e2] at p; exact p.elim
    | er x => cases d <;> (unfold isK at e2; cases e2)
    | ok x =>
      obtain ⟨b, rfl⟩ := isK_bl e2
      rw [e2] at p
      obtain ⟨n, h1, h2⟩ := isK_ok e2
      have : bIsi [d, .ty t.nm] = .ok (.bl b) := by unfold bIsi; simp only [h1, h2]
      rw [this]; exact p
end
section
variable {α : Type} {ρ : En}
@[simp] theorem isK_non (t : Ty) : isK t .non = .ok (.bl false) := id rfl
@[simp] theorem isK_bool (t : Ty) (b : Bool) : isK t (.bl b) = .ok (.bl (match t with | .int => true | .bool => true | _ => false)) := id rfl
@[simp] theorem isK_int (t : Ty) (b : Int) : isK t (.int b) = .ok (.bl (match t with | .int => true | _ => false)) := id rfl
@[simp] theorem isK_str (t : Ty) (b : Str) : isK t (.str b) = .ok (.bl (match t with | .str => true | _ => false)) := id rfl
@[simp] theorem isK_lst (t : Ty) (b : List D) : isK t (.lst b) = .ok (.bl (match t with | .list => true | _ => false)) := id rfl
@[simp] theorem isK_tup (t : Ty) (b : List D) : isK t (.tup b) = .ok (.bl (match t with | .tuple => true | _ => false)) := id rfl
@[simp] theorem isK_dk (t : Ty) (k : List Key) (b : List D) : isK t (.dk k b) = .ok (.bl (match t with | .dict => true | _ => false)) := id rfl
/-- a comprehension -/
theorem dLcGo_map {γ : Type} {gm : D → En → R En} {tm : En → R Bool} {em : En → R D} {ρw : En} (E : γ → D) (p : γ → Bool) (f : γ → D) : ∀ (xs : List γ),
    (∀ x ∈ xs, ∃ ρ1, gm (E x) ρw = .ok ρ1 ∧ tm ρ1 = .ok (p x) ∧ (p x = true → em ρ1 = .ok (f x))) → dLcGo gm tm em ρw (xs.map E) = .ok ((xs.filter p).map f)
  | [], _ => rfl
  | x :: xs, h => by
    obtain ⟨ρ1, h1, h2, h3⟩ := h x (by simp)
    have ih := dLcGo_map E p f xs fun y hy => h y (by simp [hy])
    show (gm (E x) ρw).bind _ = _
    rw [h1, R.bind_ok, h2, R.bind_ok]
    by_cases hp : p x = true
    · rw [if_pos hp, h3 hp, R.bind_ok, ih, R.bind_ok, List.filter_cons_of_pos hp, List.map_cons]
    · rw [if_neg hp, ih, List.filter_cons_of_neg hp]
theorem dLc_map {γ : Type} {vs : List Nat} {mi : En → R (List D)} {gm : D → En → R En} {tm : En → R Bool} {em : En → R D} (E : γ → D) (p : γ → Bool) (f : γ → D) (xs : List γ) (hi : mi ρ = .ok (xs.map E)) (hz : xs.length ≤ SZ)
    (h : ∀ x ∈ xs, ∃ ρ1, gm (E x) (wipeE ρ vs) = .ok ρ1 ∧ tm ρ1 = .ok (p x) ∧ (p x = true → em ρ1 = .ok (f x))) : dLc vs mi gm tm em ρ = .ok (.lst ((xs.filter p).map f)) := by
  unfold dLc
  rw [hi, R.bind_ok, List.length_map, if_pos hz, dLcGo_map E p f xs h]
  rfl
theorem dLc_all {γ : Type} {vs : List Nat} {mi : En → R (List D)} {gm : D → En → R En} {em : En → R D} (E : γ → D) (f : γ → D) (xs : List γ) (hi : mi ρ = .ok (xs.map E)) (hz : xs.length ≤ SZ)
    (h : ∀ x ∈ xs, ∃ ρ1, gm (E x) (wipeE ρ vs) = .ok ρ1 ∧ em ρ1 = .ok (f x)) : dLc vs mi gm dYes em ρ = .ok (.lst (xs.map f)) := by
  have := dLc_map (tm := dYes) (ρ := ρ) (vs := vs) (mi := mi) (gm := gm) (em := em) E (fun _ => true) f xs hi hz fun x hx => let ⟨ρ1, h1, h2⟩ := h x hx; ⟨ρ1, h1, rfl, fun _ => h2⟩
  rw [this, List.filter_eq_self.mpr (fun _ _ => rfl)]
@[simp] theorem dRange_eq (lo : Int) (n : Nat) : dRange lo n = (List.range n).map fun k => D.int (lo + (k : Nat)) := id rfl
end
end UP
namespace UP
open PySem L2 PyProof.Rows
section
variable {P : Program} {w : World} {K : PySem.W.Frag} {mg : Str → Option Value} {base : Heap} {cl : Str → Option Addr}
end
section
variable {X : Cx} {cl : Str → Option Addr} {W : WX} {K : PySem.W.Frag} {σ : L2.St} {F H F' H' : Hp} {x : Str} {ps : List Str} {p pos : Pos} {e : Expr} {es : List Expr} {t : TA} {k n : Nat}
end
end UP
namespace UP
open PySem L2 PyProof.Rows
theorem band_nat (a b : Nat) : Builtin.bitAnd (a : Int) (b : Int) = ((a &&& b : Nat) : Int) := by
  rw [PyProof.Rows.bitAnd_pp (by omega) (by omega)]; simp
theorem bor_nat (a b : Nat) : Builtin.bitOr (a : Int) (b : Int) = ((a ||| b : Nat) : Int) := by
  rw [PyProof.Rows.bitOr_and, band_nat]
  have : ∀ n a b : Nat, a < 2 ^ n → (a ||| b) + (a &&& b) = a + b := by
    intro n
    induction n with
    | zero => intro a b h; have : a = 0 := by omega
              subst this; simp
    | succ n ih =>
      intro a b h
      have h2 := ih (a / 2) (b / 2) (by omega)
      rw [← Nat.or_div_two, ← Nat.and_div_two] at h2
      have m1 : (a ||| b) % 2 = (a % 2 ||| b % 2) := by
        have := Nat.or_mod_two_pow (a := a) (b := b) (n := 1); simpa using this
      have m2 : (a &&& b) % 2 = (a % 2 &&& b % 2) := by
        have := Nat.and_mod_two_pow (a := a) (b := b) (n := 1); simpa using this
      rcases Nat.mod_two_eq_zero_or_one a with x | x <;> rcases Nat.mod_two_eq_zero_or_one b with y | y <;> rw [x, y] at m1 m2 <;> simp only [Nat.zero_or, Nat.or_zero, Nat.or_self, Nat.and_self, Nat.zero_and, Nat.and_zero] at m1 m2 <;> omega
  have := this a a b Nat.lt_two_pow_self
  omega
@[simp] theorem fmod_lit (x : Int) (n : Nat) : Int.fmod x (no_index (@OfNat.ofNat Int n instOfNat)) = x % (@OfNat.ofNat Int n instOfNat) := Int.fmod_eq_emod_of_nonneg _ (by show (0 : Int) ≤ (n : Int); omega)
@[simp] theorem fdiv_lit (x : Int) (n : Nat) : Int.fdiv x (no_index (@OfNat.ofNat Int n instOfNat)) = x / (@OfNat.ofNat Int n instOfNat) := Int.fdiv_eq_ediv_of_nonneg _ (by show (0 : Int) ≤ (n : Int); omega)
@[simp] theorem dMod_lit (i : Int) (n : Nat) (h : n ≠ 0) : dMod (.int i) (.int (no_index (@OfNat.ofNat Int n instOfNat))) = .ok (.int (i % (@OfNat.ofNat Int n instOfNat))) := by
  have : (fun _ j : Int => j ≠ 0) i (@OfNat.ofNat Int n instOfNat) := by show ((n : Int)) ≠ 0; omega
  rw [← fmod_lit]; exact dI_ok this
@[simp] theorem dFdiv_lit (i : Int) (n : Nat) (h : 0 < n ∧ n < 1073741824) : dFdiv (.int i) (.int (no_index (@OfNat.ofNat Int n instOfNat))) = .ok (.int (i / (@OfNat.ofNat Int n instOfNat))) := by
  have h1 : (0 : Int) < (@OfNat.ofNat Int n instOfNat) := by show (0 : Int) < (n : Int); omega
  have h2 : (@OfNat.ofNat Int n instOfNat) < (1073741824 : Int) := by show (n : Int) < 1073741824; omega
  rw [← fdiv_lit]; exact dI_ok (.inl ⟨by omega, by omega⟩)
@[simp] theorem dMul_lit (i : Int) (n : Nat) (h : n < 18446744073709551616) : dMul (.int i) (.int (no_index (@OfNat.ofNat Int n instOfNat))) = .ok (.int (i * (@OfNat.ofNat Int n instOfNat))) := by
  have h1 : (-(2 ^ 64) : Int) < (@OfNat.ofNat Int n instOfNat) := by show (-(2 ^ 64) : Int) < (n : Int); omega
  have h2 : (@OfNat.ofNat Int n instOfNat) < (2 ^ 64 : Int) := by show (n : Int) < 2 ^ 64; omega
  exact dI_ok (.inl (.inr ⟨h1, h2⟩))
@[simp] theorem dMul_lit' (i : Int) (n : Nat) (h : n < 18446744073709551616) : dMul (.int (no_index (@OfNat.ofNat Int n instOfNat))) (.int i) = .ok (.int ((@OfNat.ofNat Int n instOfNat) * i)) := by
  have h1 : (-(2 ^ 64) : Int) < (@OfNat.ofNat Int n instOfNat) := by show (-(2 ^ 64) : Int) < (n : Int); omega
  have h2 : (@OfNat.ofNat Int n instOfNat) < (2 ^ 64 : Int) := by show (n : Int) < 2 ^ 64; omega
  exact dI_ok (.inl (.inl ⟨h1, h2⟩))
@[simp] theorem dPow_lit (i n : Nat) (h : n ≤ 1000000 ∧ i < 18446744073709551616) : dPow (.int (no_index (@OfNat.ofNat Int i instOfNat))) (.int (no_index (@OfNat.ofNat Int n instOfNat))) = .ok (.int ((@OfNat.ofNat Int i instOfNat) ^ n)) := by
  have h1 : CPow (@OfNat.ofNat Int i instOfNat) (@OfNat.ofNat Int n instOfNat) := by
    show (0 : Int) ≤ (n : Int) ∧ (n : Int) ≤ 1000000 ∧ ((i : Nat) : Int).natAbs < 2 ^ 64
    omega
  exact dI_ok h1
@[simp] theorem dShr_nat (i : Int) (k : Nat) : dShr (.int i) (.int (k : Int)) = .ok (.int (i / 2 ^ k)) := by
  have h : (0 : Int) ≤ (k : Int) := by omega
  have := dI_ok (C := fun _ j : Int => 0 ≤ j) (g := fun i j => D.int (i / 2 ^ j.toNat)) (i := i) (j := (k : Int)) h
  rw [Int.toNat_natCast] at this
  exact this
@[simp] theorem dShr_lit (i : Int) (k : Nat) : dShr (.int i) (.int (no_index (@OfNat.ofNat Int k instOfNat))) = .ok (.int (i / 2 ^ k)) := dShr_nat i k
theorem dShl_nat (i : Int) (k : Nat) (h : k ≤ 1000000 ∧ i.natAbs < 18446744073709551616) : dShl (.int i) (.int (k : Int)) = .ok (.int (i * 2 ^ k)) := by
  have h : CPow i (k : Int) := by
    show (0 : Int) ≤ (k : Int) ∧ (k : Int) ≤ 1000000 ∧ i.natAbs < 2 ^ 64
    omega
  have := dI_ok (C := CPow) (g := fun i j => D.int (i * 2 ^ j.toNat)) (i := i) (j := (k : Int)) h
  rw [Int.toNat_natCast] at this
  exact this
@[simp] theorem dShl_one (k : Nat) (h : k ≤ 1000000) : dShl (.int 1) (.int (k : Int)) = .ok (.int (2 ^ k)) := by
  rw [dShl_nat 1 k ⟨h, by decide⟩, Int.one_mul]
@[simp] theorem dShl_one_lit (k : Nat) (h : k ≤ 1000000) : dShl (.int 1) (.int (no_index (@OfNat.ofNat Int k instOfNat))) = .ok (.int (2 ^ k)) := dShl_one k h
theorem dRng1_ok {j : Int} (h : -(2 ^ 62) ≤ j ∧ j < 2 ^ 62) : dRng1 [.int j] = .ok (dRange 0 j.toNat) := if_pos h
@[simp] theorem dRng1_nat (n : Nat) : dRng1 [.int (n : Int)] = if n < 4611686018427387904 then .ok (dRange 0 n) else .st := by
  by_cases h : n < 4611686018427387904
  · have e := dRng1_ok (j := (n : Int)) (by omega)
    rw [if_pos h, e, Int.toNat_natCast]
  · rw [if_neg h]
    have h' : ¬ (-(2 ^ 62) ≤ (n : Int) ∧ (n : Int) < 2 ^ 62) := by omega
    simp only [dRng1, if_neg h']
@[simp] theorem dRng1_lit (n : Nat) : dRng1 [.int (no_index (@OfNat.ofNat Int n instOfNat))] = if n < 4611686018427387904 then .ok (dRange 0 n) else .st := by
  have := dRng1_nat n
  exact this
@[simp] theorem fSetItem_ap {α : Type} {ρ : En} (i : Nat) (mk me : En → R D) : (fSetItem i mk me ρ : Fl α) = fOf (me ρ) ρ fun d => fOf (noer (mk ρ)) ρ fun k => fSetItemV i ρ d k := id rfl
theorem fSetItemV_at {α : Type} {ρ : En} {i : Nat} {xs : List D} {k : Nat} {d : D} (h : ρ[i]? = some (.own (.lst xs))) (hk : k < xs.length) : (fSetItemV i ρ d (.int (k : Int)) : Fl α) = .nx (ρ.set i (.own (.lst (xs.set k d)))) := by
  unfold fSetItemV
  have e : ixN xs.length (k : Int) = some k := by
    unfold ixN
    rw [if_pos (by omega), if_pos (by omega)]
    simp
  simp only [h, e]
@[simp] theorem fSetItemV_nat {α : Type} {ρ : En} (i : Nat) (d : D) (k : Nat) : (fSetItemV i ρ d (.int (k : Int)) : Fl α) = match ρ[i]? with
  | some (Sl.own (DO.lst xs)) => if k < xs.length then .nx (ρ.set i (.own (.lst (xs.set k d)))) else .st
  | _ => .st := by
  split
  · rename_i xs h
    by_cases hk : k < xs.length
    · rw [if_pos hk, fSetItemV_at h hk]
    · rw [if_neg hk]
      unfold fSetItemV
      have e : ixN xs.length (k : Int) = none := by
        unfold ixN
        rw [if_pos (by omega), if_neg (by omega)]
      simp only [h, e]
  · rename_i h
    show (match ρ[i]? with
      | some (.own (.lst xs)) => match ixN xs.length (k : Int) with
        | some j => (.nx (ρ.set i (.own (.lst (xs.set j d)))) : Fl α)
        | none => .st
      | _ => .st) = .st
    split
    · rename_i xs h2
      exact (h xs h2).elim
    · rfl
@[simp] theorem fSetItemV_lit {α : Type} {ρ : En} (i : Nat) (d : D) (k : Nat) : (fSetItemV i ρ d (.int (no_index (@OfNat.ofNat Int k instOfNat))) : Fl α) = match ρ[i]? with
  | some (Sl.own (DO.lst xs)) => if k < xs.length then .nx (ρ.set i (.own (.lst (xs.set k d)))) else .st
  | _ => .st := fSetItemV_nat i d k
theorem lt_SZ {n : Nat} (h : n < 16777216) : n < SZ := h
theorem sz_nat {n : Nat} (h : n ≤ 16777216) : n ≤ SZ := h
end UP
namespace UP
open PySem L2 PyProof.Rows
noncomputable def pl : Nat → D → Bool
  | _, .non => true
  | _, .int _ => true
  | _, .str x => PyData.canLay0 (.str x)
  | n + 1, .lst xs => xs.all (pl n)
  | n + 1, .tup xs => xs.all (pl n)
  | _, _ => false
theorem toPys_pl {n : Nat} (h : ∀ d, pl n d = true → ∃ y, toPy d = some y ∧ y.canLay0 = true ∧ y.depth ≤ n) : ∀ {xs : List D}, xs.all (pl n) = true → ∃ ys, toPys xs = some ys ∧ PyData.canLayAll0 ys = true ∧ PyData.depthAll ys ≤ n
  | [], _ => ⟨[], rfl, rfl, Nat.zero_le _⟩
  | x :: xs, hx => by
    rw [List.all_cons, Bool.and_eq_true] at hx
    obtain ⟨y, e1, e2, e3⟩ := h x hx.1
    obtain ⟨ys, f1, f2, f3⟩ := toPys_pl h hx.2
    refine ⟨y :: ys, by unfold toPys; rw [e1, f1], by unfold PyData.canLayAll0; rw [e2, f2]; rfl, ?_⟩
    unfold PyData.depthAll
    exact Nat.max_le.mpr ⟨e3, f3⟩
theorem toPy_pl : ∀ (n : Nat) (d : D), pl n d = true → ∃ y, toPy d = some y ∧ y.canLay0 = true ∧ y.depth ≤ n
  | n, .non, _ => ⟨.none, by unfold toPy; rfl, rfl, by unfold PyData.depth; omega⟩
  | n, .int i, _ => ⟨.int i, by unfold toPy; rfl, rfl, by unfold PyData.depth; omega⟩
  | n, .str x, h => ⟨.str x, by unfold toPy; rfl, by cases n <;> exact h, by unfold PyData.depth; omega⟩
  | 0, .lst xs, h => by cases h
  | 0, .tup xs, h => by cases h
  | n + 1, .lst xs, h => by
    obtain ⟨ys, f1, f2, f3⟩ := toPys_pl (toPy_pl n) (xs := xs) h
    exact ⟨.list ys, by unfold toPy; rw [f1]; rfl, by unfold PyData.canLay0; exact f2, by unfold PyData.depth; omega⟩
  | n + 1, .tup xs, h => by
    obtain ⟨ys, f1, f2, f3⟩ := toPys_pl (toPy_pl n) (xs := xs) h
    exact ⟨.tuple ys, by unfold toPy; rw [f1]; rfl, by unfold PyData.canLay0; exact f2, by unfold PyData.depth; omega⟩
  | 0, .bl _, h => by cases h
  | n + 1, .bl _, h => by cases h
  | 0, .ty _, h => by cases h
  | n + 1, .ty _, h => by cases h
  | 0, .dk _ _, h => by cases h
  | n + 1, .dk _ _, h => by cases h
  | 0, .obj _ _ _, h => by cases h
  | n + 1, .obj _ _ _, h => by cases h
  | 0, .exc _ _ _, h => by cases h
  | n + 1, .exc _ _ _, h => by cases h
theorem eqvAll_pl {n : Nat} (ih : ∀ x z a b, pl n x = true → pl n z = true → toPy x = some a → toPy z = some b → (PyData.eqv a b = true ↔ x = z)) :
    ∀ (xs zs : List D) (as bs : List PyData), xs.all (pl n) = true → zs.all (pl n) = true → toPys xs = some as → toPys zs = some bs → (PyData.eqvAll as bs = true ↔ xs = zs)
  | [], [], as, bs, _, _, e, f => by unfold toPys at e f; cases e; cases f; unfold PyData.eqvAll; simp
  | [], z :: zs, as, bs, _, hz, e, f => by
    obtain ⟨b, _, _⟩ : ∃ b, toPy z = some b ∧ True := by
      rw [List.all_cons, Bool.and_eq_true] at hz
      obtain ⟨y, h, _⟩ := toPy_pl n z hz.1
      exact ⟨y, h, trivial⟩
    unfold toPys at e f; cases e
    split at f
    · cases f; unfold PyData.eqvAll; simp
    · cases f
  | x :: xs, [], as, bs, hx, _, e, f => by
    unfold toPys at e f; cases f
    split at e
    · cases e; unfold PyData.eqvAll; simp
    · cases e
  | x :: xs, z :: zs, as, bs, hx, hz, e, f => by
    rw [List.all_cons, Bool.and_eq_true] at hx hz
    unfold toPys at e f
    split at e
    · rename_i a as' h1 h2
      cases e
      split at f
      · rename_i b bs' h3 h4
        cases f
        unfold PyData.eqvAll
        rw [Bool.and_eq_true, ih x z a b hx.1 hz.1 h1 h3, eqvAll_pl ih xs zs as' bs' hx.2 hz.2 h2 h4]
        simp
      · cases f
    · cases e
theorem pl_cases {n : Nat} {x : D} (h : pl n x = true) : x = .non ∨ (∃ i, x = .int i) ∨ (∃ s, x = .str s) ∨ (∃ m xs, n = m + 1 ∧ x = .lst xs ∧ xs.all (pl m) = true) ∨ (∃ m xs, n = m + 1 ∧ x = .tup xs ∧ xs.all (pl m) = true) := by
  cases x with
  | non => exact .inl rfl
  | int i => exact .inr (.inl ⟨i, rfl⟩)
  | str s => exact .inr (.inr (.inl ⟨s, rfl⟩))
  | lst xs => cases n with
    | zero => cases h
    | succ m => exact .inr (.inr (.inr (.inl ⟨m, xs, rfl, rfl, h⟩)))
  | tup xs => cases n with
    | zero => cases h
    | succ m => exact .inr (.inr (.inr (.inr ⟨m, xs, rfl, rfl, h⟩)))
  | bl b => cases n <;> cases h
  | ty b => cases n <;> cases h
  | dk _ _ => cases n <;> cases h
  | obj _ _ _ => cases n <;> cases h
  | exc _ _ _ => cases n <;> cases h
theorem eqv_pl : ∀ (n : Nat) (x z : D) (a b : PyData), pl n x = true → pl n z = true → toPy x = some a → toPy z = some b → (PyData.eqv a b = true ↔ x = z) := by
  intro n
  induction n with
  | zero =>
    intro x z a b hx hz e f
    rcases pl_cases hx with rfl | ⟨i, rfl⟩ | ⟨s, rfl⟩ | ⟨m, xs, h, _⟩ | ⟨m, xs, h, _⟩
    case inr.inr.inr.inl => cases h
    case inr.inr.inr.inr => cases h
    all_goals
      rcases pl_cases hz with rfl | ⟨j, rfl⟩ | ⟨t, rfl⟩ | ⟨m, xs, h, _⟩ | ⟨m, xs, h, _⟩
      case inr.inr.inr.inl => cases h
      case inr.inr.inr.inr => cases h
      all_goals
        unfold toPy at e f; cases e; cases f; unfold PyData.eqv; simp
  | succ n ih =>
    intro x z a b hx hz e f
    rcases pl_cases hx with rfl | ⟨i, rfl⟩ | ⟨s, rfl⟩ | ⟨m, xs, h, rfl, h2⟩ | ⟨m, xs, h, rfl, h2⟩
    case inr.inr.inr.inl =>
      cases h
      unfold toPy at e
      cases e1 : toPys xs with
      | none => rw [e1] at e; cases e
      | some as =>
        rw [e1] at e; cases e
        rcases pl_cases hz with rfl | ⟨j, rfl⟩ | ⟨t, rfl⟩ | ⟨m, zs, h, rfl, h3⟩ | ⟨m, zs, h, rfl, h3⟩
        case inr.inr.inr.inl =>
          cases h
          unfold toPy at f
          cases f1 : toPys zs with
          | none => rw [f1] at f; cases f
          | some bs =>
            rw [f1] at f; cases f
            unfold PyData.eqv
            rw [eqvAll_pl ih xs zs as bs h2 h3 e1 f1]; simp
        case inr.inr.inr.inr =>
          unfold toPy at f
          cases f1 : toPys zs with
          | none => rw [f1] at f; cases f
          | some bs => rw [f1] at f; cases f; unfold PyData.eqv; simp
        all_goals
          unfold toPy at f; cases f; unfold PyData.eqv; simp
    case inr.inr.inr.inr =>
      cases h
      unfold toPy at e
      cases e1 : toPys xs with
      | none => rw [e1] at e; cases e
      | some as =>
        rw [e1] at e; cases e
        rcases pl_cases hz with rfl | ⟨j, rfl⟩ | ⟨t, rfl⟩ | ⟨m, zs, h, rfl, h3⟩ | ⟨m, zs, h, rfl, h3⟩
        case inr.inr.inr.inr =>
          cases h
          unfold toPy at f
          cases f1 : toPys zs with
          | none => rw [f1] at f; cases f
          | some bs =>
            rw [f1] at f; cases f
            unfold PyData.eqv
            rw [eqvAll_pl ih xs zs as bs h2 h3 e1 f1]; simp
        case inr.inr.inr.inl =>
          unfold toPy at f
          cases f1 : toPys zs with
          | none => rw [f1] at f; cases f
          | some bs => rw [f1] at f; cases f; unfold PyData.eqv; simp
        all_goals
          unfold toPy at f; cases f; unfold PyData.eqv; simp
    all_goals
      rcases pl_cases hz with rfl | ⟨j, rfl⟩ | ⟨t, rfl⟩ | ⟨m, zs, h, rfl, h3⟩ | ⟨m, zs, h, rfl, h3⟩
      case inr.inr.inr.inl =>
        unfold toPy at e f
        cases f1 : toPys zs with
        | none => rw [f1] at f; cases f
        | some bs => rw [f1] at f; cases e; cases f; unfold PyData.eqv; simp
      case inr.inr.inr.inr =>
        unfold toPy at e f
        cases f1 : toPys zs with
        | none => rw [f1] at f; cases f
        | some bs => rw [f1] at f; cases e; cases f; unfold PyData.eqv; simp
      all_goals
        unfold toPy at e f; cases e; cases f; unfold PyData.eqv; simp
theorem eqDeep_pl {n : Nat} {x z : D} (hn : n ≤ 64) (hx : pl n x = true) (hz : pl n z = true) : ∃ b, eqDeep x z = some b ∧ (b = true ↔ x = z) := by
  obtain ⟨a, e1, e2, e3⟩ := toPy_pl n x hx
  obtain ⟨b, f1, f2, f3⟩ := toPy_pl n z hz
  refine ⟨PyData.eqv a b, ?_, eqv_pl n x z a b hx hz e1 f1⟩
  unfold eqDeep
  rw [e1, f1]
  have s1 : SeqAt.shaped a = true := by unfold SeqAt.shaped; rw [e2, Bool.true_and]; exact decide_eq_true (by omega)
  have s2 : SeqAt.shaped b = true := by unfold SeqAt.shaped; rw [f2, Bool.true_and]; exact decide_eq_true (by omega)
  simp only [s1, s2, and_self, if_true]
theorem eqD_pl {n : Nat} {x z : D} (hn : n ≤ 64) (hx : pl n x = true) (hz : pl n z = true) : ∃ b, eqD x z = some b ∧ (b = true ↔ x = z) := by
  unfold eqD
  split
  · exact ⟨_, rfl, by simp⟩
  · exact ⟨_, rfl, by simp⟩
  · exact ⟨_, rfl, by simp⟩
  · exact ⟨_, rfl, by simp⟩
  · exact ⟨_, rfl, by simp⟩
  · exact ⟨_, rfl, by simp⟩
  · exact eqDeep_pl hn hx hz
theorem dNe_pl {n : Nat} {x z : D} (hn : n ≤ 64) (hx : pl n x = true) (hz : pl n z = true) : ∃ b, dNe x z = .ok (.bl (!b)) ∧ (b = true ↔ x = z) := by
  obtain ⟨b, h, h2⟩ := eqD_pl hn hx hz
  exact ⟨b, by unfold dNe; rw [h], h2⟩
theorem dNe_self {n : Nat} {x : D} (hn : n ≤ 64) (hx : pl n x = true) : dNe x x = .ok (.bl false) := by
  obtain ⟨b, h, h2⟩ := dNe_pl hn hx hx
  rw [h, h2.mpr rfl]; rfl
section
variable {α : Type} {ρ : En}
/-- a loop by its invariant -/
theorem fLoop_ex {mg : D → En → R En} {mb : En → Fl α} (I : Nat → En → Prop) : ∀ (xs : List D) (n : Nat) (ρ : En), I n ρ →
    (∀ i d ρ, xs[i]? = some d → I (n + i) ρ → ∃ ρ1 ρ2, mg d ρ = .ok ρ1 ∧ (mb ρ1 = .nx ρ2 ∨ mb ρ1 = .ct ρ2) ∧ I (n + i + 1) ρ2) → ∃ ρ', fLoop mg mb xs ρ = .nx ρ' ∧ I (n + xs.length) ρ'
  | [], n, ρ, h0, _ => ⟨ρ, rfl, h0⟩
  | x :: xs, n, ρ, h0, step => by
    obtain ⟨ρ1, ρ2, h1, h2, h3⟩ := step 0 x ρ rfl h0
    obtain ⟨ρ', h4, h5⟩ := fLoop_ex (mg := mg) (mb := mb) I xs (n + 1) ρ2 h3 fun i d ρ hd hi => by
      have := step (i + 1) d ρ (by simpa using hd) (by rw [show n + (i + 1) = n + 1 + i by omega]; exact hi)
      rw [show n + 1 + i + 1 = n + (i + 1) + 1 by omega]; exact this
    refine ⟨ρ', ?_, by rw [List.length_cons, show n + (xs.length + 1) = n + 1 + xs.length by omega]; exact h5⟩
    rw [fLoop_cons, h1, fG_ok]
    rcases h2 with h2 | h2
    · rw [h2, fAft_nx, h4]
    · rw [h2, fAft_ct, h4]
/-- over range(n) -/
theorem fLoop_rng {mg : D → En → R En} {mb : En → Fl α} (I : Nat → En → Prop) (n : Nat) (ρ : En) (h0 : I 0 ρ)
    (step : ∀ i ρ, i < n → I i ρ → ∃ ρ1 ρ2, mg (.int (i : Nat)) ρ = .ok ρ1 ∧ (mb ρ1 = .nx ρ2 ∨ mb ρ1 = .ct ρ2) ∧ I (i + 1) ρ2) : ∃ ρ', fLoop mg mb (dRange 0 n) ρ = .nx ρ' ∧ I n ρ' := by
  have := fLoop_ex (mg := mg) (mb := mb) I (dRange 0 n) 0 ρ h0 fun i d ρ hd hi => by
    rw [dRange_eq, List.getElem?_map] at hd
    cases q : (List.range n)[i]? with
    | none => rw [q] at hd; cases hd
    | some k =>
      rw [q] at hd
      obtain ⟨h1, h2⟩ := List.getElem?_eq_some_iff.mp q
      have hin : i < n := by simpa using h1
      have hik : i = k := by simpa using h2
      cases hd
      subst hik
      rw [Nat.zero_add] at hi ⊢
      have := step i ρ hin hi
      simpa using this
  simpa using this
end
end UP
namespace UP
open PySem L2 PyProof.Rows
noncomputable def Sm (n : Nat) (i : Int) : Prop := i.natAbs < 2 ^ n
theorem Sm.sub {n : Nat} {i j : Int} (h : Sm n i) (k : Sm n j) : Sm (n + 1) (i - j) := by
  unfold Sm at *; rw [Nat.pow_succ]; omega
theorem Sm.neg {n : Nat} {i : Int} (h : Sm n i) : Sm n (-i) := by unfold Sm at *; omega
theorem Sm.le {n : Nat} {i j : Int} (h : Sm n i) (k : j.natAbs ≤ i.natAbs) : Sm n j := Nat.lt_of_le_of_lt k h
theorem Sm.of {n : Nat} {i : Int} (b : Nat) (h : i.natAbs ≤ b) (hb : b < 2 ^ n) : Sm n i := Nat.lt_of_le_of_lt h hb
theorem mulS {m n : Nat} {i j : Int} (h : Sm m i) (k : Sm n j) (h0 : 0 < m) (h1 : 0 < n) (hs : m + n ≤ 1000000) : dMul (.int i) (.int j) = .ok (.int (i * j)) := dI_ok (.inr (wide_mul h k h0 h1 hs))
theorem fdivS {n : Nat} {i j : Int} (h : 0 < j) (k : Sm n j) (h0 : 0 < n) (h9 : n ≤ 9000) : dFdiv (.int i) (.int j) = .ok (.int (i / j)) := by
  rw [← Int.fdiv_eq_ediv_of_nonneg _ (by omega)]
  exact dI_ok (.inr (.inl (wide_div h k h0 h9)))
theorem fmodS {i j : Int} (h : 0 < j) : dMod (.int i) (.int j) = .ok (.int (i % j)) := by
  rw [← Int.fmod_eq_emod_of_nonneg _ (by omega)]
  exact dI_ok (C := fun _ j : Int => j ≠ 0) (g := fun i j => D.int (i.fmod j)) (by omega)
end UP
set_option maxHeartbeats 1000000
namespace RT
open PySem PySem.Spec PyProof.Rows
section
variable {prog : Program} {w : World} {A : Around} {E : Value → Shared → Prop} {s : Shared}
end
end RT
namespace UP
open PySem L2 PyProof.Rows RT
section
variable {X : Cx} {cl : Str → Option Addr} {W : WX}
end
end UP
namespace UP
open PySem L2 PyProof.Rows
section
variable {X : Cx} {cl : Str → Option Addr} {W : WX} {K : PySem.W.Frag} {σ : L2.St} {F H F' H' : Hp} {pos : Pos}
end
section
variable {ρ : En}
@[simp] theorem gTupD_tup (n : Nat) (b : List D → En → R En) (ds : List D) : gTupD n b (.tup ds) ρ = if ds.length = n then b ds ρ else .st := id rfl
@[simp] theorem gTupD_lst (n : Nat) (b : List D → En → R En) (ds : List D) : gTupD n b (.lst ds) ρ = if ds.length = n then b ds ρ else .st := id rfl
@[simp] theorem gsNil_nil : gsNil [] ρ = .ok ρ := id rfl
@[simp] theorem gsCons_cons (a : D → En → R En) (b : List D → En → R En) (d : D) (ds : List D) : gsCons a b (d :: ds) ρ = (a d ρ).bind fun ρ1 => b ds ρ1 := id rfl
@[simp] theorem fG_st {α : Type} (k : En → Fl α) : fG .st k = .st := id rfl
@[simp] theorem fG_ite {α : Type} {c : Prop} [Decidable c] (a b : R En) (k : En → Fl α) : fG (if c then a else b) k = if c then fG a k else fG b k := by split <;> rfl
@[simp] theorem bListL_ap (q : Bool × List D) : bListL q = .ok (.lst q.2) := id rfl
@[simp] theorem dAdd_lst (xs ys : List D) : dAdd (.lst xs) (.lst ys) = if xs.length + ys.length ≤ SZ then .ok (.lst (xs ++ ys)) else .st := id rfl
@[simp] theorem dAdd_tup (xs ys : List D) : dAdd (.tup xs) (.tup ys) = if 0 < xs.length ∧ xs.length + ys.length ≤ SZ then .ok (.tup (xs ++ ys)) else .st := id rfl
@[simp] theorem dAdd_str (i j : Str) : dAdd (.str i) (.str j) = if i.length + j.length ≤ SZ then .ok (.str (i ++ j)) else .st := id rfl
@[simp] theorem dEq_str (i j : Str) : dEq (.str i) (.str j) = .ok (.bl (decide (i = j))) := id rfl
@[simp] theorem dIsN_ap_non : dIsN .non .non = .ok (.bl true) := id rfl
end
end UP
namespace UP
open PySem L2 PyProof.Rows
section
variable {κ : Type} [DecidableEq κ]
variable {K : PySem.W.Frag} {cl : Str → Option Addr} {F : Hp}
end
section
variable {X : Cx} {cl : Str → Option Addr} {W : WX} {K : PySem.W.Frag} {σ : L2.St} {F H F' H' : Hp} {pos : Pos} {y v : V} {d dv : D} {p : Addr} {ho : HO} {o o' : DO} {od : Option D}
variable {e o : Expr} {te : TE} {mk me : En → R D} {i : Nat}
end
section
variable {α : Type} {X : Cx} {cl : Str → Option Addr} {W : WX} {mp : List (Nat × Addr)} {RP : RPt α} {o k e : Expr} {te tk : TE} {mk me : En → R D} {i : Nat} {pos tpos : Pos}
end
end UP
namespace UP
open PySem L2 PyProof.Rows
section
variable {K : PySem.W.Frag} {cl : Str → Option Addr} {F0 H0 F H F' H' : Hp} {σ : L2.St} {ρ : En}
end
section
variable {P : Program} {w : World} {K : PySem.W.Frag} {mg : Str → Option Value} {base : Heap} {cl : Str → Option Addr}
end
section
variable {X : Cx} {cl : Str → Option Addr} {W : WX} {K : PySem.W.Frag} {e : Expr} {es : List Expr} {te : TE} {t : TA} {me : En → R D} {ma : En → R (List D)} {i n k : Nat} {x : Str} {ps : List Str} {p pos : Pos}
end
end UP
namespace UP
open PySem L2 PyProof.Rows
noncomputable def ple (a b : Int × Int) : Bool := decide (a.1 < b.1) || (decide (a.1 = b.1) && decide (a.2 ≤ b.2))
theorem ple_iff {a b : Int × Int} : ple a b = true ↔ a.1 < b.1 ∨ (a.1 = b.1 ∧ a.2 ≤ b.2) := by unfold ple; simp
theorem ple_anti {a b : Int × Int} (h : ple a b = true) (k : ple b a = true) : a = b := by
  rw [ple_iff] at h k
  exact Prod.ext (by omega) (by omega)
theorem ple_tr (a b c : Int × Int) (h : ple a b = true) (k : ple b c = true) : ple a c = true := by
  rw [ple_iff] at h k ⊢; omega
theorem ple_tot (a b : Int × Int) : (ple a b || ple b a) = true := by
  rw [Bool.or_eq_true, ple_iff, ple_iff]; omega
/-- one item put into a sorted list -/
noncomputable def insP (a : Int × Int) : List (Int × Int) → List (Int × Int)
  | [] => [a]
  | b :: l => if ple a b = true then a :: b :: l else b :: insP a l
noncomputable def sortP : List (Int × Int) → List (Int × Int)
  | [] => []
  | a :: l => insP a (sortP l)
theorem insP_perm (a : Int × Int) : ∀ l, (insP a l).Perm (a :: l)
  | [] => .refl _
  | b :: l => by
    unfold insP
    split
    · exact .refl _
    · exact ((insP_perm a l).cons b).trans (.swap _ _ _)
theorem sortP_perm : ∀ l, (sortP l).Perm l
  | [] => .refl _
  | a :: l => (insP_perm a (sortP l)).trans ((sortP_perm l).cons a)
theorem insP_sorted (a : Int × Int) : ∀ l, l.Pairwise (fun x y => ple x y = true) → (insP a l).Pairwise fun x y => ple x y = true
  | [], _ => by unfold insP; exact List.pairwise_singleton _ _
  | b :: l, h => by
    unfold insP
    have hb := List.pairwise_cons.mp h
    split
    · rename_i q
      refine List.pairwise_cons.mpr ⟨fun y hy => ?_, h⟩
      rcases List.mem_cons.mp hy with e | hy
      · rw [e]; exact q
      · exact ple_tr _ _ _ q (hb.1 y hy)
    · rename_i q
      refine List.pairwise_cons.mpr ⟨fun y hy => ?_, insP_sorted a l hb.2⟩
      rcases List.mem_cons.mp ((insP_perm a l).mem_iff.mp hy) with e | hy
      · rw [e]
        have := ple_tot a b
        rw [Bool.or_eq_true] at this
        exact this.resolve_left q
      · exact hb.1 y hy
theorem sortP_sorted : ∀ l, (sortP l).Pairwise fun x y => ple x y = true
  | [] => .nil
  | a :: l => insP_sorted a _ (sortP_sorted l)
theorem sortP_is {l m : List (Int × Int)} (h : m.Pairwise fun x y => ple x y = true) (p : m.Perm l) : m = sortP l :=
  List.Perm.eq_of_pairwise (le := fun x y => ple x y = true) (fun a b _ _ h k => ple_anti h k) h (sortP_sorted l) (p.trans (sortP_perm l).symm)
/-- the pairs of a list of data -/
noncomputable def dPairs : List D → Option (List (Int × Int))
  | [] => some []
  | .tup [.int i, .int j] :: ds => (dPairs ds).map ((i, j) :: ·)
  | _ => none
noncomputable abbrev dPair (p : Int × Int) : D := .tup [.int p.1, .int p.2]
@[simp] theorem dPairs_map (l : List (Int × Int)) : dPairs (l.map dPair) = some l := by
  induction l with
  | nil => rfl
  | cons a l ih => rw [List.map_cons]; show (dPairs (l.map dPair)).map _ = _; rw [ih]; rfl
theorem dPairs_eq : ∀ {ds : List D} {l : List (Int × Int)}, dPairs ds = some l → ds = l.map dPair
  | [], l, h => by cases h; rfl
  | d :: ds, l, h => by
    unfold dPairs at h
    split at h
    · cases ‹_ :: _ = _›
    · rename_i i j ds' e
      cases e
      cases q : dPairs ds with
      | none => rw [q] at h; cases h
      | some m =>
        rw [q] at h; cases h
        rw [List.map_cons, ← dPairs_eq q]
    · cases h
section
variable {X : Cx} {cl : Str → Option Addr} {W : WX} {K : PySem.W.Frag} {σ : L2.St} {F H F' H' : Hp}
/-- which pair a value tells -/
noncomputable def pairAt (H : Hp) : V → Int × Int
  | .ref t => match H t with
    | some (.tup [.int i, .int j]) => (i, j)
    | _ => (0, 0)
  | _ => (0, 0)
theorem rp_pair {v : V} {p : Int × Int} (e : Ex F H) (r : Rp K cl F v (dPair p)) : ∃ t, v = .ref t ∧ H t = some (.tup [.int p.1, .int p.2]) ∧ pairAt H v = p := by
  unfold Rp at r
  obtain ⟨t, vs, rfl, h1, h2⟩ := r
  obtain ⟨v1, r1, rfl, k1, k2⟩ := h2.cons_inv
  obtain ⟨v2, r2, rfl, k3, k4⟩ := k2.cons_inv
  rw [k4.nil_inv, k1.int_inv, k3.int_inv] at h1
  have := e _ _ h1
  exact ⟨t, rfl, this, by unfold pairAt; simp only [this]⟩
theorem rps_pairs (e : Ex F H) : ∀ {l : List (Int × Int)} {vs : List V}, Rps K cl F vs (l.map dPair) → vs.map (pairAt H) = l ∧ ∀ v ∈ vs, ∃ t, v = .ref t ∧ H t = some (.tup [.int (pairAt H v).1, .int (pairAt H v).2]) ∧ Rp K cl F v (dPair (pairAt H v))
  | [], vs, r => by rw [r.nil_inv]; exact ⟨rfl, fun v h => by cases h⟩
  | p :: l, vs, r => by
    obtain ⟨v, r', rfl, h1, h2⟩ := r.cons_inv
    obtain ⟨t, k1, k2, k3⟩ := rp_pair e h1
    obtain ⟨k4, k5⟩ := rps_pairs e h2
    refine ⟨by rw [List.map_cons, k3, k4], fun u hu => ?_⟩
    rcases List.mem_cons.mp hu with q | q
    · rw [q, k3]; exact ⟨t, k1, k2, h1⟩
    · exact k5 u q
theorem rps_of_all : ∀ {vs : List V} {k : V → Int × Int}, (∀ v ∈ vs, Rp K cl F v (dPair (k v))) → Rps K cl F vs ((vs.map k).map dPair)
  | [], k, _ => Rps.nil
  | v :: vs, k, h => Rps.cons (h v (by simp)) (rps_of_all fun u hu => h u (by simp [hu]))
noncomputable def bSortP : Bool × List D → R DO := fun x => if x.1 = true then match dPairs x.2 with
  | some l => .ok (.lst ((sortP l).map dPair))
  | none => .st
  else .st
theorem ca_sortP : CaN K cl (rSortedPO K) bSortP := by
  intro W σ F H a vs b ds Q e s r p
  unfold bSortP at p
  split at p
  · rename_i hb
    have hb : b = true := hb
    subst hb
    split at p
    · rename_i l hl
      have ed := dPairs_eq hl
      simp only at ed
      subst ed
      obtain ⟨k1, k2⟩ := rps_pairs e r
      refine ⟨a, vs, pairAt H, rfl, s, fun x hx => let ⟨t, h1, h2, _⟩ := k2 x hx; ⟨t, h1, h2⟩, fun ys q hs hp hq => ?_⟩
      have hperm : (ys.map (pairAt H)).Perm l := by rw [← k1]; exact hp.perm.map _
      have hsrt : (ys.map (pairAt H)).Pairwise fun x y => ple x y = true := by
        rw [List.pairwise_map]
        refine hs.imp fun {x y} h => ?_
        have := SrtO.lexB_no.mp h
        rw [ple_iff]; omega
      have hy := sortP_is hsrt hperm
      have ry : Rps K cl F ys ((sortP l).map dPair) := by
        rw [← hy]
        exact rps_of_all fun v hv => (k2 v (hp.perm.mem_iff.mp hv)).elim fun _ h => h.2.2
      exact p q (.lst ys) F _ (Grow.lay' e hq) hq (Grow.fnone e hq) upd_same ⟨_, rfl, ry⟩
    · exact p.elim
  · exact p.elim
end
section
variable {cl : Str → Option Addr} {K : PySem.W.Frag}
end
section
variable {α : Type} {ρ : En}
@[simp] theorem fOfX_st (k : D → En → Fl α) : fOfX .st k = .st := id rfl
@[simp] theorem fOfX_ite {c : Prop} [Decidable c] (a b : R (D × En)) (k : D → En → Fl α) : fOfX (if c then a else b) k = if c then fOfX a k else fOfX b k := by split <;> rfl
theorem np {i j : Nat} {p : Addr} (h : i ≠ j) : i ∉ [(j, p)].map (·.1) := by simpa using h
end
end UP
namespace UP
open PySem L2 PyProof.Rows PySem.W
section
variable {X : Cx} {cl : Str → Option Addr} {W : WX} {K : PySem.W.Frag} {σ : L2.St} {F H F' H' : Hp}
variable {es : List Expr} {x nm : Str} {kpos p pos : Pos}
end
end UP
namespace DkS
open PySem PySem.Spec PyProof.Rows PySem.W Srt SrtO
section
variable {prog : Program} {w : World} {A : Around} {E : Value → Shared → Prop} {s : Shared} {T : String} {r d : Addr} {n : Nat} {P : Nat → Value → Prop} {OK : Heap → Prop}
end
end DkS
namespace UP
open PySem L2 PyProof.Rows PySem.W
section
variable {X : Cx} {cl : Str → Option Addr} {W : WX} {K : PySem.W.Frag} {σ : L2.St} {F H F' H' : Hp} {pos p2 : Pos}
end
end UP
namespace UP
open PySem L2 PyProof.Rows
section
variable {α : Type} {X : Cx} {cl : Str → Option Addr} {W : WX} {K : PySem.W.Frag} {F0 H0 F H F' H' : Hp} {σ : L2.St} {ρ : En} {e : Expr} {te : TE} {me : En → R DO}
end
end UP
namespace UP
open PySem L2 PyProof.Rows
noncomputable def PostQ (K : PySem.W.Frag) (cl : Str → Option Addr) (W : WX) (σ : L2.St) (F H : Hp) (Q : VK) : R DT → Prop
  | .ok t => ∀ v fp F' H', Grow F H F' H' → Tr K cl F' H' v t fp → fp.Nodup → (∀ a ∈ fp, H a = none ∧ F' a = none) → Q v H'
  | .er x => ∀ cls dd F' H', Grow F H F' H' → ExR K cl F' x cls dd → W cls dd σ H'
  | .st => False
structure UQ (X : Cx) (cl : Str → Option Addr) (W : WX) (e : Expr) (te : TE) (me : En → R DT) : Prop where
  pe : PE X e te
  es : ∀ F0 H0 F H σ ρ Q, Sr X.K cl F0 H0 F H σ ρ → PostQ X.K cl W σ F H Q (me ρ) → te σ H Q
section
variable {α : Type} {X : Cx} {cl : Str → Option Addr} {W : WX} {K : PySem.W.Frag} {F0 H0 F H F' H' : Hp} {σ : L2.St} {ρ : En} {mp : List (Nat × Addr)} {RP : RPt α} {Dn : Ends} {e o : Expr} {te : TE} {pos apos cpos pos' : Pos} {es : List Expr} {t : TA}
theorem PostQ.grow {Q : VK} {r : R DT} (h : PostQ K cl W σ F H Q r) (g : Grow F H F' H') : PostQ K cl W σ F' H' Q r := by
  cases r with
  | ok d => exact fun v fp F2 H2 g2 q n z => h v fp F2 H2 (g.trans g2) q n fun a ha => ⟨g.old a (z a ha).1, (z a ha).2⟩
  | er x => exact fun c d F2 H2 g2 q => h c d F2 H2 (g.trans g2) q
  | st => exact h
theorem tr_fz {v : V} {d : D} (r : Rp K cl F v d) : Tr K cl F H v (.fz d) [] := by unfold Tr; exact ⟨rfl, r⟩
theorem trs_fz {vs : List V} : ∀ {ds : List D}, Rps K cl F vs ds → Trs K cl F H vs (ds.map .fz) []
  | [], r => by unfold List.map Trs; exact ⟨r.nil_inv, rfl⟩
  | d :: ds, r => by
    obtain ⟨v, r', rfl, h1, h2⟩ := r.cons_inv
    rw [List.map_cons]; unfold Trs
    exact ⟨v, r', [], [], rfl, rfl, tr_fz h1, trs_fz h2⟩
/-- a frozen value -/
theorem UE.q {me : En → R D} (h : UE X cl W e te me) : UQ X cl W e te (d1 (fun d => .ok (.fz d)) me) := by
  refine ⟨h.pe, fun F0 H0 F H σ ρ Q S p => h.es F0 H0 F H σ ρ Q S ?_⟩
  unfold d1 at p
  cases e : me ρ with
  | st => rw [e] at p; exact p
  | er x => rw [e] at p; exact p
  | ok d =>
    rw [e, R.bind_ok] at p
    exact fun v F1 H1 g r => p v [] F1 H1 g (tr_fz r) List.nodup_nil fun a ha => by cases ha
/-- a fresh flat one -/
noncomputable def dTn : DO → R DT
  | .lst xs => .ok (.lst (xs.map .fz))
  | .dK ks xs => .ok (.dk ks (xs.map .fz))
  | _ => .st
theorem UN.q {me : En → R DO} (h : UN X cl W e te me) : UQ X cl W e te (d1 dTn me) := by
  refine ⟨h.pe, fun F0 H0 F H σ ρ Q S p => h.es F0 H0 F H σ ρ Q S ?_⟩
  unfold d1 at p
  cases e : me ρ with
  | st => rw [e] at p; exact p
  | er x => rw [e] at p; exact p
  | ok o =>
    rw [e, R.bind_ok] at p
    intro q ho F1 H1 g h0 h1 h2 hr
    cases o with
    | lst xs =>
      obtain ⟨vs, rfl, h3⟩ := hr
      refine p (.ref q) [q] F1 H1 g ?_ (by simp) fun a ha => ?_
      · unfold Tr; exact ⟨q, vs, [], rfl, h2, rfl, trs_fz h3⟩
      · rw [List.mem_singleton.mp ha]; exact ⟨h0, h1⟩
    | dK ks xs =>
      obtain ⟨vs, rfl, hl, h3⟩ := hr
      refine p (.ref q) [q] F1 H1 g ?_ (by simp) fun a ha => ?_
      · unfold Tr; exact ⟨q, vs, [], rfl, h2, hl, rfl, trs_fz h3⟩
      · rw [List.mem_singleton.mp ha]; exact ⟨h0, h1⟩
    | _ => exact p.elim
/-- frozen -/
theorem UQ.fz {me : En → R DT} (h : UQ X cl W e te me) : UE X cl W e te (d1 (fun t => .ok (frzD t)) me) := by
  refine ⟨h.pe, fun F0 H0 F H σ ρ Q S p => h.es F0 H0 F H σ ρ Q S ?_⟩
  unfold d1 at p
  cases e : me ρ with
  | st => rw [e] at p; exact p
  | er x => rw [e] at p; exact p
  | ok t =>
    rw [e, R.bind_ok] at p
    intro v fp F1 H1 g hT hn hz
    let F2 : Hp := fun a => if a ∈ fp then H1 a else F1 a
    have in_ : ∀ {a}, a ∈ fp → F2 a = H1 a := fun h => if_pos h
    have out : ∀ {a}, a ∉ fp → F2 a = F1 a := fun h => if_neg h
    have ex : Ex F1 F2 := fun a o e => by
      have : a ∉ fp := fun z => by rw [(hz a z).2] at e; cases e
      rw [out this]; exact e
    have g2 : Grow F H F2 H1 := ⟨g.f.trans ex, fun a o e => by
      by_cases ha : a ∈ fp
      · rw [in_ ha] at e; exact e
      · rw [out ha] at e; exact g.s a o e, g.h, fun a o e z => by
      have : a ∉ fp := fun w => by rw [(hz a w).1] at e; cases e
      rw [out this]; exact g.n a o e z⟩
    exact p v F2 H1 g2 (hT.rp ex fun a ha => in_ ha)
theorem Trs.append : ∀ {vs us : List V} {ts rs : List DT} {fp fq : List Addr}, Trs K cl F H vs ts fp → Trs K cl F H us rs fq → Trs K cl F H (vs ++ us) (ts ++ rs) (fp ++ fq)
  | vs, us, [], rs, fp, fq, h, k => by unfold Trs at h; rw [h.1, h.2]; exact k
  | vs, us, t :: ts, rs, fp, fq, h, k => by
    unfold Trs at h
    obtain ⟨v, r, f1, f2, rfl, rfl, h1, h2⟩ := h
    rw [List.cons_append, List.cons_append, List.append_assoc]
    unfold Trs
    exact ⟨v, r ++ us, f1, f2 ++ fq, rfl, rfl, h1, Trs.append h2 k⟩
theorem Trs.one {v : V} {t : DT} {fp : List Addr} (h : Tr K cl F H v t fp) : Trs K cl F H [v] [t] fp := by
  unfold Trs; exact ⟨v, [], fp, [], rfl, by simp, h, by unfold Trs; exact ⟨rfl, rfl⟩⟩
theorem Trs.length : ∀ {vs : List V} {ts : List DT} {fp : List Addr}, Trs K cl F H vs ts fp → vs.length = ts.length
  | vs, [], fp, h => by unfold Trs at h; rw [h.1]; rfl
  | vs, t :: ts, fp, h => by
    unfold Trs at h
    obtain ⟨v, r, f1, f2, rfl, rfl, h1, h2⟩ := h
    rw [List.length_cons, List.length_cons, Trs.length h2]
noncomputable def tqStar (K : PySem.W.Frag) (cl : Str → Option Addr) (W : WX) (me : En → R DT) : TE := fun σ H Q => ∃ F0 H0 F ρ, Sr K cl F0 H0 F H σ ρ ∧ PostQ K cl W σ F H Q (me ρ)
theorem UQ.star {me : En → R DT} (h : UQ X cl W e te me) : UQ X cl W e (tqStar X.K cl W me) me :=
  ⟨⟨fun pins s σ H Q I ⟨F0, H0, F, ρ, S, p⟩ => h.pe.run pins s σ H Q I (h.es F0 H0 F H σ ρ Q S p)⟩, fun F0 H0 F H σ ρ Q S p => ⟨F0, H0, F, ρ, S, p⟩⟩
end
end UP
namespace UP
open PySem L2 PyProof.Rows
section
variable {α : Type} {X : Cx} {cl : Str → Option Addr} {W : WX} {K : PySem.W.Frag} {F0 H0 F H F' H' : Hp} {σ : L2.St} {ρ : En} {mp : List (Nat × Addr)} {RP : RPt α} {Dn : Ends} {e o k : Expr} {te tk : TE} {pos apos cpos pos' tpos : Pos} {es : List Expr} {t : TA}
variable {elt tg iter : Expr} {ifs : List Expr} {scope : Scope} {own : List (Str × Nat)} {wi : TI} {ws : List Nat} {mi : En → R (List D)} {gm : D → En → R En} {tm : En → R Bool} {em : En → R DT}
theorem Trs.at : ∀ {vs : List V} {ts : List DT} {fp : List Addr} {n : Nat} {t : DT}, Trs K cl F H vs ts fp → ts[n]? = some t → ∃ v f1 f2 f3, vs[n]? = some v ∧ fp = f1 ++ (f2 ++ f3) ∧ Tr K cl F H v t f2 ∧
      ∀ (H' : Hp) (v' : V) (t' : DT) (f2' : List Addr), (∀ a ∈ f1 ++ f3, H' a = H a) → Tr K cl F H' v' t' f2' → Trs K cl F H' (vs.set n v') (ts.set n t') (f1 ++ (f2' ++ f3))
  | vs, [], fp, n, t, h, e => by simp at e
  | vs, t0 :: ts, fp, 0, t, h, e => by
    have e : t0 = t := by simpa using e
    subst e
    unfold Trs at h
    obtain ⟨v, r, f1, f2, rfl, rfl, h1, h2⟩ := h
    refine ⟨v, [], f1, f2, rfl, rfl, h1, fun H' v' t' f2' hh hT => ?_⟩
    rw [List.set_cons_zero, List.set_cons_zero, List.nil_append]
    unfold Trs
    exact ⟨v', r, f2', f2, rfl, rfl, hT, h2.mono (Ex.refl _) fun a ha => hh a (by simpa using ha)⟩
  | vs, t0 :: ts, fp, n + 1, t, h, e => by
    unfold Trs at h
    obtain ⟨v, r, g1, g2, rfl, rfl, h1, h2⟩ := h
    obtain ⟨u, f1, f2, f3, k1, k2, k3, k4⟩ := Trs.at h2 (show ts[n]? = some t by simpa using e)
    refine ⟨u, g1 ++ f1, f2, f3, by simpa using k1, by rw [k2, List.append_assoc], k3, fun H' v' t' f2' hh hT => ?_⟩
    rw [List.set_cons_succ, List.set_cons_succ, List.append_assoc]
    unfold Trs
    refine ⟨v, r.set n v', g1, f1 ++ (f2' ++ f3), rfl, rfl, h1.mono (Ex.refl _) fun a ha => hh a (by simp [ha]), k4 H' v' t' f2' (fun a ha => hh a ?_) hT⟩
    rcases List.mem_append.mp ha with z | z
    · simp [z]
    · simp [z]
end
end UP
namespace UP
open PySem L2 PyProof.Rows
section
variable {P : Program} {w : World} {K : PySem.W.Frag} {mg : Str → Option Value} {base : Heap} {cl : Str → Option Addr}
end
section
variable {α : Type} {X : Cx} {cl : Str → Option Addr} {W : WX} {K : PySem.W.Frag} {F0 H0 F H F' H' : Hp} {σ : L2.St} {ρ : En} {mp : List (Nat × Addr)} {RP : RPt α} {Dn : Ends} {e o : Expr} {te : TE} {pos apos cpos pos' p : Pos} {es : List Expr} {t : TA} {x : Str} {ps : List Str} {k n : Nat}
/-- the items frozen, the list itself ours -/
noncomputable def dQn : DT → R DO
  | .lst ts => .ok (.lst (frzDs ts))
  | _ => .st
@[simp] theorem dQn_lst (ts : List DT) : dQn (.lst ts) = .ok (.lst (frzDs ts)) := id rfl
theorem UQ.un {me : En → R DT} (h : UQ X cl W e te me) : UN X cl W e te (d1 dQn me) := by
  refine ⟨h.pe, fun F0 H0 F H σ ρ Q S p => h.es F0 H0 F H σ ρ Q S ?_⟩
  unfold d1 at p
  cases e : me ρ with
  | st => rw [e] at p; exact p
  | er x => rw [e] at p; exact p
  | ok t =>
    rw [e, R.bind_ok] at p
    intro v fp F1 H1 g hT hn hz
    cases t with
    | fz _ => exact p.elim
    | tup _ => exact p.elim
    | dk _ _ => exact p.elim
    | ob _ _ _ => exact p.elim
    | lst ts =>
    unfold Tr at hT
    obtain ⟨q, vs, fq, rfl, h1, rfl, h2⟩ := hT
    rw [List.nodup_cons] at hn
    let F2 : Hp := fun a => if a ∈ fq then H1 a else F1 a
    have in_ : ∀ {a}, a ∈ fq → F2 a = H1 a := fun h => if_pos h
    have out : ∀ {a}, a ∉ fq → F2 a = F1 a := fun h => if_neg h
    have hz' : ∀ a ∈ fq, H a = none ∧ F1 a = none := fun a ha => hz a (by simp [ha])
    have ex : Ex F1 F2 := fun a o e => by
      have : a ∉ fq := fun z => by rw [(hz' a z).2] at e; cases e
      rw [out this]; exact e
    have g2 : Grow F H F2 H1 := ⟨g.f.trans ex, fun a o e => by
      by_cases ha : a ∈ fq
      · rw [in_ ha] at e; exact e
      · rw [out ha] at e; exact g.s a o e, g.h, fun a o e z => by
      have : a ∉ fq := fun w => by rw [(hz' a w).1] at e; cases e
      rw [out this]; exact g.n a o e z⟩
    have hq := hz q (by simp)
    exact p q (.lst vs) F2 H1 g2 hq.1 (by rw [out hn.1]; exact hq.2) h1 ⟨vs, rfl, h2.rp ex fun a ha => in_ ha⟩
end
section
variable {α : Type} {ρ : En}
@[simp] theorem dTn_lst (xs : List D) : dTn (.lst xs) = .ok (.lst (xs.map .fz)) := id rfl
@[simp] theorem dTn_dK (ks : List Key) (xs : List D) : dTn (.dK ks xs) = .ok (.dk ks (xs.map .fz)) := id rfl
@[simp] theorem frzD_fz (d : D) : frzD (.fz d) = d := by unfold frzD; rfl
@[simp] theorem frzD_lst (ts : List DT) : frzD (.lst ts) = .lst (frzDs ts) := by rw [frzD]
@[simp] theorem frzD_tup (ts : List DT) : frzD (.tup ts) = .tup (frzDs ts) := by rw [frzD]
@[simp] theorem frzD_dk (ks : List Key) (ts : List DT) : frzD (.dk ks ts) = .dk ks (frzDs ts) := by rw [frzD]
@[simp] theorem frzD_ob (c : Str) (ns : List Str) (ts : List DT) : frzD (.ob c ns ts) = .obj c ns (frzDs ts) := by rw [frzD]
@[simp] theorem frzDs_nil : frzDs [] = [] := by unfold frzDs; rfl
@[simp] theorem frzDs_cons (t : DT) (ts : List DT) : frzDs (t :: ts) = frzD t :: frzDs ts := by rw [frzDs]
@[simp] theorem frzDs_fz (ds : List D) : frzDs (ds.map .fz) = ds := by
  induction ds with
  | nil => simp
  | cons d ds ih => simp [ih]
end
end UP
namespace L2
open PySem PySem.Spec PyProof.Rows PySem.W
section
variable {X : Cx}
end
end L2
namespace UP
open PySem L2 PyProof.Rows
section
variable {α : Type} {X : Cx} {cl : Str → Option Addr} {W : WX} {K : PySem.W.Frag} {F0 H0 F H F' H' : Hp} {σ : L2.St} {ρ : En} {mp : List (Nat × Addr)} {RP : RPt α} {Dn : Ends} {e o k : Expr} {te tk : TE} {pos apos cpos pos' tpos : Pos} {es : List Expr} {t : TA}
end
end UP
namespace UP
open PySem L2 PyProof.Rows
section
variable {α : Type} {X : Cx} {cl : Str → Option Addr} {W : WX} {K : PySem.W.Frag} {F0 H0 F H F' H' : Hp} {σ : L2.St} {ρ : En} {mp : List (Nat × Addr)} {RP : RPt α} {Dn : Ends} {e o k : Expr} {te tk : TE} {pos apos cpos pos' tpos : Pos} {es : List Expr} {t : TA}
end
end UP
namespace L2
open PySem PySem.Spec PyProof.Rows
section
variable {X : Cx} {CX : CXT} {k : Nat} {f C : Addr} {fd : FuncData} {ps : List Str} {sp : Sp} {dvs : List V} {ds : List Value} {E : St → XK} {x m : Str} {p pos apos : Pos} {e o : Expr} {es : List Expr} {ta : TE} {t : TA}
end
end L2
namespace UP
open PySem L2 PyProof.Rows
/-- the method m of each class of cs: it does what the promise of that class says -/
noncomputable def CalM (P : Program) (w : World) (K : PySem.W.Frag) (mg : Str → Option Value) (base : Heap) (cl : Str → Option Addr) (k n : Nat) (m : Str) (cs : List Str) (sp : Str → Sp) : Prop :=
  ∀ c ∈ cs, ∃ (C f : Addr) (fd : FuncData) (ps : List Str), cl c = some C ∧ Cls K C ∧ Meth K C m f ∧ FnOk P w K mg base (L2N.CX P w) k f fd ps (sp c) ∧ Binds K fd ps [] ∧ ps.length = n
theorem CalM.all {P : Program} {w : World} {K : PySem.W.Frag} {mg : Str → Option Value} {base : Heap} {cl : Str → Option Addr} {k n : Nat} {m : Str} {sp : Str → Sp} : ∀ {cs : List Str}, (∀ i : Fin cs.length, ∃ (C f : Addr) (fd : FuncData) (ps : List Str), cl cs[i] = some C ∧ Cls K C ∧ Meth K C m f ∧ FnOk P w K mg base (L2N.CX P w) k f fd ps (sp cs[i]) ∧ Binds K fd ps [] ∧ ps.length = n) → CalM P w K mg base cl k n m cs sp :=
  fun {cs} h c hc => by
    obtain ⟨i, hi, rfl⟩ := List.mem_iff_getElem.mp hc
    exact h ⟨i, hi⟩
section
variable {K : PySem.W.Frag} {cl : Str → Option Addr} {n : Nat} {c : Str}
end
section
variable {α : Type} {X : Cx} {cl : Str → Option Addr} {W : WX} {K : PySem.W.Frag} {F0 H0 F H F' H' : Hp} {σ : L2.St} {ρ : En} {mp : List (Nat × Addr)} {RP : RPt α} {Dn : Ends} {e o : Expr} {te to : TE} {pos apos cpos pos' p : Pos} {es : List Expr} {t : TA} {m f x : Str} {k n : Nat} {cs : List Str}
end
end UP
namespace UP
open PySem L2 PyProof.Rows
section
variable {P : Program} {w : World} {K : PySem.W.Frag} {mg : Str → Option Value} {base : Heap} {cl : Str → Option Addr}
end
section
variable {α : Type} {X : Cx} {cl : Str → Option Addr} {W : WX} {K : PySem.W.Frag} {F0 H0 F H F' H' : Hp} {σ : L2.St} {ρ : En} {mp : List (Nat × Addr)} {RP : RPt α} {Dn : Ends} {e o : Expr} {te to : TE} {pos apos cpos pos' p : Pos} {es : List Expr} {t : TA} {m f x : Str} {k n : Nat} {cs : List Str}
end
end UP
namespace UP
open PySem L2 PyProof.Rows
/-- the law's own promise, whatever the classes are -/
noncomputable def spLw (K : PySem.W.Frag) (m : List D → R D) : Sp := fun vs H Q E => ∀ cl : Str → Option Addr, spV K cl 1 m vs H Q E
end UP
namespace L2
open PySem PySem.Spec PyProof.Rows
section
variable {X : Cx} {CX : CXT} {k n : Nat} {f : Addr} {fd : FuncData} {ps ks : List Str} {sp : Sp} {E : St → XK} {x : Str} {p pos : Pos} {e : Expr} {es : List Expr} {kws : List Keyword} {t tk : TA} {g : List Value → List Value → List Value} {gV : List V → List V → List V}
end
end L2
namespace UP
open PySem L2 PyProof.Rows
section
variable {X : Cx} {cl : Str → Option Addr} {W : WX} {K : PySem.W.Frag} {x kw : Str} {ps : List Str} {p pos kpos : Pos} {e d : Expr} {es : List Expr} {t : TA} {td : TE} {k n : Nat}
end
end UP
namespace UP
open PySem L2 PyProof.Rows
section
variable {α : Type} {X : Cx} {cl : Str → Option Addr} {W : WX} {K : PySem.W.Frag} {F0 H0 F H F' H' : Hp} {σ : L2.St} {ρ : En} {mp : List (Nat × Addr)} {RP : RPt α} {Dn : Ends} {e : Expr} {te : TE} {pos pos' p2 cpos np : Pos}
@[simp] theorem flV_er (x : Exc) (ρ : En) : flV (.er x ρ) = .er x := id rfl
@[simp] theorem flN_er (x : Exc) (ρ : En) : flN (.er x ρ) = .er x := id rfl
@[simp] theorem fW_er (Wp : List Nat) (x : Exc) : fW Wp (.er x ρ : Fl α) = .er x ρ := id rfl
@[simp] theorem fAft_er (x : Exc) (k : En → Fl α) : fAft (.er x ρ : Fl α) k = .er x ρ := id rfl
section
variable {i : Nat} {tb : List (Str × Bool)} {mh : Addr × Addr → Exc → En → Fl α}
end
/-- the strongest reading of a block -/
noncomputable def sStar (K : PySem.W.Frag) (cl : Str → Option Addr) (W : WX) (mp : List (Nat × Addr)) (RP : RPt α) (mb : En → Fl α) : TS := fun Dn σ H => ∃ F0 H0 F ρ, Sr K cl F0 H0 F H σ ρ ∧ Pin mp σ ∧ PostS K cl W mp RP F0 H0 F Dn (mb ρ)
theorem USs.star {b : List Stmt} {t : TS} {mb : En → Fl α} (h : USs X cl W mp RP b t mb) : PSs X b (sStar X.K cl W mp RP mb) :=
  ⟨fun pins s σ H D I ⟨F0, H0, F, ρ, S, P, p⟩ => h.pe.run pins s σ H D I (h.es F0 H0 F H σ ρ D S P p)⟩
section
variable {tb : List (Str × Bool)} {mh : En → Fl α}
end
end
end UP
namespace UP
open PySem L2 PyProof.Rows
section
variable {α : Type} {X : Cx} {cl : Str → Option Addr} {W : WX} {K : PySem.W.Frag} {F0 H0 F H F' H' : Hp} {σ : L2.St} {ρ : En} {mp : List (Nat × Addr)} {RP : RPt α} {Dn : Ends} {e : Expr} {te : TE} {pos pos' p p2 cpos np : Pos}
/-- a class by its name -/
noncomputable def ClsN (mg : Str → Option Value) (c : Str) (v : V) (u : Value) : Prop :=
  (∃ C, v = .ref C ∧ u = .ref C ∧ mg c = some (.ref C)) ∨ ∃ n, v = .ty n ∧ u = .type n ∧ mg c = none ∧ bootBuiltins c = some (.type n) ∧ c ≠ "__name__"
theorem ClsN.v {mg : Str → Option Value} {c : Str} {v : V} {u : Value} (h : ClsN mg c v u) : ClsV v u := by
  rcases h with ⟨C, rfl, rfl, _⟩ | ⟨n, rfl, rfl, _⟩
  · exact .own C
  · exact .ty n
end
end UP
namespace UP
open PySem L2 PyProof.Rows
section
variable {α : Type} {X : Cx} {cl : Str → Option Addr} {W : WX} {K : PySem.W.Frag} {F0 H0 F H F' H' : Hp} {σ : L2.St} {ρ : En} {mp : List (Nat × Addr)} {RP : RPt α} {Dn : Ends} {e : Expr} {te : TE} {pos pos' p p2 cpos np : Pos}
end
theorem _root_.L2H.RoomH.units {k : Nat} {A : Around} (r : L2H.RoomH k A) : A.units + 64 < cLine := by have := r.un; omega
section
variable {P : Program} {w : World} {K : PySem.W.Frag} {mg : Str → Option Value} {base : Heap} {cl : Str → Option Addr} {CX : CXT}
end
section
variable {X : Cx} {cl : Str → Option Addr} {W : WX} {e : Expr} {es : List Expr} {t : TA} {p pos : Pos} {x : Str} {ps : List Str} {k n : Nat}
end
end UP
namespace UP
open PySem L2 PyProof.Rows
section
variable {X : Cx} {cl : Str → Option Addr} {W : WX} {a : Expr} {ta : TE} {ma : En → R D} {p p2 pos : Pos} {x : Str}
end
end UP
namespace UP
open PySem L2 PyProof.Rows
section
variable {α : Type} {X : Cx} {cl : Str → Option Addr} {W : WX} {K : PySem.W.Frag} {F0 H0 F H F' H' : Hp} {σ : L2.St} {ρ : En} {mp : List (Nat × Addr)} {RP : RPt α} {Dn : Ends} {e o : Expr} {te : TE} {pos apos cpos pos' : Pos} {es : List Expr} {t : TA}
end
end UP
namespace UP
open PySem L2 PyProof.Rows
noncomputable def dls (H : Hp) (ps : List Addr) : Hp := fun a => if a ∈ ps then none else H a
theorem dls_out {H : Hp} {ps : List Addr} {a : Addr} (h : a ∉ ps) : dls H ps a = H a := if_neg h
section
variable {K : PySem.W.Frag} {cl : Str → Option Addr} {F0 H0 F H F' H' : Hp} {σ : L2.St} {ρ : En}
end
section
variable {P : Program} {w : World} {K : PySem.W.Frag} {mg : Str → Option Value} {base : Heap} {cl : Str → Option Addr}
end
section
variable {X : Cx} {cl : Str → Option Addr} {W : WX} {K : PySem.W.Frag} {e : Expr} {es : List Expr} {t : TA} {i n k : Nat} {x : Str} {p pos : Pos}
end
end UP
namespace UP
open PySem L2 PyProof.Rows
section
variable {P : Program} {w : World} {K : PySem.W.Frag} {mg : Str → Option Value} {base : Heap} {cl : Str → Option Addr}
end
section
variable {X : Cx} {cl : Str → Option Addr} {W : WX} {K : PySem.W.Frag} {e1 e2 : Expr} {es : List Expr} {t : TA} {i j n k : Nat} {x : Str} {ps : List Str} {p pos : Pos} {ma : En → R (List D)}
end
end UP
namespace UP
open PySem L2 PyProof.Rows
section
variable {X : Cx} {cl : Str → Option Addr} {W : WX} {e f o : Expr} {te tz : TE} {mk mz : En → R D} {i : Nat} {apos cpos : Pos}
end
end UP
namespace UP
open PySem L2 PyProof.Rows
section
variable {X : Cx} {cl : Str → Option Addr} {W : WX} {K : PySem.W.Frag} {F : Hp} {e : Expr} {te : TE} {me : En → R D} {p p2 pos pos2 : Pos}
end
end UP
namespace UP
open PySem L2 PyProof.Rows
section
variable {α : Type} {X : Cx} {cl : Str → Option Addr} {W : WX} {mp : List (Nat × Addr)} {RP : RPt α} {o k j e : Expr} {te tk tj : TE} {kpos pos tpos : Pos}
end
end UP
namespace UP
open PySem L2 PyProof.Rows
section
variable {X : Cx} {cl : Str → Option Addr} {K : PySem.W.Frag} {mg : Str → Option Value} {e : Expr} {es : List Expr} {ta : TA} {p1 p2 pos : Pos} {x : Str}
section
variable {pins : List (Addr × Obj)} {σ : L2.St} {H : Hp} {Q : XK} {CX : CXT} {k : Nat} {C fI : Addr} {fd : FuncData} {ps : List Str} {sp : Sp}
end
section
variable {P : Program} {w : World} {base : Heap} {qual n : Str} {st : Stmt} {f : Addr} {fd : FuncData} {N ps : List Str} {k : Nat} {fld : Str} {z : V}
end
section
variable {α : Type} {W : WX} {mp : List (Nat × Addr)} {RP : RPt α} {t : TA} {ma : En → R (List D)} {c f : Str} {k : Nat} {pos' : Pos}
end
end
end UP
namespace UP
open PySem L2 PyProof.Rows
section
variable {α : Type} {X : Cx} {cl : Str → Option Addr} {W : WX} {K : PySem.W.Frag} {F0 H0 F H F' H' : Hp} {σ : L2.St} {ρ : En} {mp : List (Nat × Addr)} {RP : RPt α} {Dn : Ends} {e o : Expr} {te : TE} {pos apos cpos pos' p : Pos} {es : List Expr} {t : TA} {x : Str} {ps : List Str} {k n : Nat}
end
end UP
namespace UP
open PySem L2 PyProof.Rows
section
variable {X : Cx} {cl : Str → Option Addr} {K : PySem.W.Frag} {mg : Str → Option Value} {e : Expr} {es : List Expr} {ta : TA} {p1 p2 pos : Pos} {x : Str}
section
variable {P : Program} {w : World} {base : Heap} {qual n : Str} {st : Stmt} {f : Addr} {fd : FuncData} {N ps : List Str} {k : Nat} {fld : Str} {z : V}
end
section
variable {α : Type} {W : WX} {mp : List (Nat × Addr)} {RP : RPt α} {t : TA} {ma : En → R (List D)} {c f : Str} {k : Nat} {pos' : Pos}
end
end
end UP
namespace UP
open PySem L2 PyProof.Rows
section
variable {α : Type} {X : Cx} {cl : Str → Option Addr} {W : WX} {RP : RPt α} {mp : List (Nat × Addr)} {e o : Expr} {te : TE} {pos apos cpos : Pos}
end
end UP
namespace UP
open PySem L2 PyProof.Rows
section
variable {α : Type} {X : Cx} {cl : Str → Option Addr} {W : WX} {RP : RPt α} {mp : List (Nat × Addr)} {e o : Expr} {te : TE} {pos apos cpos : Pos}
end
section
variable {α : Type} {X : Cx} {cl : Str → Option Addr} {W : WX} {RP : RPt α} {mp : List (Nat × Addr)}
end
end UP
namespace UP
open PySem L2 PyProof.Rows
section
variable {X : Cx} {x n : Str} {c : Value} {i : Nat} {body suite orelse : List Stmt} {b₀ : Stmt} {np pos pos' : Pos} {tb : WX → TS} {ts : Addr → Value → Option Addr → TS} {u : TS} {Wout : WX}
end
section
variable {α : Type} {i : Nat} {tb : List (Str × Bool)} {mh : Addr × Addr → Exc → En → Fl α} {me : En → Fl α} {mb : En → Fl α}
end
section
variable {α : Type} {X : Cx} {cl : Str → Option Addr} {W : WX} {mp : List (Nat × Addr)} {RP : RPt α} {np pos pos' : Pos}
end
end UP
namespace UP
open PySem L2 PyProof.Rows
section
variable {X : Cx} {cl : Str → Option Addr} {W : WX} {K : PySem.W.Frag} {e : Expr} {te : TE} {p apos cpos pos : Pos} {i : Nat}
end
end UP
namespace UP
open PySem L2 PyProof.Rows
section
variable {X : Cx} {cl : Str → Option Addr} {W : WX} {K : PySem.W.Frag}
end
end UP
namespace UP
open PySem L2 PyProof.Rows
section
variable {α : Type} {X : Cx} {cl : Str → Option Addr} {W : WX} {K : PySem.W.Frag} {F0 H0 F H F' H' : Hp} {σ : L2.St} {ρ : En} {mp : List (Nat × Addr)} {RP : RPt α} {Dn : Ends} {e e1 o : Expr} {te tk : TE} {pos apos cpos tpos pos' p : Pos} {es : List Expr} {t : TA} {x : Str} {ps : List Str} {n : Nat}
end
end UP
namespace UP
open PySem L2 PyProof.Rows
section
variable {X : Cx} {cl : Str → Option Addr} {W : WX} {K : PySem.W.Frag} {F0 H0 F H F' H' : Hp} {σ : L2.St} {ρ : En} {e : Expr} {te : TE}
end
end UP
namespace UP
open PySem PySem.Spec PyProof.Rows HotX
section
variable {prog : Program} {w : World} {A : Around} {E : Value → Shared → Prop} {s : Shared} {x1 : Addr}
end
end UP
namespace UP
open PySem L2 PyProof.Rows
section
variable {α : Type} {X : Cx} {cl : Str → Option Addr} {W : WX} {F0 H0 F H F' H' : Hp} {σ : L2.St} {ρ : En} {mp : List (Nat × Addr)} {RP : RPt α} {Dn : Ends} {tg l e e2 : Expr} {tl te : TE} {pos p : Pos} {ta : TA}
end
end UP
namespace UP
open PySem L2 PyProof.Rows
section
variable {X : Cx} {e e2 : Expr} {ta : TA} {p pos tpos : Pos} {elts : List Expr} {kk : Nat}
end
end UP
namespace UP
open PySem L2 PyProof.Rows
section
variable {α : Type} {X : Cx} {cl : Str → Option Addr} {W : WX} {K : PySem.W.Frag} {F0 H0 F H F' H' : Hp} {σ : L2.St} {ρ : En} {mp : List (Nat × Addr)} {RP : RPt α} {Dn : Ends} {tg e e2 : Expr} {te : TE} {pos p tpos : Pos} {ta : TA}
end
section
variable {P : Program} {w : World} {Kf : PySem.W.Frag} {mg : Str → Option Value} {base : Heap} {N : List Str} {qual : Str} {scope : Scope} {f : Addr} {cd : Value} {A : Around} {outer : List Env} {s : Shared} {H : Hp} {E : XK} {z : Addr × Obj}
end
end UP
namespace UP
open PySem L2 PyProof.Rows
section
variable {α : Type} {X : Cx} {cl : Str → Option Addr} {W : WX} {mp : List (Nat × Addr)} {RP : RPt α} {o k j e : Expr} {te tk tj : TE} {kpos pos tpos : Pos}
end
section
variable {X : Cx} {cl : Str → Option Addr} {W : WX} {o k : Expr} {tk : TE} {kpos pos tpos cpos apos : Pos}
end
section
variable {X : Cx} {cl : Str → Option Addr} {W : WX} {o e : Expr} {te : TE} {p2 pos : Pos} {me mk : En → R D}
end
end UP
namespace UP
open PySem L2 PyProof.Rows
section
variable {α : Type} {X : Cx} {cl : Str → Option Addr} {W : WX} {K : PySem.W.Frag} {F0 H0 F H F' H' : Hp} {σ : L2.St} {ρ : En} {mp : List (Nat × Addr)} {RP : RPt α} {Dn : Ends} {e o : Expr} {te to : TE} {pos apos cpos pos' fpos p : Pos} {cs : List Str} {f : Str}
noncomputable def fAt (f : Str) : List Str → Option Nat
  | [] => none
  | n :: ns => if f = n then some 0 else (fAt f ns).map (· + 1)
theorem fAt_ok : ∀ {ns : List Str} {vs : List V} {n : Nat} {v : V}, ns.length = vs.length → fAt f ns = some n → vs[n]? = some v → (ns.zip vs).lookup f = some v
  | [], vs, n, v, hl, h, _ => by cases h
  | m :: ns, [], n, v, hl, h, _ => by cases hl
  | m :: ns, u :: vs, n, v, hl, h, hv => by
    unfold fAt at h
    rw [List.zip_cons_cons]
    by_cases e : f = m
    · rw [if_pos e] at h; cases h
      rw [List.getElem?_cons_zero] at hv
      subst e
      rw [List.lookup_cons_self]; exact hv
    · rw [if_neg e] at h
      cases h2 : fAt f ns with
      | none => rw [h2] at h; cases h
      | some k =>
        rw [h2] at h; cases h
        rw [List.getElem?_cons_succ] at hv
        have ne : (f == m) = false := by simpa using e
        rw [List.lookup_cons, ne]
        exact fAt_ok (by simpa using hl) h2 hv
end
end UP
namespace UP
open PySem L2 PyProof.Rows
section
variable {K : PySem.W.Frag} {X : Cx} {cl : Str → Option Addr} {W : WX}
end
end UP
namespace UP
open PySem L2 PyProof.Rows
section
variable {K : PySem.W.Frag} {X : Cx} {cl : Str → Option Addr} {W : WX}
end
end UP
namespace UP
open PySem L2 PyProof.Rows
section
variable {K : PySem.W.Frag} {X : Cx} {cl : Str → Option Addr} {W : WX} {a b : Expr} {ta tb : TE} {ma mb : En → R D} {pos : Pos}
end
end UP
namespace UP
open PySem L2 PyProof.Rows
section
variable {K : PySem.W.Frag} {X : Cx} {cl : Str → Option Addr} {W : WX} {o e : Expr} {to te : TE} {pos apos : Pos}
end
end UP
namespace UP
open PySem L2 PyProof.Rows
section
variable {α : Type} {X : Cx} {cl : Str → Option Addr} {W : WX} {K : PySem.W.Frag} {F0 H0 F H F' H' : Hp} {σ : L2.St} {ρ : En} {mp : List (Nat × Addr)} {RP : RPt α} {Dn : Ends} {e : Expr} {te : TE} {pos pos' pos2 cpos np np2 : Pos}
section
variable {tb tb2 : List (Str × Bool)} {mh mh2 mb : En → Fl α}
end
end
end UP
namespace UP
open PySem L2 PyProof.Rows
section
variable {K : PySem.W.Frag} {X : Cx} {cl : Str → Option Addr} {W : WX} {o e : Expr} {to te : TE} {p pos apos : Pos}
end
end UP
namespace L2
open PySem PyProof.Rows
end L2
namespace UP
open PySem L2 PyProof.Rows
section
variable {K : PySem.W.Frag} {X : Cx} {cl : Str → Option Addr} {W : WX}
end
end UP
namespace UP
open PySem L2 PyProof.Rows
end UP
namespace UP
open PySem L2 PyProof.Rows
section
variable {K : PySem.W.Frag} {X : Cx} {cl : Str → Option Addr} {W : WX}
end
end UP
namespace UP
open PySem L2 PyProof.Rows
inductive RS (S α : Type) where
  | ok (a : α) (s : S) | er (x : Exc) (s : S) | st
noncomputable def RS.bind {S α β : Type} : RS S α → (α → S → RS S β) → RS S β
  | .ok a s, f => f a s
  | .er x s, _ => .er x s
  | .st, _ => .st
@[simp] theorem RS.bind_ok {S α β : Type} (a : α) (s : S) (f : α → S → RS S β) : RS.bind (.ok a s) f = f a s := id rfl
@[simp] theorem RS.bind_er {S α β : Type} (x : Exc) (s : S) (f : α → S → RS S β) : RS.bind (.er x s) f = .er x s := id rfl
@[simp] theorem RS.bind_st {S α β : Type} (f : α → S → RS S β) : RS.bind .st f = .st := id rfl
/-- what changes nothing -/
noncomputable def RS.of {S α : Type} (s : S) : R α → RS S α
  | .ok a => .ok a s
  | .er x => .er x s
  | .st => .st
@[simp] theorem RS.of_ok {S α : Type} (s : S) (a : α) : RS.of s (.ok a) = .ok a s := id rfl
@[simp] theorem RS.of_er {S α : Type} (s : S) (x : Exc) : (RS.of s (.er x) : RS S α) = .er x s := id rfl
@[simp] theorem RS.of_st {S α : Type} (s : S) : (RS.of s .st : RS S α) = .st := id rfl
section
variable {K : PySem.W.Frag} {cl : Str → Option Addr} {F0 H0 F H F' H' F1 H1 F2 H2 : Hp} {σ : L2.St} {ρ ρ' ρ1 ρ2 : En}
/-- at a no slot's object lies -/
noncomputable def Out (K : PySem.W.Frag) (cl : Str → Option Addr) (F H : Hp) (σ : L2.St) (ρ : En) (a : Addr) : Prop :=
  (∀ (j : Nat) (o : DO) (p : Addr), ρ[j]? = some (.own o) → σ[j]? = some (some (.ref p)) → p ≠ a) ∧
  (∀ (j : Nat) (t : DT) (v : V) (fq : List Addr), ρ[j]? = some (.tr t) → σ[j]? = some (some v) → Tr K cl F H v t fq → a ∉ fq)
/-- what no slot holds stays -/
noncomputable def Fr (K : PySem.W.Frag) (cl : Str → Option Addr) (F H : Hp) (σ : L2.St) (ρ : En) (F' H' : Hp) (ρ' : En) : Prop :=
  ∀ a u, H a = some u → F a = none → Out K cl F H σ ρ a → H' a = some u ∧ F' a = none ∧ Out K cl F' H' σ ρ' a
theorem Fr.trans (h : Fr K cl F H σ ρ F1 H1 ρ1) (k : Fr K cl F1 H1 σ ρ1 F2 H2 ρ2) : Fr K cl F H σ ρ F2 H2 ρ2 := fun a u e1 e2 e3 => by
  obtain ⟨q1, q2, q3⟩ := h a u e1 e2 e3
  exact k a u q1 q2 q3
/-- the places of trees are known -/
theorem Sr.out_grow (S : Sr K cl F0 H0 F H σ ρ) (g : Grow F H F' H') {a : Addr} (h : Out K cl F H σ ρ a) : Out K cl F' H' σ ρ a := by
  refine ⟨h.1, fun j t v fq e1 e2 e3 => ?_⟩
  obtain ⟨ω, h1, h2, h3⟩ := S.tr
  obtain ⟨u, q1, q2, q3, q4⟩ := h1 j t e1
  rw [e2] at q1; cases q1
  have : fq = ω j := e3.fn (q2.mono g.f fun b hb => by
    obtain ⟨u, hu⟩ := q2.here b hb
    rw [hu]; exact g.h b u hu)
  rw [this]
  exact h.2 j t v _ e1 e2 q2
/-- a new place is no slot's -/
theorem Sr.out_new (S : Sr K cl F0 H0 F H σ ρ) (g : Grow F H F' H') {a : Addr} (h : H a = none) : Out K cl F' H' σ ρ a :=
  ⟨fun j o p e1 e2 z => S.own_new h j o e1 (z ▸ e2), fun j t v fq e1 e2 e3 => S.new_tr g h j t v fq e1 e2 e3⟩
theorem Sr.fr_grow (S : Sr K cl F0 H0 F H σ ρ) (g : Grow F H F' H') : Fr K cl F H σ ρ F' H' ρ := fun a u e1 e2 e3 =>
  ⟨g.h a u e1, g.n a u e1 e2, S.out_grow g e3⟩
/-- places in slots' objects -/
inductive Plc where
  | v | f (cs : List Str) (f : Str)
/-- the value at a place -/
noncomputable def PlV (cl : Str → Option Addr) (H : Hp) (v : V) : Plc → V → Prop
  | .v, w => w = v
  | .f cs f, w => ∃ a c C dx fs, v = .ref a ∧ c ∈ cs ∧ cl c = some C ∧ H a = some (.ins C dx fs) ∧ fs.lookup f = some w
theorem PlV.mono {v w : V} {q : Plc} (h : PlV cl H v q w) (e : ∀ a u, H a = some u → H' a = some u) : PlV cl H' v q w := by
  cases q with
  | v => exact h
  | f cs f =>
    obtain ⟨a, c, C, dx, fs, h1, h2, h3, h4, h5⟩ := h
    exact ⟨a, c, C, dx, fs, h1, h2, h3, e _ _ h4, h5⟩
/-- these places keep their values -/
noncomputable def Kp (cl : Str → Option Addr) (kp : List (Nat × Plc)) (σ : L2.St) (H H' : Hp) : Prop := ∀ q ∈ kp, ∀ v w, σ[q.1]? = some (some v) → PlV cl H v q.2 w → PlV cl H' v q.2 w
theorem Kp.refl {kp : List (Nat × Plc)} : Kp cl kp σ H H := fun _ _ _ _ _ h => h
theorem Kp.trans {kp : List (Nat × Plc)} (h : Kp cl kp σ H H1) (k : Kp cl kp σ H1 H2) : Kp cl kp σ H H2 := fun q hq v w e z => k q hq v w e (h q hq v w e z)
theorem Kp.grow {kp : List (Nat × Plc)} (g : Grow F H F' H') : Kp cl kp σ H H' := fun q hq v w e z => z.mono g.h
/-- a step -/
structure Stp (K : PySem.W.Frag) (cl : Str → Option Addr) (kp : List (Nat × Plc)) (F0 H0 F H : Hp) (σ : L2.St) (ρ : En) (F' H' : Hp) (ρ' : En) : Prop where
  e : Ex F F'
  s : Sr K cl F0 H0 F' H' σ ρ'
  f : Fr K cl F H σ ρ F' H' ρ'
  k : Kp cl kp σ H H'
variable {kp : List (Nat × Plc)}
theorem Stp.grow (S : Sr K cl F0 H0 F H σ ρ) (g : Grow F H F' H') : Stp K cl kp F0 H0 F H σ ρ F' H' ρ := ⟨g.f, S.mono g, S.fr_grow g, .grow g⟩
theorem Stp.refl (S : Sr K cl F0 H0 F H σ ρ) : Stp K cl kp F0 H0 F H σ ρ F H ρ := Stp.grow S (Grow.refl S.ex)
theorem Stp.trans (a : Stp K cl kp F0 H0 F H σ ρ F1 H1 ρ1) (b : Stp K cl kp F0 H0 F1 H1 σ ρ1 F2 H2 ρ2) : Stp K cl kp F0 H0 F H σ ρ F2 H2 ρ2 :=
  ⟨a.e.trans b.e, b.s, a.f.trans b.f, a.k.trans b.k⟩
/-- how what is told stands in the heap: ahead of it and behind -/
noncomputable abbrev Rr (β α : Type) := Hp → Hp → L2.St → En → Hp → Hp → Hp → En → β → α → Prop
noncomputable def PostZ {β α : Type} (K : PySem.W.Frag) (cl : Str → Option Addr) (W : WX) (kp : List (Nat × Plc)) (rr : Rr β α) (F0 H0 F H : Hp) (σ : L2.St) (ρ : En) (Q : β → Hp → Prop) : RS En α → Prop
  | .ok d ρ' => ∀ v F' H', Stp K cl kp F0 H0 F H σ ρ F' H' ρ' → rr F H σ ρ H0 F' H' ρ' v d → Q v H'
  | .er x ρ' => ∀ cls dd F' H', Stp K cl kp F0 H0 F H σ ρ F' H' ρ' → ExR K cl F' x cls dd → W cls dd σ H'
  | .st => False
/-- values, lists of values, truths, new trees -/
noncomputable def rrD (K : PySem.W.Frag) (cl : Str → Option Addr) : Rr V D := fun _ _ _ _ _ F' _ _ v d => Rp K cl F' v d
noncomputable def rrA (K : PySem.W.Frag) (cl : Str → Option Addr) : Rr (List V) (List D) := fun _ _ _ _ _ F' _ _ v d => Rps K cl F' v d
noncomputable def rrT : Rr Bool Bool := fun _ _ _ _ _ _ _ _ a b => a = b
noncomputable def rrL (K : PySem.W.Frag) (cl : Str → Option Addr) : Rr V (Bool × List D) := fun _ _ _ _ _ F' H' _ v q => ∃ a vs, v = .ref a ∧ SqB K q.1 H' a vs ∧ Rps K cl F' vs q.2
noncomputable def rrY (K : PySem.W.Frag) (cl : Str → Option Addr) : Rr V DT := fun F H σ ρ H0 F' H' ρ' v t => ∃ fp, Tr K cl F' H' v t fp ∧ fp.Nodup ∧ ∀ a ∈ fp, F' a = none ∧ H0 a = none ∧ Out K cl F' H' σ ρ' a ∧ ¬ (∃ u, H a = some u ∧ F a = none ∧ Out K cl F H σ ρ a)
noncomputable def EsZ {β α : Type} (K : PySem.W.Frag) (cl : Str → Option Addr) (W : WX) (kp : List (Nat × Plc)) (rr : Rr β α) (te : L2.St → Hp → (β → Hp → Prop) → Prop) (mz : En → RS En α) : Prop :=
  ∀ F0 H0 F H σ ρ Q, Sr K cl F0 H0 F H σ ρ → PostZ K cl W kp rr F0 H0 F H σ ρ Q (mz ρ) → te σ H Q
structure ZE (X : Cx) (cl : Str → Option Addr) (W : WX) (kp : List (Nat × Plc)) (e : Expr) (te : TE) (mz : En → RS En D) : Prop where
  pe : PE X e te
  es : EsZ X.K cl W kp (rrD X.K cl) te mz
structure ZY (X : Cx) (cl : Str → Option Addr) (W : WX) (kp : List (Nat × Plc)) (e : Expr) (te : TE) (mz : En → RS En DT) : Prop where
  pe : PE X e te
  es : EsZ X.K cl W kp (rrY X.K cl) te mz
structure ZT (X : Cx) (cl : Str → Option Addr) (W : WX) (kp : List (Nat × Plc)) (e : Expr) (te : TT) (mz : En → RS En Bool) : Prop where
  pe : PT X e te
  es : EsZ X.K cl W kp rrT te mz
structure ZW (X : Cx) (cl : Str → Option Addr) (W : WX) (kp : List (Nat × Plc)) (e : Expr) (te : TT) (mz : En → RS En Bool) : Prop where
  pe : PW X e te
  es : EsZ X.K cl W kp rrT te mz
structure ZA (X : Cx) (cl : Str → Option Addr) (W : WX) (kp : List (Nat × Plc)) (es : List Expr) (ta : TA) (mz : En → RS En (List D)) : Prop where
  pe : PA X es ta
  es : EsZ X.K cl W kp (rrA X.K cl) ta mz
structure ZL (X : Cx) (cl : Str → Option Addr) (W : WX) (kp : List (Nat × Plc)) (e : Expr) (te : TE) (mz : En → RS En (Bool × List D)) : Prop where
  pe : PE X e te
  es : EsZ X.K cl W kp (rrL X.K cl) te mz
/-- behind a step -/
theorem PostZ.step {β α : Type} {W : WX} {rr : Rr β α} {Q : β → Hp → Prop} {r : RS En α} (s : Stp K cl kp F0 H0 F H σ ρ F1 H1 ρ1)
    (hr : ∀ d v F' H' ρ', rr F1 H1 σ ρ1 H0 F' H' ρ' v d → rr F H σ ρ H0 F' H' ρ' v d) (p : PostZ K cl W kp rr F0 H0 F H σ ρ Q r) : PostZ K cl W kp rr F0 H0 F1 H1 σ ρ1 Q r := by
  cases r with
  | ok d ρ' => exact fun v F' H' q r => p v F' H' (s.trans q) (hr d v F' H' ρ' r)
  | er x ρ' => exact fun c d F' H' q r => p c d F' H' (s.trans q) r
  | st => exact p
/-- one behind the other -/
theorem EsZ.bind {β γ α δ : Type} {W : WX} {ra : Rr β α} {rb : Rr γ δ} {ta : L2.St → Hp → (β → Hp → Prop) → Prop} {tb : β → L2.St → Hp → (γ → Hp → Prop) → Prop} {ma : En → RS En α} {mb : α → En → RS En δ}
    (hst : ∀ {F0 H0 F H σ ρ F1 H1 ρ1}, Stp K cl kp F0 H0 F H σ ρ F1 H1 ρ1 → ∀ d v F' H' ρ', rb F1 H1 σ ρ1 H0 F' H' ρ' v d → rb F H σ ρ H0 F' H' ρ' v d)
    (ha : EsZ K cl W kp ra ta ma)
    (hb : ∀ F0 H0 F H σ ρ v d Q, Sr K cl F0 H0 F H σ ρ → (∃ Fi Hi ρi, ra Fi Hi σ ρi H0 F H ρ v d) → PostZ K cl W kp rb F0 H0 F H σ ρ Q (mb d ρ) → tb v σ H Q) :
    EsZ K cl W kp rb (fun σ H Q => ta σ H fun v H1 => tb v σ H1 Q) (fun ρ => (ma ρ).bind mb) := by
  intro F0 H0 F H σ ρ Q S p
  have p : PostZ K cl W kp rb F0 H0 F H σ ρ Q ((ma ρ).bind mb) := p
  refine ha F0 H0 F H σ ρ _ S ?_
  cases e : ma ρ with
  | st => rw [e] at p; exact p
  | er x ρ1 => rw [e] at p; exact p
  | ok d ρ1 =>
    rw [e, RS.bind_ok] at p
    intro v F1 H1 s r
    exact hb F0 H0 F1 H1 σ ρ1 v d Q s.s ⟨F, H, ρ, r⟩ (p.step s (hst s))
/-- what changes nothing, told so -/
theorem post_z {W : WX} {Q : VK} {r : R D} (S : Sr K cl F0 H0 F H σ ρ) (p : PostZ K cl W kp (rrD K cl) F0 H0 F H σ ρ Q (RS.of ρ r)) : Post K cl W σ F H Q r := by
  cases r with
  | ok d => exact fun v F' H' g q => p v F' H' (.grow S g) q
  | er x => exact fun c d F' H' g q => p c d F' H' (.grow S g) q
  | st => exact p
theorem postA_z {W : WX} {Q : List V → Hp → Prop} {r : R (List D)} (S : Sr K cl F0 H0 F H σ ρ) (p : PostZ K cl W kp (rrA K cl) F0 H0 F H σ ρ Q (RS.of ρ r)) : PostA K cl W σ F H Q r := by
  cases r with
  | ok d => exact fun v F' H' g q => p v F' H' (.grow S g) q
  | er x => exact fun c d F' H' g q => p c d F' H' (.grow S g) q
  | st => exact p
theorem postT_z {W : WX} {Q : Bool → Hp → Prop} {r : R Bool} (S : Sr K cl F0 H0 F H σ ρ) (p : PostZ K cl W kp rrT F0 H0 F H σ ρ Q (RS.of ρ r)) : PostT K cl W σ F H Q r := by
  cases r with
  | ok d => exact fun F' H' g => p d F' H' (.grow S g) rfl
  | er x => exact fun c d F' H' g q => p c d F' H' (.grow S g) q
  | st => exact p
theorem postL_z {W : WX} {Q : VK} {r : R (Bool × List D)} (S : Sr K cl F0 H0 F H σ ρ) (p : PostZ K cl W kp (rrL K cl) F0 H0 F H σ ρ Q (RS.of ρ r)) : PostL K cl W σ F H Q r := by
  cases r with
  | ok d => obtain ⟨b, xs⟩ := d; exact fun a vs F' H' g q r => p _ F' H' (.grow S g) ⟨a, vs, rfl, q, r⟩
  | er x => exact fun c d F' H' g q => p c d F' H' (.grow S g) q
  | st => exact p
theorem postQ_z {W : WX} {Q : VK} {r : R DT} (S : Sr K cl F0 H0 F H σ ρ) (p : PostZ K cl W kp (rrY K cl) F0 H0 F H σ ρ Q (RS.of ρ r)) : PostQ K cl W σ F H Q r := by
  cases r with
  | ok t => exact fun v fp F' H' g q n z => p v F' H' (.grow S g) ⟨fp, q, n, fun a ha => ⟨(z a ha).2, S.grow.old a (z a ha).1, S.out_new g (z a ha).1, fun ⟨u, e, _⟩ => by rw [(z a ha).1] at e; cases e⟩⟩
  | er x => exact fun c d F' H' g q => p c d F' H' (.grow S g) q
  | st => exact p
end
section
variable {X : Cx} {cl : Str → Option Addr} {W : WX} {kp : List (Nat × Plc)} {e : Expr} {es : List Expr} {te : TE} {tt : TT} {t : TA} {pos p : Pos}
noncomputable def zOf {α : Type} (me : En → R α) : En → RS En α := fun ρ => RS.of ρ (me ρ)
@[simp] theorem zOf_ap {α : Type} (me : En → R α) (ρ : En) : zOf me ρ = RS.of ρ (me ρ) := id rfl
theorem UE.z {me : En → R D} (h : UE X cl W e te me) : ZE X cl W kp e te (zOf me) := ⟨h.pe, fun F0 H0 F H σ ρ Q S p => h.es F0 H0 F H σ ρ Q S (post_z S p)⟩
theorem UA.z {me : En → R (List D)} (h : UA X cl W es t me) : ZA X cl W kp es t (zOf me) := ⟨h.pe, fun F0 H0 F H σ ρ Q S p => h.es F0 H0 F H σ ρ Q S (postA_z S p)⟩
theorem UT.z {me : En → R Bool} (h : UT X cl W e tt me) : ZT X cl W kp e tt (zOf me) := ⟨h.pe, fun F0 H0 F H σ ρ Q S p => h.es F0 H0 F H σ ρ Q S (postT_z S p)⟩
theorem UW.z {me : En → R Bool} (h : UW X cl W e tt me) : ZW X cl W kp e tt (zOf me) := ⟨h.pe, fun F0 H0 F H σ ρ Q S p => h.es F0 H0 F H σ ρ Q S (postT_z S p)⟩
theorem UL.z {me : En → R (Bool × List D)} (h : UL X cl W e te me) : ZL X cl W kp e te (zOf me) := ⟨h.pe, fun F0 H0 F H σ ρ Q S p => h.es F0 H0 F H σ ρ Q S (postL_z S p)⟩
theorem UQ.z {me : En → R DT} (h : UQ X cl W e te me) : ZY X cl W kp e te (zOf me) := ⟨h.pe, fun F0 H0 F H σ ρ Q S p => h.es F0 H0 F H σ ρ Q S (postQ_z S p)⟩
/-- a new tree, frozen -/
noncomputable def zFz (mz : En → RS En DT) : En → RS En D := fun ρ => (mz ρ).bind fun t ρ' => .ok (frzD t) ρ'
@[simp] theorem zFz_ap (mz : En → RS En DT) (ρ : En) : zFz mz ρ = (mz ρ).bind fun t ρ' => .ok (frzD t) ρ' := id rfl
/-- a fresh tree becomes frozen -/
theorem Sr.frzNew {K : PySem.W.Frag} {F0 H0 F H : Hp} {σ : L2.St} {ρ : En} {v : V} {t : DT} {fp : List Addr} (S : Sr K cl F0 H0 F H σ ρ) (hT : Tr K cl F H v t fp) (hn : fp.Nodup) (hz : ∀ a ∈ fp, F a = none ∧ H0 a = none ∧ Out K cl F H σ ρ a) :
    ∃ F', Ex F F' ∧ (∀ a, a ∉ fp → F' a = F a) ∧ Sr K cl F0 H0 F' H σ ρ ∧ Rp K cl F' v (frzD t) := by
  let F' : Hp := fun a => if a ∈ fp then H a else F a
  have in_ : ∀ {a}, a ∈ fp → F' a = H a := fun h => if_pos h
  have out : ∀ {a}, a ∉ fp → F' a = F a := fun h => if_neg h
  have ex : Ex F F' := fun a o e => by
    have : a ∉ fp := fun z => by rw [(hz a z).1] at e; cases e
    rw [out this]; exact e
  refine ⟨F', ex, fun a h => out h, ?_, hT.rp ex fun a ha => in_ ha⟩
  have g : Grow F0 H0 F' H := ⟨S.grow.f.trans ex, fun a o e => by
    by_cases ha : a ∈ fp
    · rw [in_ ha] at e; exact e
    · rw [out ha] at e; exact S.grow.s a o e, S.grow.h, fun a o e z => by
    have : a ∉ fp := fun w => by rw [(hz a w).2.1] at e; cases e
    rw [out this]; exact S.grow.n a o e z⟩
  obtain ⟨ω, h1, h2, h3⟩ := S.tr
  refine ⟨g, S.len, fun j d e => ?_, fun j o e => ?_, S.dis, ω, fun j t' e => ?_, h2, h3⟩
  · obtain ⟨u, q1, q2⟩ := S.val j d e
    exact ⟨u, q1, q2.mono ex⟩
  · obtain ⟨p, ho, q1, q2, q3, q4, q5⟩ := S.own j o e
    have : p ∉ fp := fun w => (hz p w).2.2.1 j o p e q1 rfl
    exact ⟨p, ho, q1, by rw [out this]; exact q2, q3, q4.mono ex, q5⟩
  · obtain ⟨u, q1, q2, q3, q4⟩ := h1 j t' e
    exact ⟨u, q1, q2.mono ex fun _ _ => rfl, q3, fun a ha => ⟨by rw [out fun w => (hz a w).2.2.2 j t' u _ e q1 q2 ha]; exact (q4 a ha).1, (q4 a ha).2⟩⟩
theorem ZY.fz {mz : En → RS En DT} (h : ZY X cl W kp e te mz) : ZE X cl W kp e te (zFz mz) := by
  refine ⟨h.pe, fun F0 H0 F H σ ρ Q S p => h.es F0 H0 F H σ ρ Q S ?_⟩
  unfold zFz at p
  cases e1 : mz ρ with
  | st => rw [e1] at p; exact p
  | er x ρ1 => rw [e1] at p; exact p
  | ok t ρ1 =>
    rw [e1, RS.bind_ok] at p
    intro v F1 H1 s ⟨fp, hT, hn, hz⟩
    obtain ⟨F2, ex, out, S2, r⟩ := s.s.frzNew hT hn fun a ha => ⟨(hz a ha).1, (hz a ha).2.1, (hz a ha).2.2.1⟩
    refine p v F2 H1 ⟨s.e.trans ex, S2, fun a u q1 q2 q3 => ?_, s.k⟩ r
    obtain ⟨k1, k2, k3⟩ := s.f a u q1 q2 q3
    have na : a ∉ fp := fun w => (hz a w).2.2.2 ⟨u, q1, q2, q3⟩
    refine ⟨k1, by rw [out a na]; exact k2, k3.1, fun j t' v' fq w1 w2 w3 => ?_⟩
    obtain ⟨ω, h1, h2, h3⟩ := s.s.tr
    obtain ⟨u', z1, z2, z3, z4⟩ := h1 j t' w1
    rw [w2] at z1; cases z1
    rw [w3.fn (z2.mono ex fun _ _ => rfl)]
    exact k3.2 j t' v' _ w1 w2 z2
/-- a value as a tree -/
theorem ZE.y {mz : En → RS En D} (h : ZE X cl W kp e te mz) : ZY X cl W kp e te (fun ρ => (mz ρ).bind fun d ρ' => .ok (.fz d) ρ') := by
  refine ⟨h.pe, fun F0 H0 F H σ ρ Q S p => h.es F0 H0 F H σ ρ Q S ?_⟩
  have p : PostZ X.K cl W kp (rrY X.K cl) F0 H0 F H σ ρ Q ((mz ρ).bind fun d ρ' => .ok (.fz d) ρ') := p
  cases e1 : mz ρ with
  | st => rw [e1] at p; exact p
  | er x ρ1 => rw [e1] at p; exact p
  | ok t ρ1 =>
    rw [e1, RS.bind_ok] at p
    exact fun v F1 H1 s r => p v F1 H1 s ⟨[], tr_fz r, List.nodup_nil, fun a ha => by cases ha⟩
end
end UP
namespace UP
open PySem L2 PyProof.Rows
noncomputable def atP : Plc → DT → Option DT
  | .v, T => some T
  | .f cs f, .ob c ns ts => if c ∈ cs then match fAt f ns with
    | some n => ts[n]?
    | none => none
    else none
  | _, _ => none
noncomputable def putP : Plc → DT → DT → DT
  | .v, t, _ => t
  | .f _ f, t, .ob c ns ts => match fAt f ns with
    | some n => .ob c ns (ts.set n t)
    | none => .ob c ns ts
  | _, _, T => T
@[simp] theorem atP_v (T : DT) : atP .v T = some T := id rfl
@[simp] theorem atP_f (cs : List Str) (f c : Str) (ns : List Str) (ts : List DT) : atP (.f cs f) (.ob c ns ts) = if c ∈ cs then match fAt f ns with
    | some n => ts[n]?
    | none => none
    else none := id rfl
@[simp] theorem putP_v (t T : DT) : putP .v t T = t := id rfl
@[simp] theorem putP_f (cs : List Str) (f c : Str) (ns : List Str) (ts : List DT) (t : DT) : putP (.f cs f) t (.ob c ns ts) = match fAt f ns with
    | some n => .ob c ns (ts.set n t)
    | none => .ob c ns ts := id rfl
/-- the tree at a slot's place -/
noncomputable def plAt (i : Nat) (q : Plc) (ρ : En) : R DT := match ρ[i]? with
  | some (.tr T) => match atP q T with
    | some t => .ok t
    | none => .st
  | _ => .st
noncomputable def plSet (i : Nat) (q : Plc) (t : DT) (ρ : En) : En := match ρ[i]? with
  | some (.tr T) => ρ.set i (.tr (putP q t T))
  | _ => ρ
@[simp] theorem plAt_ap (i : Nat) (q : Plc) (ρ : En) : plAt i q ρ = match ρ[i]? with
  | some (Sl.tr T) => match atP q T with
    | some t => .ok t
    | none => .st
  | _ => .st := id rfl
@[simp] theorem plSet_ap (i : Nat) (q : Plc) (t : DT) (ρ : En) : plSet i q t ρ = match ρ[i]? with
  | some (Sl.tr T) => ρ.set i (.tr (putP q t T))
  | _ => ρ := id rfl
theorem plAt_inv {i : Nat} {q : Plc} {ρ : En} {t : DT} (h : plAt i q ρ = .ok t) : ∃ T, ρ[i]? = some (.tr T) ∧ atP q T = some t := by
  unfold plAt at h
  split at h
  rotate_left
  · cases h
  rename_i T hT
  split at h
  rotate_left
  · cases h
  rename_i t' ht
  cases h
  exact ⟨T, hT, ht⟩
theorem plAt_cases (i : Nat) (q : Plc) (ρ : En) : plAt i q ρ = .st ∨ ∃ t, plAt i q ρ = .ok t := by
  unfold plAt
  split
  · split
    · exact .inr ⟨_, rfl⟩
    · exact .inl rfl
  · exact .inl rfl
section
variable {K : PySem.W.Frag} {cl : Str → Option Addr} {F0 H0 F H F' H' : Hp} {σ : L2.St} {ρ : En}
theorem Trs.at2 : ∀ {vs : List V} {ts : List DT} {fp : List Addr} {n : Nat} {t : DT}, Trs K cl F H vs ts fp → ts[n]? = some t → ∃ v f1 f2 f3, vs[n]? = some v ∧ fp = f1 ++ (f2 ++ f3) ∧ Tr K cl F H v t f2 ∧
      ∀ (F' H' : Hp) (v' : V) (t' : DT) (f2' : List Addr), Ex F F' → (∀ a ∈ f1 ++ f3, H' a = H a) → Tr K cl F' H' v' t' f2' → Trs K cl F' H' (vs.set n v') (ts.set n t') (f1 ++ (f2' ++ f3))
  | vs, [], fp, n, t, h, e => by simp at e
  | vs, t0 :: ts, fp, 0, t, h, e => by
    have e : t0 = t := by simpa using e
    subst e
    unfold Trs at h
    obtain ⟨v, r, f1, f2, rfl, rfl, h1, h2⟩ := h
    refine ⟨v, [], f1, f2, rfl, rfl, h1, fun F' H' v' t' f2' ex hh hT => ?_⟩
    rw [List.set_cons_zero, List.set_cons_zero, List.nil_append]
    unfold Trs
    exact ⟨v', r, f2', f2, rfl, rfl, hT, h2.mono ex fun a ha => hh a (by simpa using ha)⟩
  | vs, t0 :: ts, fp, n + 1, t, h, e => by
    unfold Trs at h
    obtain ⟨v, r, g1, g2, rfl, rfl, h1, h2⟩ := h
    obtain ⟨u, f1, f2, f3, k1, k2, k3, k4⟩ := Trs.at2 h2 (show ts[n]? = some t by simpa using e)
    refine ⟨u, g1 ++ f1, f2, f3, by simpa using k1, by rw [k2, List.append_assoc], k3, fun F' H' v' t' f2' ex hh hT => ?_⟩
    rw [List.set_cons_succ, List.set_cons_succ, List.append_assoc]
    unfold Trs
    refine ⟨v, r.set n v', g1, f1 ++ (f2' ++ f3), rfl, rfl, h1.mono ex fun a ha => hh a (by simp [ha]), k4 F' H' v' t' f2' ex (fun a ha => hh a ?_) hT⟩
    rcases List.mem_append.mp ha with z | z
    · simp [z]
    · simp [z]
theorem Tr.place {q : Plc} {v : V} {T t : DT} {fp : List Addr} (h : Tr K cl F H v T fp) (hn : fp.Nodup) (ht : atP q T = some t) : ∃ w f2, PlV cl H v q w ∧ Tr K cl F H w t f2 ∧ (∀ a ∈ f2, a ∈ fp) ∧ f2.Nodup ∧
    ∀ (F' H' : Hp) (t' : DT) (f2' : List Addr), Ex F F' → (∀ a ∈ fp, a ∉ f2 → H' a = H a) → Tr K cl F' H' w t' f2' → ∃ fp', Tr K cl F' H' v (putP q t' T) fp' ∧ (∀ a ∈ fp', (a ∈ fp ∧ a ∉ f2) ∨ a ∈ f2') ∧ (f2'.Nodup → (∀ a ∈ f2', a ∈ fp → a ∈ f2) → fp'.Nodup) ∧ ∀ (q2 : Plc) (w2 : V), (q2 = .v ∨ ∃ cs f, q = .f cs f) → PlV cl H v q2 w2 → PlV cl H' v q2 w2 := by
  cases q with
  | v =>
    cases ht
    exact ⟨v, fp, rfl, h, fun _ h => h, hn, fun F' H' t' f2' _ _ hT => ⟨f2', hT, fun a ha => .inr ha, fun z _ => z, fun q2 w2 hq h => by rcases hq with rfl | ⟨_, _, z⟩; exact h; cases z⟩⟩
  | f cs f =>
    cases T with
    | fz _ => cases ht
    | lst _ => cases ht
    | tup _ => cases ht
    | dk _ _ => cases ht
    | ob c ns ts =>
    rw [atP_f] at ht
    by_cases hc : c ∈ cs
    rotate_left
    · rw [if_neg hc] at ht; cases ht
    rw [if_pos hc] at ht
    cases hfn : fAt f ns with
    | none => rw [hfn] at ht; cases ht
    | some n =>
    rw [hfn] at ht
    have ht : ts[n]? = some t := ht
    unfold Tr at h
    obtain ⟨p, C, dx, vs, fq, rfl, w0, w1, wl, rfl, w3⟩ := h
    obtain ⟨v, f1, f2, f3, k1, rfl, k3, k4⟩ := w3.at2 ht
    have nd := List.nodup_cons.mp hn
    have nq' := List.nodup_append.mp nd.2
    have nq2 := List.nodup_append.mp nq'.2.1
    have pn : p ∉ f2 := fun z => nd.1 (by simp [z])
    refine ⟨v, f2, ⟨p, c, C, dx, _, rfl, hc, w0, w1, fAt_ok wl hfn k1⟩, k3, fun a ha => by simp [ha], nq2.1, fun F' H' t' f2' ex hH hT => ?_⟩
    have hp : H' p = some (.ins C dx (ns.zip vs)) := by rw [hH p (by simp) pn]; exact w1
    have hv : vs.set n v = vs := by
      refine List.ext_getElem? fun j => ?_
      by_cases hj : n = j
      · subst hj; rw [List.getElem?_set_self (List.getElem?_eq_some_iff.mp k1).1, k1]
      · rw [List.getElem?_set_ne hj]
    refine ⟨p :: (f1 ++ (f2' ++ f3)), ?_, fun a ha => ?_, fun hn' hs => ?_, fun q2 w2 _ h => ?_⟩
    · rw [putP_f, hfn]
      show Tr K cl F' H' (.ref p) (.ob c ns (ts.set n t')) _
      unfold Tr
      have out : ∀ a ∈ f1 ++ f3, a ∉ f2 := fun a ha z => by
        rcases List.mem_append.mp ha with y | y
        · exact nq'.2.2 a y a (by simp [z]) rfl
        · exact nq2.2.2 a z a y rfl
      have k5 := k4 F' H' v t' f2' ex (fun a ha => hH a (List.mem_cons_of_mem _ (by rcases List.mem_append.mp ha with y | y <;> simp [y])) (out a ha)) hT
      rw [hv] at k5
      exact ⟨p, C, dx, vs, _, rfl, w0, hp, wl, rfl, k5⟩
    · rcases List.mem_cons.mp ha with y | y
      · subst y; exact .inl ⟨by simp, pn⟩
      · rcases List.mem_append.mp y with y | y
        · exact .inl ⟨by simp [y], fun z => nq'.2.2 a y a (by simp [z]) rfl⟩
        · rcases List.mem_append.mp y with y | y
          · exact .inr y
          · exact .inl ⟨by simp [y], fun z => nq2.2.2 a z a y rfl⟩
    · have hs' : ∀ a ∈ f2', a ≠ p ∧ a ∉ f1 ∧ a ∉ f3 := fun a ha => ⟨fun z => pn (hs p (z ▸ ha) (by simp) ), fun z => nq'.2.2 a z a (by simp [hs a ha (by simp [z])]) rfl, fun z => nq2.2.2 a (hs a ha (by simp [z])) a z rfl⟩
      refine List.nodup_cons.mpr ⟨fun z => ?_, List.nodup_append.mpr ⟨nq'.1, List.nodup_append.mpr ⟨hn', nq2.2.1, fun a ha b hb z => (hs' a ha).2.2 (z ▸ hb)⟩, fun a ha b hb z => ?_⟩⟩
      · rcases List.mem_append.mp z with y | y
        · exact nd.1 (by simp [y])
        · rcases List.mem_append.mp y with y | y
          · exact (hs' p y).1 rfl
          · exact nd.1 (by simp [y])
      · rcases List.mem_append.mp hb with y | y
        · exact (hs' b y).2.1 (z ▸ ha)
        · exact nq'.2.2 a ha b (by simp [y]) z
    · cases q2 with
      | v => exact h
      | f cs2 g =>
        obtain ⟨a, c', C', dx', fs, e, z2, z3, z4, z5⟩ := h
        cases e
        rw [w1] at z4; cases z4
        exact ⟨p, c', _, _, _, rfl, z2, z3, hp, z5⟩
/-- a slot's place: what is there, and how it may be changed where it stands -/
theorem Sr.place {i : Nat} {q : Plc} {T t : DT} (S : Sr K cl F0 H0 F H σ ρ) (hi : ρ[i]? = some (.tr T)) (ht : atP q T = some t) : ∃ v w f2, σ[i]? = some (some v) ∧ PlV cl H v q w ∧ Tr K cl F H w t f2 ∧ f2.Nodup ∧ (∀ a ∈ f2, F a = none ∧ H0 a = none ∧ ¬ Out K cl F H σ ρ a) ∧
    (∀ (H' : Hp) (t' : DT) (f2' : List Addr), (∀ a, a ∉ f2 → H' a = H a) → Tr K cl F H' w t' f2' → f2'.Nodup → (∀ a ∈ f2', a ∈ f2 ∨ (F a = none ∧ H0 a = none ∧ Out K cl F H σ ρ a)) → Sr K cl F0 H0 F H' σ (ρ.set i (.tr (putP q t' T)))) := by
  obtain ⟨ω, h1, h2, h3⟩ := S.tr
  obtain ⟨v, q1, q2, q3, q4⟩ := h1 i _ hi
  obtain ⟨w, f2, k1, k2, k3, k4, k5⟩ := q2.place q3 ht
  refine ⟨v, w, f2, q1, k1, k2, k4, fun a ha => ⟨(q4 a (k3 a ha)).1, (q4 a (k3 a ha)).2, fun z => z.2 i T v _ hi q1 q2 (k3 a ha)⟩, fun H' t' f2' hH hT hn hs => ?_⟩
  obtain ⟨fp', m1, m2, m3, _⟩ := k5 F H' t' f2' (Ex.refl _) (fun a _ ha => hH a ha) hT
  refine S.trW hi q1 q2 (fun a ha => hH a fun z => ha (k3 a z)) m1 (m3 hn fun a ha hz => ?_) fun a ha => ?_
  · rcases hs a ha with z | z
    · exact z
    · exact absurd hz (z.2.2.2 i T v _ hi q1 q2)
  · rcases m2 a ha with z | z
    · exact .inl z.1
    · rcases hs a z with y | y
      · exact .inl (k3 a y)
      · exact .inr ⟨y.1, y.2.1, fun j o p e1 e2 => y.2.2.1 j o p e1 e2, fun j t1 v1 fq e1 e2 e3 => y.2.2.2 j t1 v1 fq e1 e2 e3⟩
end
section
variable {α : Type} {X : Cx} {cl : Str → Option Addr} {W : WX} {K : PySem.W.Frag} {F0 H0 F H F' H' : Hp} {σ : L2.St} {ρ : En} {mp : List (Nat × Addr)} {RP : RPt α} {Dn : Ends} {e o k : Expr} {te tk to : TE} {pos apos cpos pos' p : Pos} {es : List Expr} {t : TA} {i : Nat} {q : Plc} {f : Str} {cs : List Str}
end
end UP
namespace UP
open PySem L2 PyProof.Rows
section
variable {X : Cx}
end
section
variable {α : Type} {X : Cx} {cl : Str → Option Addr} {W : WX} {K : PySem.W.Frag} {F0 H0 F H F' H' : Hp} {σ : L2.St} {ρ : En} {mp : List (Nat × Addr)} {RP : RPt α} {Dn : Ends} {e o k : Expr} {te tk to : TE} {pos apos cpos pos' tpos p : Pos} {es : List Expr} {t : TA} {i : Nat} {q : Plc} {f : Str} {cs : List Str}
end
end UP
namespace UP
open PySem L2 PyProof.Rows
theorem PlV.fn {cl : Str → Option Addr} {H : Hp} {v w w' : V} {q : Plc} (h : PlV cl H v q w) (k : PlV cl H v q w') : w = w' := by
  cases q with
  | v => rw [show w = v from h, show w' = v from k]
  | f cs f =>
    obtain ⟨a, c, C, dx, fs, rfl, h2, h3, h4, h5⟩ := h
    obtain ⟨a', c', C', dx', fs', e, k2, k3, k4, k5⟩ := k
    cases e
    rw [h4] at k4; cases k4
    rw [h5] at k5; cases k5
    rfl
theorem sr_plSet {i : Nat} {q : Plc} {t T : DT} {ρ : En} (h : ρ[i]? = some (.tr T)) : plSet i q t ρ = ρ.set i (.tr (putP q t T)) := by
  unfold plSet; rw [h]
section
variable {α : Type} {X : Cx} {cl : Str → Option Addr} {W : WX} {K : PySem.W.Frag} {F0 H0 F H F' H' : Hp} {σ : L2.St} {ρ : En} {mp : List (Nat × Addr)} {RP : RPt α} {Dn : Ends} {e o k : Expr} {te tk to : TE} {pos apos cpos pos' tpos p : Pos} {es : List Expr} {t : TA} {i : Nat} {q : Plc} {f : Str} {cs : List Str} {kp : List (Nat × Plc)}
end
end UP
namespace UP
open PySem L2 PyProof.Rows
/-- arguments: frozen values, and trees at places of their own -/
structure ArgG (K : PySem.W.Frag) (cl : Str → Option Addr) (F H : Hp) (vs : List V) (sls : List Sl) (ω : Nat → List Addr) : Prop where
  len : vs.length = sls.length
  val : ∀ (i : Nat) (d : D), sls[i]? = some (.val d) → ∃ v, vs[i]? = some v ∧ Rp K cl F v d
  tr : ∀ (i : Nat) (t : DT), sls[i]? = some (.tr t) → ∃ v, vs[i]? = some v ∧ Tr K cl F H v t (ω i) ∧ (ω i).Nodup ∧ ∀ a ∈ ω i, F a = none
  dis : ∀ (i j : Nat) (t u : DT) (a : Addr), sls[i]? = some (.tr t) → sls[j]? = some (.tr u) → a ∈ ω i → a ∈ ω j → i = j
  own : ∀ (i : Nat) (o : DO), sls[i]? ≠ some (.own o)
/-- all places of the arguments' trees -/
noncomputable def fpsG (sls : List Sl) (ω : Nat → List Addr) : List Addr := (List.range sls.length).flatMap fun i => match sls[i]? with
  | some (Sl.tr _) => ω i
  | _ => []
theorem fpsG_mem {sls : List Sl} {ω : Nat → List Addr} {a : Addr} : a ∈ fpsG sls ω ↔ ∃ i t, sls[i]? = some (.tr t) ∧ a ∈ ω i := by
  unfold fpsG
  rw [List.mem_flatMap]
  constructor
  · rintro ⟨i, h1, h2⟩
    split at h2
    · exact ⟨i, _, by assumption, h2⟩
    · cases h2
  · rintro ⟨i, t, h1, h2⟩
    refine ⟨i, List.mem_range.mpr (List.getElem?_eq_some_iff.mp h1).1, ?_⟩
    rw [h1]; exact h2
/-- what the changed parameters hold at last -/
structure BackG (K : PySem.W.Frag) (cl : Str → Option Addr) (H0 F' H' : Hp) (vs : List V) (js : List Nat) (bs : List DT) (ω : Nat → List Addr) : Prop where
  len : bs.length = js.length
  tr : ∀ (k j : Nat) (t : DT), js[k]? = some j → bs[k]? = some t → ∃ v, vs[j]? = some v ∧ Tr K cl F' H' v t (ω j) ∧ (ω j).Nodup ∧ ∀ a ∈ ω j, F' a = none ∧ H0 a = none
  dis : ∀ (i j : Nat) (a : Addr), i ∈ js → j ∈ js → a ∈ ω i → a ∈ ω j → i = j
section
variable {K : PySem.W.Frag} {cl : Str → Option Addr} {F0 H0 F H F' H' : Hp} {σ : L2.St} {ρ : En} {js : List Nat} {vs : List V} {sls : List Sl} {ω : Nat → List Addr}
end
section
variable {P : Program} {w : World} {K : PySem.W.Frag} {mg : Str → Option Value} {base : Heap} {cl : Str → Option Addr}
end
end UP
namespace UP
open PySem L2 PyProof.Rows
inductive GA where
  | val (d : D) | mv (t : DT) | pl (i : Nat) (q : Plc)
noncomputable def posG : Nat → List GA → List Nat
  | _, [] => []
  | n, .pl _ _ :: r => n :: posG (n + 1) r
  | n, _ :: r => posG (n + 1) r
noncomputable def plsG : List GA → List (Nat × Plc)
  | [] => []
  | .pl i q :: r => (i, q) :: plsG r
  | _ :: r => plsG r
noncomputable def isRefT : DT → Bool
  | .fz _ => false
  | _ => true
noncomputable def resG : List GA → En → Option (List Sl)
  | [], _ => some []
  | .val d :: r, ρ => (resG r ρ).map (.val d :: ·)
  | .mv t :: r, ρ => (resG r ρ).map (.tr t :: ·)
  | .pl i q :: r, ρ => match plAt i q ρ with
    | .ok t => if isRefT t = true then (resG r ρ).map (.tr t :: ·) else none
    | _ => none
noncomputable def setG : List (Nat × Plc) → List DT → En → En
  | (i, q) :: ps, t :: ts, ρ => setG ps ts (plSet i q t ρ)
  | _, _, ρ => ρ
@[simp] theorem posG_nil (n : Nat) : posG n [] = [] := id rfl
@[simp] theorem posG_pl (n i : Nat) (q : Plc) (r : List GA) : posG n (.pl i q :: r) = n :: posG (n + 1) r := id rfl
@[simp] theorem posG_val (n : Nat) (d : D) (r : List GA) : posG n (.val d :: r) = posG (n + 1) r := id rfl
@[simp] theorem posG_mv (n : Nat) (t : DT) (r : List GA) : posG n (.mv t :: r) = posG (n + 1) r := id rfl
@[simp] theorem plsG_nil : plsG [] = [] := id rfl
@[simp] theorem plsG_pl (i : Nat) (q : Plc) (r : List GA) : plsG (.pl i q :: r) = (i, q) :: plsG r := id rfl
@[simp] theorem plsG_val (d : D) (r : List GA) : plsG (.val d :: r) = plsG r := id rfl
@[simp] theorem plsG_mv (t : DT) (r : List GA) : plsG (.mv t :: r) = plsG r := id rfl
@[simp] theorem isRefT_lst (ts : List DT) : isRefT (.lst ts) = true := id rfl
@[simp] theorem isRefT_ob (c : Str) (ns : List Str) (ts : List DT) : isRefT (.ob c ns ts) = true := id rfl
@[simp] theorem isRefT_dk (ks : List Key) (ts : List DT) : isRefT (.dk ks ts) = true := id rfl
@[simp] theorem resG_nil (ρ : En) : resG [] ρ = some [] := id rfl
@[simp] theorem resG_val (d : D) (r : List GA) (ρ : En) : resG (.val d :: r) ρ = (resG r ρ).map (.val d :: ·) := id rfl
@[simp] theorem resG_mv (t : DT) (r : List GA) (ρ : En) : resG (.mv t :: r) ρ = (resG r ρ).map (.tr t :: ·) := id rfl
@[simp] theorem resG_pl (i : Nat) (q : Plc) (r : List GA) (ρ : En) : resG (.pl i q :: r) ρ = match plAt i q ρ with
    | .ok t => if isRefT t = true then (resG r ρ).map (.tr t :: ·) else none
    | _ => none := id rfl
@[simp] theorem setG_cons (i : Nat) (q : Plc) (ps : List (Nat × Plc)) (t : DT) (ts : List DT) (ρ : En) : setG ((i, q) :: ps) (t :: ts) ρ = setG ps ts (plSet i q t ρ) := id rfl
@[simp] theorem setG_nil (ts : List DT) (ρ : En) : setG [] ts ρ = ρ := id rfl
theorem plSet_len (i : Nat) (q : Plc) (t : DT) (ρ : En) : (plSet i q t ρ).length = ρ.length := by
  unfold plSet; split <;> simp
theorem plSet_ne {i j : Nat} {q : Plc} {t : DT} {ρ : En} (h : i ≠ j) : (plSet i q t ρ)[j]? = ρ[j]? := by
  unfold plSet; split
  · rw [List.getElem?_set_ne h]
  · rfl
theorem setG_len : ∀ (ps : List (Nat × Plc)) (ts : List DT) (ρ : En), (setG ps ts ρ).length = ρ.length
  | [], ts, ρ => by cases ts <;> rfl
  | (i, q) :: ps, [], ρ => rfl
  | (i, q) :: ps, t :: ts, ρ => by rw [setG_cons, setG_len ps ts, plSet_len]
theorem setG_out : ∀ (ps : List (Nat × Plc)) (ts : List DT) (ρ : En) (j : Nat), j ∉ ps.map (·.1) → (setG ps ts ρ)[j]? = ρ[j]?
  | [], ts, ρ, j, _ => by cases ts <;> rfl
  | (i, q) :: ps, [], ρ, j, _ => rfl
  | (i, q) :: ps, t :: ts, ρ, j, h => by
    rw [setG_cons, setG_out ps ts _ j (fun z => h (by simp only [List.map_cons, List.mem_cons]; exact .inr z)), plSet_ne fun z => h (by simp [z])]
theorem setG_in : ∀ (ps : List (Nat × Plc)) (ts : List DT) (ρ : En) (k i : Nat) (q : Plc) (t T : DT), (ps.map (·.1)).Nodup → ps[k]? = some (i, q) → ts[k]? = some t → ρ[i]? = some (.tr T) → (setG ps ts ρ)[i]? = some (.tr (putP q t T))
  | [], ts, ρ, k, i, q, t, T, _, h, _, _ => by simp at h
  | p :: ps, [], ρ, k, i, q, t, T, _, _, h, _ => by simp at h
  | (i0, q0) :: ps, t0 :: ts, ρ, 0, i, q, t, T, hn, h1, h2, h3 => by
    cases h1; cases h2
    rw [List.map_cons, List.nodup_cons] at hn
    rw [setG_cons, setG_out ps ts _ i0 hn.1, sr_plSet h3, List.getElem?_set_self (List.getElem?_eq_some_iff.mp h3).1]
  | (i0, q0) :: ps, t0 :: ts, ρ, k + 1, i, q, t, T, hn, h1, h2, h3 => by
    rw [List.map_cons, List.nodup_cons] at hn
    have h1 : ps[k]? = some (i, q) := by simpa using h1
    have ne : i0 ≠ i := fun z => hn.1 (z ▸ List.mem_map.mpr ⟨(i, q), List.mem_of_getElem? h1, rfl⟩)
    rw [setG_cons]
    exact setG_in ps ts _ k i q t T hn.2 h1 (by simpa using h2) (by rw [plSet_ne ne]; exact h3)
theorem nodup_fst {β : Type} : ∀ {l : List (Nat × β)} {i : Nat} {x y : β}, (l.map (·.1)).Nodup → (i, x) ∈ l → (i, y) ∈ l → (i, x) = (i, y)
  | p :: r, i, x, y, hn, h1, h2 => by
    rw [List.map_cons, List.nodup_cons] at hn
    rcases List.mem_cons.mp h1 with e1 | e1
    · rcases List.mem_cons.mp h2 with e2 | e2
      · rw [e1, e2]
      · exact absurd (List.mem_map.mpr ⟨(i, y), e2, by rw [← e1]⟩) hn.1
    · rcases List.mem_cons.mp h2 with e2 | e2
      · exact absurd (List.mem_map.mpr ⟨(i, x), e1, by rw [← e2]⟩) hn.1
      · exact nodup_fst hn.2 e1 e2
theorem pls_mem : ∀ {gas : List GA} {k i : Nat} {q : Plc}, gas[k]? = some (.pl i q) → i ∈ (plsG gas).map (·.1)
  | .val d :: r, k, i, q, h => by
    cases k with
    | zero => cases h
    | succ k => rw [plsG_val]; exact pls_mem (k := k) (by simpa using h)
  | .mv d :: r, k, i, q, h => by
    cases k with
    | zero => cases h
    | succ k => rw [plsG_mv]; exact pls_mem (k := k) (by simpa using h)
  | .pl i0 q0 :: r, k, i, q, h => by
    rw [plsG_pl, List.map_cons]
    cases k with
    | zero => cases h; simp
    | succ k => exact List.mem_cons_of_mem _ (pls_mem (k := k) (by simpa using h))
theorem pl_once : ∀ {gas : List GA} (n : Nat) {k l i : Nat} {q q' : Plc}, ((plsG gas).map (·.1)).Nodup → gas[k]? = some (.pl i q) → gas[l]? = some (.pl i q') → k = l
  | .val d :: r, n, k, l, i, q, q', hn, h1, h2 => by
    cases k with
    | zero => cases h1
    | succ k => cases l with
      | zero => cases h2
      | succ l => exact congrArg (· + 1) (pl_once (gas := r) n (k := k) (l := l) hn (by simpa using h1) (by simpa using h2))
  | .mv d :: r, n, k, l, i, q, q', hn, h1, h2 => by
    cases k with
    | zero => cases h1
    | succ k => cases l with
      | zero => cases h2
      | succ l => exact congrArg (· + 1) (pl_once (gas := r) n (k := k) (l := l) hn (by simpa using h1) (by simpa using h2))
  | .pl i0 q0 :: r, n, k, l, i, q, q', hn, h1, h2 => by
    rw [plsG_pl, List.map_cons, List.nodup_cons] at hn
    cases k with
    | zero => cases l with
      | zero => rfl
      | succ l => cases h1; exact absurd (pls_mem (k := l) (by simpa using h2)) hn.1
    | succ k => cases l with
      | zero => cases h2; exact absurd (pls_mem (k := k) (by simpa using h1)) hn.1
      | succ l => exact congrArg (· + 1) (pl_once n (k := k) (l := l) hn.2 (by simpa using h1) (by simpa using h2))
/-- the positions of places -/
theorem pos_pls : ∀ (n : Nat) (gas : List GA), (posG n gas).length = (plsG gas).length ∧ ∀ (k j : Nat) (i : Nat) (q : Plc), (posG n gas)[k]? = some j → (plsG gas)[k]? = some (i, q) → n ≤ j ∧ gas[j - n]? = some (.pl i q)
  | n, [] => ⟨rfl, fun k j i q h => by simp at h⟩
  | n, .val d :: r => by
    obtain ⟨h1, h2⟩ := pos_pls (n + 1) r
    rw [posG_val, plsG_val]
    refine ⟨h1, fun k j i q e1 e2 => ?_⟩
    obtain ⟨q1, q2⟩ := h2 k j i q e1 e2
    refine ⟨by omega, ?_⟩
    rw [show j - n = (j - (n + 1)) + 1 from by omega]
    exact q2
  | n, .mv d :: r => by
    obtain ⟨h1, h2⟩ := pos_pls (n + 1) r
    rw [posG_mv, plsG_mv]
    refine ⟨h1, fun k j i q e1 e2 => ?_⟩
    obtain ⟨q1, q2⟩ := h2 k j i q e1 e2
    refine ⟨by omega, ?_⟩
    rw [show j - n = (j - (n + 1)) + 1 from by omega]
    exact q2
  | n, .pl i0 q0 :: r => by
    obtain ⟨h1, h2⟩ := pos_pls (n + 1) r
    rw [posG_pl, plsG_pl]
    refine ⟨by simp [h1], fun k j i q e1 e2 => ?_⟩
    cases k with
    | zero => cases e1; cases e2; exact ⟨Nat.le_refl _, by simp⟩
    | succ k =>
      obtain ⟨q1, q2⟩ := h2 k j i q (by simpa using e1) (by simpa using e2)
      refine ⟨by omega, ?_⟩
      rw [show j - n = (j - (n + 1)) + 1 from by omega]
      exact q2
theorem res_get : ∀ {gas : List GA} {ρ : En} {sls : List Sl}, resG gas ρ = some sls → sls.length = gas.length ∧ ∀ (k : Nat) (s : Sl), sls[k]? = some s → (∃ d, gas[k]? = some (.val d) ∧ s = .val d) ∨ (∃ t, gas[k]? = some (.mv t) ∧ s = .tr t) ∨ (∃ i q t, gas[k]? = some (.pl i q) ∧ plAt i q ρ = .ok t ∧ isRefT t = true ∧ s = .tr t)
  | [], ρ, sls, h => by cases h; exact ⟨rfl, fun k s e => by simp at e⟩
  | .val d :: r, ρ, sls, h => by
    rw [resG_val] at h
    cases e : resG r ρ with
    | none => rw [e] at h; cases h
    | some x =>
      rw [e] at h; cases h
      obtain ⟨h1, h2⟩ := res_get e
      refine ⟨by simp [h1], fun k s e => ?_⟩
      cases k with
      | zero => cases e; exact .inl ⟨d, rfl, rfl⟩
      | succ k => exact h2 k s (by simpa using e)
  | .mv t :: r, ρ, sls, h => by
    rw [resG_mv] at h
    cases e : resG r ρ with
    | none => rw [e] at h; cases h
    | some x =>
      rw [e] at h; cases h
      obtain ⟨h1, h2⟩ := res_get e
      refine ⟨by simp [h1], fun k s e => ?_⟩
      cases k with
      | zero => cases e; exact .inr (.inl ⟨t, rfl, rfl⟩)
      | succ k => exact h2 k s (by simpa using e)
  | .pl i q :: r, ρ, sls, h => by
    rw [resG_pl] at h
    rcases plAt_cases i q ρ with z | ⟨t, z⟩
    · rw [z] at h; cases h
    rw [z] at h
    have h : (if isRefT t = true then (resG r ρ).map (.tr t :: ·) else none) = some sls := h
    by_cases hr : isRefT t = true
    rotate_left
    · rw [if_neg hr] at h; cases h
    rw [if_pos hr] at h
    cases e : resG r ρ with
    | none => rw [e] at h; cases h
    | some x =>
      rw [e] at h; cases h
      obtain ⟨h1, h2⟩ := res_get e
      refine ⟨by simp [h1], fun k s e => ?_⟩
      cases k with
      | zero => cases e; exact .inr (.inr ⟨i, q, t, rfl, z, hr, rfl⟩)
      | succ k => exact h2 k s (by simpa using e)
theorem Tr.isRef {K : PySem.W.Frag} {cl : Str → Option Addr} {F H : Hp} {v : V} {t : DT} {fp : List Addr} (h : Tr K cl F H v t fp) (hr : isRefT t = true) : ∃ a, v = .ref a := by
  cases t with
  | fz _ => cases hr
  | lst _ => unfold Tr at h; obtain ⟨a, _, _, rfl, _⟩ := h; exact ⟨a, rfl⟩
  | tup _ => unfold Tr at h; obtain ⟨a, _, _, rfl, _⟩ := h; exact ⟨a, rfl⟩
  | dk _ _ => unfold Tr at h; obtain ⟨a, _, _, rfl, _⟩ := h; exact ⟨a, rfl⟩
  | ob _ _ _ => unfold Tr at h; obtain ⟨a, _, _, _, _, rfl, _⟩ := h; exact ⟨a, rfl⟩
section
variable {K : PySem.W.Frag} {cl : Str → Option Addr} {F0 H0 F H F' H' : Hp} {σ : L2.St} {ρ ρ' : En} {kp : List (Nat × Plc)}
/-- some slots' trees are changed at once -/
theorem Sr.callG {is : List Nat} {A : List Addr} {T' : Nat → DT} {fp' : Nat → List Addr} (S : Sr K cl F0 H0 F H σ ρ) (g : Grow F (dls H A) F' H')
    (hA : ∀ a ∈ A, F a = none ∧ H0 a = none ∧ (∀ (j : Nat) (o : DO) (p : Addr), ρ[j]? = some (.own o) → σ[j]? = some (some (.ref p)) → p ≠ a) ∧ ∀ (j : Nat) (t : DT) (v : V) (fq : List Addr), j ∉ is → ρ[j]? = some (.tr t) → σ[j]? = some (some v) → Tr K cl F H v t fq → a ∉ fq)
    (hT : ∀ i ∈ is, ∃ v, σ[i]? = some (some v) ∧ Tr K cl F' H' v (T' i) (fp' i) ∧ (fp' i).Nodup ∧ ∀ a ∈ fp' i, F' a = none ∧ H0 a = none ∧ (∀ (j : Nat) (o : DO) (p : Addr), ρ[j]? = some (.own o) → σ[j]? = some (some (.ref p)) → p ≠ a) ∧ ∀ (j : Nat) (t : DT) (v : V) (fq : List Addr), j ∉ is → ρ[j]? = some (.tr t) → σ[j]? = some (some v) → Tr K cl F H v t fq → a ∉ fq)
    (hd : ∀ (i j : Nat) (a : Addr), i ∈ is → j ∈ is → a ∈ fp' i → a ∈ fp' j → i = j) (hl : ρ'.length = ρ.length) (h1 : ∀ i ∈ is, ρ'[i]? = some (.tr (T' i))) (h2 : ∀ i, i ∉ is → ρ'[i]? = ρ[i]?) : Sr K cl F0 H0 F' H' σ ρ' := by
  have out : ∀ {a : Addr} {u : HO}, a ∉ A → H a = some u → dls H A a = some u := fun {a u} h e => by rw [dls_out h]; exact e
  have nin : ∀ {i : Nat} {s : Sl}, ρ'[i]? = some s → (∀ t, s ≠ .tr t) → i ∉ is := fun {i s} e h hi => by
    rw [h1 i hi] at e; cases e; exact h _ rfl
  obtain ⟨ω, t1, t2, t3⟩ := S.tr
  have keep : ∀ (j : Nat) (t : DT) (a : Addr), j ∉ is → ρ[j]? = some (.tr t) → a ∈ ω j → a ∉ A := fun j t a hj e ha hz => by
    obtain ⟨v, q1, q2, _⟩ := t1 j t e
    exact (hA a hz).2.2.2 j t v _ hj e q1 q2 ha
  classical
  refine ⟨⟨S.grow.f.trans g.f, g.s, fun a u e => ?_, fun a u e z => ?_⟩, by rw [S.len, hl], fun i d e => ?_, fun i o e => ?_, fun i j o o' p e1 e2 e3 e4 => ?_, fun i => if i ∈ is then fp' i else ω i, fun i t e => ?_, fun i j t t' a e1 e2 q1 q2 => ?_, fun i j t o p e1 e2 e3 hp => ?_⟩
  · have ha : a ∉ A := fun z => by rw [(hA a z).2.1] at e; cases e
    exact g.h a u (out ha (S.grow.h a u e))
  · have ha : a ∉ A := fun w => by rw [(hA a w).2.1] at e; cases e
    exact g.n a u (out ha (S.grow.h a u e)) (S.grow.n a u e z)
  · have hi := nin e (fun t h => nomatch h)
    rw [h2 i hi] at e
    obtain ⟨v, q1, q2⟩ := S.val i d e
    exact ⟨v, q1, q2.mono g.f⟩
  · have hi := nin e (fun t h => nomatch h)
    rw [h2 i hi] at e
    obtain ⟨p, ho, q1, q2, q3, q4, q5⟩ := S.own i o e
    have ha : p ∉ A := fun w => (hA p w).2.2.1 i o p e q1 rfl
    exact ⟨p, ho, q1, g.n p ho (out ha q3) q2, g.h p ho (out ha q3), q4.mono g.f, q5⟩
  · have hi := nin e1 (fun t h => nomatch h)
    have hj := nin e2 (fun t h => nomatch h)
    rw [h2 i hi] at e1
    rw [h2 j hj] at e2
    exact S.dis i j o o' p e1 e2 e3 e4
  · by_cases hi : i ∈ is
    · rw [h1 i hi] at e; cases e
      simp only [if_pos hi]
      obtain ⟨v, q1, q2, q3, q4⟩ := hT i hi
      exact ⟨v, q1, q2, q3, fun a ha => ⟨(q4 a ha).1, (q4 a ha).2.1⟩⟩
    · rw [h2 i hi] at e
      simp only [if_neg hi]
      obtain ⟨v, q1, q2, q3, q4⟩ := t1 i t e
      have st : ∀ a ∈ ω i, H' a = H a ∧ F' a = none := fun a ha => by
        obtain ⟨u, hu⟩ := q2.here a ha
        have na := keep i t a hi e ha
        exact ⟨by rw [hu]; exact g.h a u (out na hu), g.n a u (out na hu) (q4 a ha).1⟩
      exact ⟨v, q1, q2.mono g.f fun a ha => (st a ha).1, q3, fun a ha => ⟨(st a ha).2, (q4 a ha).2⟩⟩
  · by_cases hi : i ∈ is
    · simp only [if_pos hi] at q1
      by_cases hj : j ∈ is
      · simp only [if_pos hj] at q2
        exact hd i j a hi hj q1 q2
      · simp only [if_neg hj] at q2
        rw [h2 j hj] at e2
        obtain ⟨v, w1, w2, _⟩ := t1 j t' e2
        obtain ⟨_, _, _, _, z⟩ := hT i hi
        exact absurd q2 ((z a q1).2.2.2 j t' v _ hj e2 w1 w2)
    · simp only [if_neg hi] at q1
      rw [h2 i hi] at e1
      by_cases hj : j ∈ is
      · simp only [if_pos hj] at q2
        obtain ⟨v, w1, w2, _⟩ := t1 i t e1
        obtain ⟨_, _, _, _, z⟩ := hT j hj
        exact absurd q1 ((z a q2).2.2.2 i t v _ hi e1 w1 w2)
      · simp only [if_neg hj] at q2
        rw [h2 j hj] at e2
        exact t2 i j t t' a e1 e2 q1 q2
  · have hj := nin e2 (fun t h => nomatch h)
    rw [h2 j hj] at e2
    by_cases hi : i ∈ is
    · simp only [if_pos hi] at hp
      obtain ⟨_, _, _, _, z⟩ := hT i hi
      exact (z p hp).2.2.1 j o p e2 e3 rfl
    · simp only [if_neg hi] at hp
      rw [h2 i hi] at e1
      exact t3 i j t o p e1 e2 e3 hp
/-- how evaluated arguments stand -/
structure RG (K : PySem.W.Frag) (cl : Str → Option Addr) (Fi Hi : Hp) (σ : L2.St) (ρi : En) (H0 F H : Hp) (ρ : En) (vs : List V) (gas : List GA) (ω : Nat → List Addr) : Prop where
  len : vs.length = gas.length
  val : ∀ (k : Nat) (d : D), gas[k]? = some (.val d) → ∃ v, vs[k]? = some v ∧ Rp K cl F v d
  mv : ∀ (k : Nat) (t : DT), gas[k]? = some (.mv t) → ∃ v, vs[k]? = some v ∧ Tr K cl F H v t (ω k) ∧ (ω k).Nodup ∧ ∀ a ∈ ω k, F a = none ∧ H0 a = none ∧ Out K cl F H σ ρ a ∧ ¬ (∃ u, Hi a = some u ∧ Fi a = none ∧ Out K cl Fi Hi σ ρi a)
  pl : ∀ (k i : Nat) (q : Plc), gas[k]? = some (.pl i q) → ∃ v u, vs[k]? = some v ∧ σ[i]? = some (some u) ∧ PlV cl H u q v
  dis : ∀ (k l : Nat) (t t' : DT) (a : Addr), gas[k]? = some (.mv t) → gas[l]? = some (.mv t') → a ∈ ω k → a ∈ ω l → k = l
/-- a call's arguments are laid out; behind the call the slots are as told -/
theorem RG.call {Fi Hi : Hp} {ρi : En} {vs : List V} {gas : List GA} {ωm : Nat → List Addr} {sls : List Sl} (R : RG K cl Fi Hi σ ρi H0 F H ρ vs gas ωm) (S : Sr K cl F0 H0 F H σ ρ) (hres : resG gas ρ = some sls) (hnd : ((plsG gas).map (·.1)).Nodup) :
    ∃ ω, ArgG K cl F H vs sls ω ∧ (∀ j ∈ posG 0 gas, ∃ t a, sls[j]? = some (.tr t) ∧ vs[j]? = some (.ref a)) ∧
      ∀ (F' H' : Hp) (ω' : Nat → List Addr) (bs : List DT), Grow F (dls H (fpsG sls ω)) F' H' → BackG K cl (dls H (fpsG sls ω)) F' H' vs (posG 0 gas) bs ω' → Sr K cl F0 H0 F' H' σ (setG (plsG gas) bs ρ) ∧
        (∀ a u, H a = some u → F a = none → Out K cl F H σ ρ a → (∀ k t, gas[k]? = some (.mv t) → a ∉ ωm k) → H' a = some u ∧ F' a = none ∧ Out K cl F' H' σ (setG (plsG gas) bs ρ) a) ∧
        (∀ fp : List Addr, (∀ a ∈ fp, F' a = none ∧ dls H (fpsG sls ω) a = none ∧ ∀ j ∈ posG 0 gas, a ∉ ω' j) → ∀ a ∈ fp, F' a = none ∧ H0 a = none ∧ Out K cl F' H' σ (setG (plsG gas) bs ρ) a ∧ ¬ (∃ u, H a = some u ∧ Out K cl F H σ ρ a ∧ ∀ k t, gas[k]? = some (.mv t) → a ∉ ωm k)) ∧
        (∀ (j : Nat) (u : V) (q : Plc) (w : V), σ[j]? = some (some u) → PlV cl H u q w → (q = .v ∨ ∃ cs f, (j, .f cs f) ∈ plsG gas) → PlV cl H' u q w) := by
  obtain ⟨ωs, t1, t2, t3⟩ := S.tr
  obtain ⟨hsl, hget⟩ := res_get hres
  obtain ⟨hpl, hpk⟩ := pos_pls 0 gas
  -- each place: its tree, its value, its part of the slot's places
  have key : ∀ (k i : Nat) (q : Plc), gas[k]? = some (.pl i q) → ∃ f2 : List Addr, ∀ t, sls[k]? = some (.tr t) → ∃ T u v, ρ[i]? = some (.tr T) ∧ atP q T = some t ∧ isRefT t = true ∧ vs[k]? = some v ∧ σ[i]? = some (some u) ∧ PlV cl H u q v ∧ Tr K cl F H v t f2 ∧ f2.Nodup ∧ (∀ a ∈ f2, a ∈ ωs i) ∧
      ∀ (F' H' : Hp) (t' : DT) (f2' : List Addr), Ex F F' → (∀ a ∈ ωs i, a ∉ f2 → H' a = H a) → Tr K cl F' H' v t' f2' → ∃ fp', Tr K cl F' H' u (putP q t' T) fp' ∧ (∀ a ∈ fp', (a ∈ ωs i ∧ a ∉ f2) ∨ a ∈ f2') ∧ (f2'.Nodup → (∀ a ∈ f2', a ∈ ωs i → a ∈ f2) → fp'.Nodup) ∧ ∀ (q2 : Plc) (w2 : V), (q2 = .v ∨ ∃ cs f, q = .f cs f) → PlV cl H u q2 w2 → PlV cl H' u q2 w2 := fun k i q hk => by
    have hlt : k < sls.length := by rw [hsl]; exact (List.getElem?_eq_some_iff.mp hk).1
    have hs := List.getElem?_eq_getElem hlt
    rcases hget k _ hs with ⟨d, e, _⟩ | ⟨t, e, _⟩ | ⟨i', q', t, e, hat, hr, e2⟩
    · rw [hk] at e; cases e
    · rw [hk] at e; cases e
    rw [hk] at e; cases e
    obtain ⟨T, hT, ht⟩ := plAt_inv hat
    obtain ⟨u, q1, q2, q3, q4⟩ := t1 i T hT
    obtain ⟨w, f2, k1, k2, k3, k4, k5⟩ := q2.place q3 ht
    obtain ⟨v, u', m1, m2, m3⟩ := R.pl k i q hk
    rw [q1] at m2; cases m2
    have := k1.fn m3
    subst this
    refine ⟨f2, fun t' ht' => ?_⟩
    rw [hs, e2] at ht'; cases ht'
    exact ⟨T, u, w, hT, ht, hr, m1, q1, k1, k2, k4, k3, k5⟩
  classical
  have key' : ∀ k : Nat, ∃ f2 : List Addr, ∀ (i : Nat) (q : Plc) (t : DT), gas[k]? = some (.pl i q) → sls[k]? = some (.tr t) → ∃ T u v, ρ[i]? = some (.tr T) ∧ atP q T = some t ∧ isRefT t = true ∧ vs[k]? = some v ∧ σ[i]? = some (some u) ∧ PlV cl H u q v ∧ Tr K cl F H v t f2 ∧ f2.Nodup ∧ (∀ a ∈ f2, a ∈ ωs i) ∧
      ∀ (F' H' : Hp) (t' : DT) (f2' : List Addr), Ex F F' → (∀ a ∈ ωs i, a ∉ f2 → H' a = H a) → Tr K cl F' H' v t' f2' → ∃ fp', Tr K cl F' H' u (putP q t' T) fp' ∧ (∀ a ∈ fp', (a ∈ ωs i ∧ a ∉ f2) ∨ a ∈ f2') ∧ (f2'.Nodup → (∀ a ∈ f2', a ∈ ωs i → a ∈ f2) → fp'.Nodup) ∧ ∀ (q2 : Plc) (w2 : V), (q2 = .v ∨ ∃ cs f, q = .f cs f) → PlV cl H u q2 w2 → PlV cl H' u q2 w2 := fun k => by
    by_cases h : ∃ i q, gas[k]? = some (.pl i q)
    · obtain ⟨i, q, h⟩ := h
      obtain ⟨f2, hf⟩ := key k i q h
      refine ⟨f2, fun i' q' t h' ht => ?_⟩
      rw [h] at h'
      injection h' with h'
      injection h' with e1 e2
      subst e1
      subst e2
      exact hf t ht
    · exact ⟨[], fun i q t z => absurd ⟨i, q, z⟩ h⟩
  let ω : Nat → List Addr := fun k => if ∃ i q, gas[k]? = some (.pl i q) then (key' k).choose else ωm k
  have ω_mv : ∀ {k : Nat} {t : DT}, gas[k]? = some (.mv t) → ω k = ωm k := fun {k t} h => by
    have : ¬ ∃ i q, gas[k]? = some (.pl i q) := fun ⟨i, q, z⟩ => by rw [h] at z; cases z
    simp only [ω, if_neg this]
  have ω_pl : ∀ {k i : Nat} {q : Plc} {t : DT}, gas[k]? = some (.pl i q) → sls[k]? = some (.tr t) → ∃ T u v, ρ[i]? = some (.tr T) ∧ atP q T = some t ∧ isRefT t = true ∧ vs[k]? = some v ∧ σ[i]? = some (some u) ∧ PlV cl H u q v ∧ Tr K cl F H v t (ω k) ∧ (ω k).Nodup ∧ (∀ a ∈ ω k, a ∈ ωs i) ∧
      ∀ (F' H' : Hp) (t' : DT) (f2' : List Addr), Ex F F' → (∀ a ∈ ωs i, a ∉ ω k → H' a = H a) → Tr K cl F' H' v t' f2' → ∃ fp', Tr K cl F' H' u (putP q t' T) fp' ∧ (∀ a ∈ fp', (a ∈ ωs i ∧ a ∉ ω k) ∨ a ∈ f2') ∧ (f2'.Nodup → (∀ a ∈ f2', a ∈ ωs i → a ∈ ω k) → fp'.Nodup) ∧ ∀ (q2 : Plc) (w2 : V), (q2 = .v ∨ ∃ cs f, q = .f cs f) → PlV cl H u q2 w2 → PlV cl H' u q2 w2 := fun {k i q t} h ht => by
    have hex : ∃ i q, gas[k]? = some (.pl i q) := ⟨i, q, h⟩
    have := (key' k).choose_spec i q t h ht
    have e2 : ω k = (key' k).choose := by simp only [ω, if_pos hex]
    rw [e2]
    exact this
  have cases_tr : ∀ {k : Nat} {t : DT}, sls[k]? = some (.tr t) → (gas[k]? = some (.mv t)) ∨ ∃ i q, gas[k]? = some (.pl i q) := fun {k t} h => by
    rcases hget k _ h with ⟨d, _, z⟩ | ⟨t', e, z⟩ | ⟨i, q, t', e, _⟩
    · cases z
    · cases z; exact .inl e
    · exact .inr ⟨i, q, e⟩
  -- the list of places has each slot once
  have once : ∀ {k l i : Nat} {q q' : Plc}, gas[k]? = some (.pl i q) → gas[l]? = some (.pl i q') → k = l := fun {k l i q q'} h1 h2 => by
    exact pl_once 0 hnd h1 h2
  have G : ArgG K cl F H vs sls ω := by
    refine ⟨by rw [R.len, hsl], fun k d h => ?_, fun k t h => ?_, fun k l t t' a h1 h2 q1 q2 => ?_, fun k o h => ?_⟩
    · rcases hget k _ h with ⟨d', e, z⟩ | ⟨t', e, z⟩ | ⟨i, q, t', e, _, _, z⟩
      · cases z; exact R.val k d e
      · cases z
      · cases z
    · rcases cases_tr h with e | ⟨i, q, e⟩
      · obtain ⟨v, k1, k2, k3, k4⟩ := R.mv k t e
        rw [ω_mv e]
        exact ⟨v, k1, k2, k3, fun a ha => (k4 a ha).1⟩
      · obtain ⟨T, u, v, m1, m2, m3, m4, m5, m6, m7, m8, m9, _⟩ := ω_pl e h
        obtain ⟨_, _, _, _, q4⟩ := t1 i T m1
        exact ⟨v, m4, m7, m8, fun a ha => (q4 a (m9 a ha)).1⟩
    · rcases cases_tr h1 with e1 | ⟨i1, p1, e1⟩
      · rcases cases_tr h2 with e2 | ⟨i2, p2, e2⟩
        · rw [ω_mv e1] at q1
          rw [ω_mv e2] at q2
          exact R.dis k l t t' a e1 e2 q1 q2
        · rw [ω_mv e1] at q1
          obtain ⟨T, u, v, m1, m2, m3, m4, m5, m6, m7, m8, m9, _⟩ := ω_pl e2 h2
          obtain ⟨_, _, _, _, z⟩ := R.mv k t e1
          obtain ⟨u', w1, w2, _⟩ := t1 i2 T m1
          exact absurd (m9 a q2) ((z a q1).2.2.1.2 i2 T u' _ m1 w1 w2)
      · obtain ⟨T, u, v, m1, m2, m3, m4, m5, m6, m7, m8, m9, _⟩ := ω_pl e1 h1
        rcases cases_tr h2 with e2 | ⟨i2, p2, e2⟩
        · rw [ω_mv e2] at q2
          obtain ⟨_, _, _, _, z⟩ := R.mv l t' e2
          obtain ⟨u', w1, w2, _⟩ := t1 i1 T m1
          exact absurd (m9 a q1) ((z a q2).2.2.1.2 i1 T u' _ m1 w1 w2)
        · obtain ⟨T2, u2, v2, n1, n2, n3, n4, n5, n6, n7, n8, n9, _⟩ := ω_pl e2 h2
          have := t2 i1 i2 T T2 a m1 n1 (m9 a q1) (n9 a q2)
          subst this
          exact once e1 e2
    · rcases hget k _ h with ⟨d', e, z⟩ | ⟨t', e, z⟩ | ⟨i, q, t', e, _, _, z⟩ <;> cases z
  refine ⟨ω, G, fun j hj => ?_, fun F' H' ω' bs g B => ?_⟩
  · obtain ⟨m, hm, rfl⟩ := List.mem_iff_getElem.mp hj
    have hmp : m < (plsG gas).length := by rw [← hpl]; exact hm
    obtain ⟨_, e⟩ := hpk m _ _ _ (List.getElem?_eq_getElem hm) (List.getElem?_eq_getElem hmp)
    rw [Nat.sub_zero] at e
    have hlt := by have := (List.getElem?_eq_some_iff.mp e).1; rw [← hsl] at this; exact this
    rcases hget _ _ (List.getElem?_eq_getElem hlt) with ⟨d', z, _⟩ | ⟨t', z, _⟩ | ⟨i, q, t', z, _, hr, e2⟩
    · rw [e] at z; cases z
    · rw [e] at z; cases z
    have hs : sls[(posG 0 gas)[m]]? = some (.tr t') := by rw [List.getElem?_eq_getElem hlt, e2]
    obtain ⟨T, u, v, m1, m2, m3, m4, m5, m6, m7, _⟩ := ω_pl e hs
    obtain ⟨a, rfl⟩ := m7.isRef m3
    exact ⟨t', a, hs, m4⟩
  · -- places of arguments
    have A_cases : ∀ {a : Addr}, a ∈ fpsG sls ω → (∃ k t, gas[k]? = some (.mv t) ∧ a ∈ ωm k) ∨ ∃ k i q T, gas[k]? = some (.pl i q) ∧ ρ[i]? = some (.tr T) ∧ a ∈ ω k ∧ a ∈ ωs i := fun {a} ha => by
      obtain ⟨k, t, h1, h2⟩ := fpsG_mem.mp ha
      rcases cases_tr h1 with e | ⟨i, q, e⟩
      · rw [ω_mv e] at h2; exact .inl ⟨k, t, e, h2⟩
      · obtain ⟨T, u, v, m1, m2, m3, m4, m5, m6, m7, m8, m9, _⟩ := ω_pl e h1
        exact .inr ⟨k, i, q, T, e, m1, h2, m9 a h2⟩
    have notA : ∀ {k i : Nat} {q : Plc} {T : DT} {a : Addr}, gas[k]? = some (.pl i q) → ρ[i]? = some (.tr T) → a ∈ ωs i → a ∉ ω k → a ∉ fpsG sls ω := fun {k i q T a} e hT h1 h2 hz => by
      rcases A_cases hz with ⟨l, t, e2, h3⟩ | ⟨l, i2, q2, T2, e2, hT2, h3, h4⟩
      · obtain ⟨_, _, _, _, z⟩ := R.mv l t e2
        obtain ⟨u', w1, w2, _⟩ := t1 i T hT
        exact (z a h3).2.2.1.2 i T u' _ hT w1 w2 h1
      · have := t2 i i2 T T2 a hT hT2 h1 h4
        subst this
        have := once e e2
        subst this
        exact h2 h3
    have hA : ∀ a ∈ fpsG sls ω, F a = none ∧ H0 a = none ∧ (∀ (j : Nat) (o : DO) (p : Addr), ρ[j]? = some (.own o) → σ[j]? = some (some (.ref p)) → p ≠ a) ∧ ∀ (j : Nat) (t : DT) (v : V) (fq : List Addr), j ∉ (plsG gas).map (·.1) → ρ[j]? = some (.tr t) → σ[j]? = some (some v) → Tr K cl F H v t fq → a ∉ fq := fun a ha => by
      rcases A_cases ha with ⟨l, t, e2, h3⟩ | ⟨l, i2, q2, T2, e2, hT2, h3, h4⟩
      · obtain ⟨_, _, _, _, z⟩ := R.mv l t e2
        obtain ⟨z1, z2, z3, _⟩ := z a h3
        exact ⟨z1, z2, fun j o p => z3.1 j o p, fun j t v fq _ => z3.2 j t v fq⟩
      · obtain ⟨u', w1, w2, w3, w4⟩ := t1 i2 T2 hT2
        refine ⟨(w4 a h4).1, (w4 a h4).2, fun j o p e1 e3 z => t3 i2 j T2 o p hT2 e1 e3 (z ▸ h4), fun j t v fq hj e1 e3 hTr hm => ?_⟩
        obtain ⟨v', x1, x2, _⟩ := t1 j t e1
        rw [e3] at x1; cases x1
        rw [hTr.fn x2] at hm
        have := t2 i2 j T2 t a hT2 e1 h4 hm
        exact hj (this ▸ pls_mem e2)
    -- each changed slot
    have each : ∀ i, i ∈ (plsG gas).map (·.1) → ∃ T1 fp1, ∃ u j k q t0, (setG (plsG gas) bs ρ)[i]? = some (.tr T1) ∧ σ[i]? = some (some u) ∧ Tr K cl F' H' u T1 fp1 ∧ fp1.Nodup ∧ gas[j]? = some (.pl i q) ∧ j ∈ posG 0 gas ∧ ρ[i]? = some (.tr t0) ∧ (plsG gas)[k]? = some (i, q) ∧
        (∀ a ∈ fp1, (a ∈ ωs i ∧ a ∉ ω j ∧ ∃ w, H a = some w) ∨ a ∈ ω' j) ∧ (∀ a ∈ ω' j, F' a = none ∧ dls H (fpsG sls ω) a = none) ∧ ∀ (q2 : Plc) (w2 : V), (q2 = .v ∨ ∃ cs f, q = .f cs f) → PlV cl H u q2 w2 → PlV cl H' u q2 w2 := fun i hi => by
      obtain ⟨⟨i', q⟩, hm, rfl⟩ := List.mem_map.mp hi
      obtain ⟨k, hk, hk2⟩ := List.mem_iff_getElem.mp hm
      have hkp : (plsG gas)[k]? = some (i', q) := by rw [List.getElem?_eq_getElem hk, hk2]
      have hkj : k < (posG 0 gas).length := by rw [hpl]; exact hk
      have hj := List.getElem?_eq_getElem hkj
      obtain ⟨_, e⟩ := hpk k _ _ _ hj hkp
      rw [Nat.sub_zero] at e
      have hkb : k < bs.length := by rw [B.len]; exact hkj
      obtain ⟨v1, b1, b2, b3, b4⟩ := B.tr k _ _ hj (List.getElem?_eq_getElem hkb)
      have hlt : (posG 0 gas)[k] < sls.length := by rw [hsl]; exact (List.getElem?_eq_some_iff.mp e).1
      obtain ⟨t, hs⟩ : ∃ t, sls[(posG 0 gas)[k]]? = some (.tr t) := by
        rcases hget _ _ (List.getElem?_eq_getElem hlt) with ⟨d', z, _⟩ | ⟨t', z, _⟩ | ⟨i2, q2, t', z, _, hr, e2⟩
        · rw [e] at z; cases z
        · rw [e] at z; cases z
        · exact ⟨t', by rw [List.getElem?_eq_getElem hlt, e2]⟩
      obtain ⟨T, u, v, m1, m2, m3, m4, m5, m6, m7, m8, m9, m10⟩ := ω_pl e hs
      rw [m4] at b1; cases b1
      obtain ⟨_, x1, x2, x3, x4⟩ := t1 i' T m1
      have here : ∀ a ∈ ωs i', ∃ w, H a = some w := fun a ha => x2.here a ha
      obtain ⟨fp1, n1, n2, n3, n4⟩ := m10 F' H' _ _ g.f (fun a ha hna => by
        obtain ⟨w, hw⟩ := here a ha
        rw [hw]
        exact g.h a w (by rw [dls_out (notA e m1 ha hna)]; exact hw)) b2
      refine ⟨putP q bs[k] T, fp1, u, _, k, q, T, setG_in _ _ _ k i' q _ T hnd hkp (List.getElem?_eq_getElem hkb) m1, m5, n1, n3 b3 (fun a ha hz => ?_), e, List.getElem_mem _, m1, hkp, fun a ha => ?_, b4, n4⟩
      · obtain ⟨w, hw⟩ := here a hz
        by_cases hna : a ∈ ω (posG 0 gas)[k]
        · exact hna
        · have := (b4 a ha).2
          rw [dls_out (notA e m1 hz hna), hw] at this
          cases this
      · rcases n2 a ha with z | z
        · exact .inl ⟨z.1, z.2, here a z.1⟩
        · exact .inr z
    have dnone : ∀ {a : Addr}, dls H (fpsG sls ω) a = none → a ∈ fpsG sls ω ∨ H a = none := fun {a} h => by
      by_cases ha : a ∈ fpsG sls ω
      · exact .inl ha
      · rw [dls_out ha] at h; exact .inr h
    let TT : Nat → DT := fun i => if h : i ∈ (plsG gas).map (·.1) then (each i h).choose else .fz .non
    let FF : Nat → List Addr := fun i => if h : i ∈ (plsG gas).map (·.1) then (each i h).choose_spec.choose else []
    have spec : ∀ i, i ∈ (plsG gas).map (·.1) → ∃ u j k q t0, (setG (plsG gas) bs ρ)[i]? = some (.tr (TT i)) ∧ σ[i]? = some (some u) ∧ Tr K cl F' H' u (TT i) (FF i) ∧ (FF i).Nodup ∧ gas[j]? = some (.pl i q) ∧ j ∈ posG 0 gas ∧ ρ[i]? = some (.tr t0) ∧ (plsG gas)[k]? = some (i, q) ∧
        (∀ a ∈ FF i, (a ∈ ωs i ∧ a ∉ ω j ∧ ∃ w, H a = some w) ∨ a ∈ ω' j) ∧ (∀ a ∈ ω' j, F' a = none ∧ dls H (fpsG sls ω) a = none) ∧ ∀ (q2 : Plc) (w2 : V), (q2 = .v ∨ ∃ cs f, q = .f cs f) → PlV cl H u q2 w2 → PlV cl H' u q2 w2 := fun i h => by
      have := (each i h).choose_spec.choose_spec
      simp only [TT, FF, dif_pos h]
      exact this
    -- what is not in A and of a slot that changes
    have old_ok : ∀ {i j : Nat} {q : Plc} {t0 : DT} {a : Addr} {w : HO}, gas[j]? = some (.pl i q) → ρ[i]? = some (.tr t0) → a ∈ ωs i → a ∉ ω j → H a = some w → dls H (fpsG sls ω) a = some w ∧ F a = none ∧ H0 a = none := fun {i j q t0 a w} e1 e2 h1 h2 h3 => by
      obtain ⟨_, x1, x2, x3, x4⟩ := t1 i _ e2
      exact ⟨by rw [dls_out (notA e1 e2 h1 h2)]; exact h3, (x4 a h1).1, (x4 a h1).2⟩
    have S' : Sr K cl F0 H0 F' H' σ (setG (plsG gas) bs ρ) := by
      refine S.callG (is := (plsG gas).map (·.1)) (T' := TT) (fp' := FF) g hA (fun i hi => ?_) (fun i1 i2 a h1 h2 q1 q2 => ?_) (setG_len _ _ _) (fun i hi => ?_) fun i hi => setG_out _ _ _ i hi
      · obtain ⟨u, j, k, q, t0, z1, z2, z3, z4, z5, z6, z7, z8, z9, z10, z11⟩ := spec i hi
        refine ⟨u, z2, z3, z4, fun a ha => ?_⟩
        rcases z9 a ha with ⟨y1, y2, w, y3⟩ | y
        · obtain ⟨x1, x2, x3⟩ := old_ok z5 z7 y1 y2 y3
          refine ⟨g.n a w x1 x2, x3, fun j' o p e1 e2 z => t3 i j' t0 o p z7 e1 e2 (z ▸ y1), fun j' t v fq hj e1 e2 hTr hm => ?_⟩
          obtain ⟨v', v1, v2, _⟩ := t1 j' t e1
          rw [e2] at v1; cases v1
          rw [hTr.fn v2] at hm
          exact hj ((t2 i j' t0 t a z7 e1 y1 hm) ▸ hi)
        · obtain ⟨x1, x2⟩ := z10 a y
          rcases dnone x2 with x | x
          · obtain ⟨_, y2, y3, y4⟩ := hA a x
            exact ⟨x1, y2, y3, y4⟩
          · exact ⟨x1, S.grow.old a x, fun j' o p e1 e2 z => S.own_new x j' o e1 (z ▸ e2), fun j' t v fq _ e1 e2 hTr hm => by
              obtain ⟨w, hw⟩ := hTr.here a hm
              rw [x] at hw; cases hw⟩
      · obtain ⟨u, j, k, q, t0, z1, z2, z3, z4, z5, z6, z7, z8, z9, z10, z11⟩ := spec i1 h1
        obtain ⟨u2, j2, k2, qq, t2', y1, y2, y3, y4, y5, y6, y7, y8, y9, y10, y11⟩ := spec i2 h2
        rcases z9 a q1 with ⟨x1, x2, w, x3⟩ | x
        · rcases y9 a q2 with ⟨x4, _⟩ | x4
          · exact t2 i1 i2 t0 t2' a z7 y7 x1 x4
          · obtain ⟨c1, _⟩ := old_ok z5 z7 x1 x2 x3
            rw [(y10 a x4).2] at c1; cases c1
        · rcases y9 a q2 with ⟨x4, x5, w, x6⟩ | x4
          · obtain ⟨c1, _⟩ := old_ok y5 y7 x4 x5 x6
            rw [(z10 a x).2] at c1; cases c1
          · have := B.dis j j2 a z6 y6 x x4
            subst this
            rw [z5] at y5; cases y5; rfl
      · obtain ⟨u, j, k, q, t0, z1, _⟩ := spec i hi
        exact z1
    have outs : ∀ a, (∀ (j : Nat) (o : DO) (p : Addr), ρ[j]? = some (.own o) → σ[j]? = some (some (.ref p)) → p ≠ a) → (∀ (j : Nat) (t : DT) (v : V) (fq : List Addr), j ∉ (plsG gas).map (·.1) → ρ[j]? = some (.tr t) → σ[j]? = some (some v) → Tr K cl F' H' v t fq → a ∉ fq) → (∀ i, i ∈ (plsG gas).map (·.1) → a ∉ FF i) → Out K cl F' H' σ (setG (plsG gas) bs ρ) a := fun a h1 h2 h3 => by
      refine ⟨fun j o p e1 e2 => ?_, fun j t v fq e1 e2 hTr hm => ?_⟩
      · by_cases hj : j ∈ (plsG gas).map (·.1)
        · obtain ⟨u, _, _, _, _, z1, _⟩ := spec j hj
          rw [z1] at e1; cases e1
        · rw [setG_out _ _ _ j hj] at e1
          exact h1 j o p e1 e2
      · by_cases hj : j ∈ (plsG gas).map (·.1)
        · obtain ⟨u, _, _, _, _, z1, z2, z3, _⟩ := spec j hj
          rw [z1] at e1; cases e1
          rw [z2] at e2; cases e2
          rw [hTr.fn z3] at hm
          exact h3 j hj hm
        · rw [setG_out _ _ _ j hj] at e1
          exact h2 j t v fq hj e1 e2 hTr hm
    have stay : ∀ (j : Nat) (t : DT) (v : V) (fq : List Addr), j ∉ (plsG gas).map (·.1) → ρ[j]? = some (.tr t) → σ[j]? = some (some v) → Tr K cl F' H' v t fq → fq = ωs j ∧ Tr K cl F H v t (ωs j) := fun j t v fq hj e1 e2 hTr => by
      obtain ⟨v', v1, v2, v3, v4⟩ := t1 j t e1
      rw [e2] at v1; cases v1
      refine ⟨hTr.fn (v2.mono g.f fun a ha => ?_), v2⟩
      obtain ⟨w, hw⟩ := v2.here a ha
      rw [hw]
      exact g.h a w (by rw [dls_out fun z => (hA a z).2.2.2 j t v _ hj e1 e2 v2 ha]; exact hw)
    have notA2 : ∀ a, Out K cl F H σ ρ a → (∀ k t, gas[k]? = some (.mv t) → a ∉ ωm k) → a ∉ fpsG sls ω := fun a h3 h4 z => by
      rcases A_cases z with ⟨l, t, e2, z3⟩ | ⟨l, i2, q2, T2, e2, hT2, z3, z4⟩
      · exact h4 l t e2 z3
      · obtain ⟨u', w1, w2, _⟩ := t1 i2 T2 hT2
        exact h3.2 i2 T2 u' _ hT2 w1 w2 z4
    refine ⟨S', fun a u h1 h2 h3 h4 => ?_, fun fp hfp a ha => ?_, fun j u q w e1 e2 hq => ?_⟩
    · have na := notA2 a h3 h4
      have hd : dls H (fpsG sls ω) a = some u := by rw [dls_out na]; exact h1
      refine ⟨g.h a u hd, g.n a u hd h2, outs a h3.1 (fun j t v fq hj e1 e2 hTr hm => ?_) fun i hi hm => ?_⟩
      · obtain ⟨s1, s2⟩ := stay j t v fq hj e1 e2 hTr
        rw [s1] at hm
        exact h3.2 j t v _ e1 e2 s2 hm
      · obtain ⟨u1, j, k, q, t0, z1, z2, z3, z4, z5, z6, z7, z8, z9, z10, z11⟩ := spec i hi
        rcases z9 a hm with ⟨y1, _⟩ | y
        · obtain ⟨u', w1, w2, _⟩ := t1 i t0 z7
          exact h3.2 i t0 u' _ z7 w1 w2 y1
        · rw [(z10 a y).2] at hd; cases hd
    · obtain ⟨f1, f2, f3⟩ := hfp a ha
      have ho : H0 a = none ∧ (∀ (j : Nat) (o : DO) (p : Addr), ρ[j]? = some (.own o) → σ[j]? = some (some (.ref p)) → p ≠ a) ∧ ∀ (j : Nat) (t : DT) (v : V) (fq : List Addr), j ∉ (plsG gas).map (·.1) → ρ[j]? = some (.tr t) → σ[j]? = some (some v) → Tr K cl F H v t fq → a ∉ fq := by
        rcases dnone f2 with x | x
        · obtain ⟨_, y2, y3, y4⟩ := hA a x
          exact ⟨y2, y3, y4⟩
        · exact ⟨S.grow.old a x, fun j' o p e1 e2 z => S.own_new x j' o e1 (z ▸ e2), fun j' t v fq _ e1 e2 hTr hm => by
            obtain ⟨w, hw⟩ := hTr.here a hm
            rw [x] at hw; cases hw⟩
      refine ⟨f1, ho.1, outs a ho.2.1 (fun j t v fq hj e1 e2 hTr hm => ?_) (fun i hi hm => ?_), fun ⟨u, y1, y2, y3⟩ => by rw [dls_out (notA2 a y2 y3), y1] at f2; cases f2⟩
      · obtain ⟨s1, s2⟩ := stay j t v fq hj e1 e2 hTr
        rw [s1] at hm
        exact ho.2.2 j t v _ hj e1 e2 s2 hm
      · obtain ⟨u1, j, k, q, t0, z1, z2, z3, z4, z5, z6, z7, z8, z9, z10, z11⟩ := spec i hi
        rcases z9 a hm with ⟨y1, y2, w, y3⟩ | y
        · obtain ⟨c1, _⟩ := old_ok z5 z7 y1 y2 y3
          rw [f2] at c1; cases c1
        · exact f3 j z6 y
    · rcases hq with rfl | ⟨cs, f, hm⟩
      · exact e2
      · have hi : j ∈ (plsG gas).map (·.1) := List.mem_map.mpr ⟨(j, .f cs f), hm, rfl⟩
        obtain ⟨u1, j', k, q', t0, z1, z2, z3, z4, z5, z6, z7, z8, z9, z10, z11⟩ := spec j hi
        rw [e1] at z2; cases z2
        refine z11 q w (.inr ?_) e2
        have e3 := List.mem_of_getElem? z8
        have : (j, q') = (j, Plc.f cs f) := nodup_fst hnd e3 hm
        injection this with _ this
        exact ⟨cs, f, this⟩
end
end UP
namespace UP
open PySem L2 PyProof.Rows
section
variable {K : PySem.W.Frag} {cl : Str → Option Addr} {Fi Hi F0 H0 F H F1 H1 F2 H2 : Hp} {σ : L2.St} {ρi ρ ρ1 ρ2 : En} {kp : List (Nat × Plc)} {vs : List V} {gas : List GA} {ω : Nat → List Addr} {v : V}
theorem RG.nil : RG K cl Fi Hi σ ρi H0 F H ρ [] [] (fun _ => []) := ⟨rfl, fun k d e => by simp at e, fun k d e => by simp at e, fun k i q e => by simp at e, fun k l t t' a e => by simp at e⟩
end
section
variable {X : Cx} {cl : Str → Option Addr} {W : WX} {kp : List (Nat × Plc)} {e o : Expr} {es : List Expr} {te to : TE} {t : TA} {pos p apos : Pos} {x : Str} {ps : List Str} {k n i : Nat} {js : List Nat} {q : Plc}
end
end UP
namespace UP
open PySem L2 PyProof.Rows
section
variable {X : Cx} {cl : Str → Option Addr} {W : WX} {kp : List (Nat × Plc)} {K : PySem.W.Frag} {F0 H0 F H F1 H1 : Hp} {σ : L2.St} {ρ ρ1 : En} {e e1 e2 o a b : Expr} {es : List Expr} {te to ta tb : TE} {tt tu : TT} {t : TA} {pos p apos cpos : Pos} {x : Str} {ps : List Str} {k n i : Nat}
noncomputable def z1 {α β : Type} (f : α → R β) (ma : En → RS En α) : En → RS En β := fun ρ => (ma ρ).bind fun d ρ1 => RS.of ρ1 (f d)
noncomputable def z2 {α β γ : Type} (f : α → β → R γ) (ma : En → RS En α) (mb : En → RS En β) : En → RS En γ := fun ρ => (ma ρ).bind fun d ρ1 => (mb ρ1).bind fun d2 ρ2 => RS.of ρ2 (f d d2)
@[simp] theorem z1_ap {α β : Type} (f : α → R β) (ma : En → RS En α) (ρ : En) : z1 f ma ρ = (ma ρ).bind fun d ρ1 => RS.of ρ1 (f d) := id rfl
@[simp] theorem z2_ap {α β γ : Type} (f : α → β → R γ) (ma : En → RS En α) (mb : En → RS En β) (ρ : En) : z2 f ma mb ρ = (ma ρ).bind fun d ρ1 => (mb ρ1).bind fun d2 ρ2 => RS.of ρ2 (f d d2) := id rfl
end
end UP
namespace UP
open PySem L2 PyProof.Rows
section
variable {X : Cx} {cl : Str → Option Addr} {W : WX} {kp : List (Nat × Plc)} {K : PySem.W.Frag} {F0 H0 F H F1 H1 : Hp} {σ : L2.St} {ρ ρ1 : En} {e e1 e2 o a b : Expr} {es : List Expr} {te to ta tb : TE} {tt tu : TT} {t : TA} {pos p apos cpos : Pos} {x : Str} {ps : List Str} {k n i : Nat} {cs : List Str}
end
end UP
namespace UP
open PySem L2 PyProof.Rows
section
variable {α : Type} {X : Cx} {cl : Str → Option Addr} {W : WX} {kp : List (Nat × Plc)} {K : PySem.W.Frag} {F0 H0 F H F1 H1 : Hp} {σ : L2.St} {ρ ρ1 : En} {e e1 e2 o a b tg iter : Expr} {es : List Expr} {te to ta tb : TE} {tt tu : TT} {t : TA} {pos p tpos apos cpos : Pos} {x : Str} {ps : List Str} {k n i : Nat} {mp : List (Nat × Addr)} {RP : RPt α} {Dn : Ends}
end
end UP
namespace UP
open PySem L2 PyProof.Rows
section
variable {α : Type} {X : Cx} {cl : Str → Option Addr} {W : WX} {kp : List (Nat × Plc)} {K : PySem.W.Frag} {F0 H0 F H F1 H1 : Hp} {σ : L2.St} {ρ ρ1 : En} {e e1 e2 o a b c tg iter : Expr} {es : List Expr} {te to ta tb : TE} {tt tu : TT} {t u : TS} {pos pos' p tpos apos cpos : Pos} {x : Str} {ps : List Str} {k n i : Nat} {mp : List (Nat × Addr)} {RP : RPt α} {Dn : Ends} {m nn : En → Fl α}
end
end UP
namespace UP
open PySem L2 PyProof.Rows
section
variable {P : Program} {w : World} {K : PySem.W.Frag} {mg : Str → Option Value} {base : Heap} {cl : Str → Option Addr}
end
section
variable {α : Type} {X : Cx} {cl : Str → Option Addr} {W : WX} {kp : List (Nat × Plc)} {K : PySem.W.Frag} {F0 H0 F H F' H' : Hp} {σ : L2.St} {ρ : En} {mp : List (Nat × Addr)} {RP : RPt α} {Dn : Ends} {e o : Expr} {te to : TE} {pos apos cpos pos' p : Pos} {es : List Expr} {t : TA} {m f x c : Str} {k n : Nat} {cs : List Str}
end
end UP
namespace UP
open PySem L2 PyProof.Rows
section
variable {α : Type} {X : Cx} {cl : Str → Option Addr} {W : WX} {kp : List (Nat × Plc)} {K : PySem.W.Frag} {F0 H0 F H F' H' : Hp} {σ : L2.St} {ρ : En} {mp : List (Nat × Addr)} {RP : RPt α} {Dn : Ends} {e o : Expr} {te to : TE} {pos apos cpos pos' p tpos : Pos} {es : List Expr} {t : TA} {m f x c : Str} {k n i : Nat} {cs : List Str} {q : Plc}
end
end UP
namespace UP
open PySem L2 PyProof.Rows
section
variable {α : Type} {X : Cx} {cl : Str → Option Addr} {W : WX} {kp : List (Nat × Plc)} {K : PySem.W.Frag} {F0 H0 F H F1 H1 : Hp} {σ : L2.St} {ρ ρ1 : En} {e e1 e2 o a b c tg iter : Expr} {es : List Expr} {te to ta tb t u : TE} {tt tu : TT} {pos pos' p tpos apos cpos : Pos} {x : Str} {ps : List Str} {k n i : Nat} {mp : List (Nat × Addr)} {RP : RPt α} {Dn : Ends}
end
end UP
namespace UP
open PySem L2 PyProof.Rows
section
variable {X : Cx} {cl : Str → Option Addr} {W : WX} {kp : List (Nat × Plc)} {K : PySem.W.Frag} {F0 H0 F H F1 H1 : Hp} {σ : L2.St} {ρ ρ1 : En} {e o : Expr} {es : List Expr} {te to : TE} {t : TA} {pos p apos cpos : Pos} {x : Str} {ps : List Str} {k n i : Nat} {cs : List Str}
end
end UP
namespace UP
open PySem L2 PyProof.Rows
section
variable {X : Cx} {cl : Str → Option Addr} {W : WX} {mp : List (Nat × Addr)} {e : Expr} {te : TE} {pos : Pos}
end
end UP
namespace UP
open PySem L2 PyProof.Rows
section
variable {X : Cx} {cl : Str → Option Addr} {W : WX} {kp : List (Nat × Plc)} {K : PySem.W.Frag} {a b : Expr} {ta tb : TE} {pos : Pos}
end
end UP
namespace UP
open PySem L2 PyProof.Rows
section
variable {X : Cx} {cl : Str → Option Addr} {W : WX} {kp : List (Nat × Plc)} {K : PySem.W.Frag} {a b : Expr} {ta tb : TE} {pos : Pos}
end
end UP
namespace Hk
open PySem PySem.Spec PyProof.Rows L2
noncomputable def fc (o : Obj) : List Addr := match o.data with
  | .func fd => He.refV fd.code ++ He.refV fd.defaults
  | .cls cd => [cd.ns]
  | .dict es _ => es.toList.flatMap fun e => He.refV e.val
  | _ => []
noncomputable def nx (g : Addr → Option Obj) (as : List Addr) : List Addr := as.flatMap fun a => match g a with
  | some o => fc o
  | none => []
noncomputable def lay (g : Addr → Option Obj) (G D M : List Addr) : PySem.W.Frag := He.frG g (mainGlobals :: cStatics :: (G ++ nx g G ++ M ++ nx g M))
noncomputable def part (xs cs : List Str) (g : Addr → Option Obj) : PySem.W.Frag :=
  lay g (xs.map fun x => He.ga (He.frG g [mainGlobals]) x) [] (nx g (nx g (cs.map fun x => He.ga (He.frG g [mainGlobals]) x)))
noncomputable def isAt (x : Option (Option Value)) (a : Addr) : Bool := match x with
  | some (some (.ref b)) => Nat.beq b a
  | _ => false
theorem isAt_ok {x : Option (Option Value)} {a : Addr} (h : isAt x a = true) : x = some (some (.ref a)) := by
  unfold isAt at h
  split at h
  · rename_i b
    rw [Nat.eq_of_beq_eq_true h]
  · cases h
noncomputable def intAt (x : Option (Option Value)) : Option Int := match x with
  | some (some (.int i _)) => some i
  | _ => none
theorem intAt_ok {x : Option (Option Value)} {i : Int} (h : intAt x = some i) : ∃ t, x = some (some (.int i t)) := by
  unfold intAt at h
  split at h
  · rename_i j t; exact ⟨t, by rw [Option.some.inj h]⟩
  · cases h
noncomputable def strAt (x : Option (Option Value)) : Option Str := match x with
  | some (some (.str i _)) => some i
  | _ => none
theorem strAt_ok {x : Option (Option Value)} {i : Str} (h : strAt x = some i) : ∃ t, x = some (some (.str i t)) := by
  unfold strAt at h
  split at h
  · rename_i j t; exact ⟨t, by rw [Option.some.inj h]⟩
  · cases h
/-- a class of ours under an exception, with an __init__ of its own -/
noncomputable def xB (K : PySem.W.Frag) (C : Addr) : Bool := match K.lookup C with
  | some ⟨.type k, _, .cls cd, sl⟩ => (match cd.mro, sl.toList with
    | .ref C' :: bm, [_, _, _, _, some (.builtin n), _] => Nat.beq C' C && (decide (k = "type") && (decide (n = "ValueError.__new__") && (cd.hasDict && (!cd.hasDel && PySem.HandSPX.refsVE bm))))
    | _, _ => false)
  | _ => false
noncomputable def XOk (K : PySem.W.Frag) (C : Addr) : Prop := ∃ (nm q : Str) (N : Addr) (bs bm sub : List Value) (sn : List Str) (ab : Bool) (col : Option Bool) (dd : Option Addr) (k0 k1 k2 k3 k5 : Option Value),
  K.lookup C = some (excClassObj nm q C N bs bm true sn sub ab col dd k0 k1 k2 k3 k5 "ValueError.__new__") ∧ PySem.HandSPX.refsVE bm = true
theorem xB_ok {K : PySem.W.Frag} {C : Addr} (h : xB K C = true) : XOk K C := by
  unfold xB at h
  split at h
  · rename_i k dd cd sl ho
    split at h
    · rename_i C' bm k0 k1 k2 k3 n k5 hm hs
      simp only [Bool.and_eq_true, decide_eq_true_eq, Bool.not_eq_true'] at h
      obtain ⟨h1, rfl, rfl, h4, h5, h6⟩ := h
      have e1 := Nat.eq_of_beq_eq_true h1
      subst e1
      obtain ⟨nm, bs, mro, ns, qn, hd, sn, sub, ab, col, del⟩ := cd
      dsimp only at hm h4 h5
      subst hm h4 h5
      have es : sl = #[k0, k1, k2, k3, some (.builtin "ValueError.__new__"), k5] := by
        obtain ⟨l⟩ := sl
        dsimp only at hs
        rw [hs]
      subst es
      exact ⟨nm, qn, ns, bs, bm, sub, sn, ab, col, dd, k0, k1, k2, k3, k5, ho, h6⟩
    · cases h
  · cases h
inductive Fq where
  | v (f : PySem.W.Frag → Option (Option Value)) (y : Option (Option Value))
  | r (f : PySem.W.Frag → Option (Option Value)) (a : PySem.W.Frag → Addr)
  | i (f : PySem.W.Frag → Option (Option Value)) (y : Int)
  | s (f : PySem.W.Frag → Option (Option Value)) (y : Str)
  | o (f : PySem.W.Frag → Option Bool) (y : Bool)
  | b (f : PySem.W.Frag → Bool)
  | t (f : PySem.W.Frag → Option Value) (y : Value)
  | c (f : PySem.W.Frag → Option PySem.W.CFound) (y : PySem.W.CFound)
  | x (a : PySem.W.Frag → Addr)
inductive Ob where
  | v (y : Option (Option Value)) | i (y : Option Int) | s (y : Option Str) | o (y : Option Bool) | b (y : Bool) | t (y : Option Value) | c (y : Option PySem.W.CFound)
noncomputable def Fq.P (K : PySem.W.Frag) : Fq → Prop
  | .v f y => f K = y
  | .r f a => f K = some (some (.ref (a K)))
  | .i f y => ∃ t, f K = some (some (.int y t))
  | .s f y => ∃ t, f K = some (some (.str y t))
  | .o f y => f K = some y
  | .b f => f K = true
  | .t f y => f K = some y
  | .c f y => f K = some y
  | .x a => XOk K (a K)
noncomputable def Fq.ob (K : PySem.W.Frag) : Fq → Ob
  | .v f _ => .v (f K)
  | .r f a => .b (isAt (f K) (a K))
  | .i f _ => .i (intAt (f K))
  | .s f _ => .s (strAt (f K))
  | .o f _ => .o (f K)
  | .b f => .b (f K)
  | .t f _ => .t (f K)
  | .c f _ => .c (f K)
  | .x a => .b (xB K (a K))
noncomputable def Fq.due : Fq → Ob
  | .v _ y => .v y
  | .r _ _ => .b true
  | .i _ y => .i (some y)
  | .s _ y => .s (some y)
  | .o _ y => .o (some y)
  | .b _ => .b true
  | .t _ y => .t (some y)
  | .c _ y => .c (some y)
  | .x _ => .b true
theorem Fq.ok {K : PySem.W.Frag} {q : Fq} (h : q.ob K = q.due) : q.P K := by
  cases q with
  | v f y => exact Ob.v.inj h
  | r f a => exact isAt_ok (Ob.b.inj h)
  | i f y => exact intAt_ok (Ob.i.inj h)
  | s f y => exact strAt_ok (Ob.s.inj h)
  | o f y => exact Ob.o.inj h
  | b f => exact Ob.b.inj h
  | t f y => exact Ob.t.inj h
  | c f y => exact Ob.c.inj h
  | x a => exact xB_ok (Ob.b.inj h)
noncomputable abbrev Al : Type := List (List Ob) × Bool × List He.FnW
noncomputable def obs (fs : List (List Fq)) (ds : List He5.DefA) (K : PySem.W.Frag) : Al := (fs.map fun l => l.map (Fq.ob K), ds.all (fun d => d.ok K), ds.map fun d => He5.fnA K (d.at_ K))
noncomputable def val (fs : List (List Fq)) (ds : List He5.DefA) : Al := (fs.map fun l => l.map Fq.due, true, ds.map He5.DefA.val)
noncomputable def Says (fs : List (List Fq)) (ds : List He5.DefA) (K : PySem.W.Frag) : Prop := obs fs ds K = val fs ds
section
variable {fs : List (List Fq)} {ds : List He5.DefA} {K : PySem.W.Frag}
theorem Says.q (c : Says fs ds K) (i j : Nat) {l : List Fq} {q : Fq} (h : fs[i]? = some l) (h2 : l[j]? = some q) : q.P K := by
  have e : fs.map (fun l => l.map (Fq.ob K)) = fs.map fun l => l.map Fq.due := congrArg (fun z : Al => z.1) c
  have e2 : (fs.map fun l => l.map (Fq.ob K))[i]? = (fs.map fun l => l.map Fq.due)[i]? := by rw [e]
  rw [List.getElem?_map, List.getElem?_map, h] at e2
  have e3 : l.map (Fq.ob K) = l.map Fq.due := Option.some.inj e2
  have e4 : (l.map (Fq.ob K))[j]? = (l.map Fq.due)[j]? := by rw [e3]
  rw [List.getElem?_map, List.getElem?_map, h2] at e4
  exact Fq.ok (Option.some.inj e4)
theorem Says.d (c : Says fs ds K) (i : Nat) {d : He5.DefA} (h : ds[i]? = some d) : ∃ fd, FunD K d.name d.qual d.params d.body d.scope (d.dvs K) (d.kws K) (d.at_ K) fd := by
  have c2 : ds.all (fun d => d.ok K) = true := congrArg (fun z : Al => z.2.1) c
  have e : ds.map (fun d => He5.fnA K (d.at_ K)) = ds.map He5.DefA.val := congrArg (fun z : Al => z.2.2) c
  have e2 : (ds.map fun d => He5.fnA K (d.at_ K))[i]? = (ds.map He5.DefA.val)[i]? := by rw [e]
  rw [List.getElem?_map, List.getElem?_map, h] at e2
  exact He5.DefA.funD (Option.some.inj e2) (List.all_eq_true.mp c2 d (List.mem_of_getElem? h))
end
end Hk
namespace UP
open PySem L2 PyProof.Rows
section
variable {K : PySem.W.Frag} {X : Cx} {cl : Str → Option Addr} {W : WX} {a b : Expr} {ta tb : TE} {ma mb : En → R D} {pos : Pos}
end
end UP
namespace UP
open PySem L2 PyProof.Rows
section
variable {K : PySem.W.Frag} {X : Cx} {cl : Str → Option Addr} {W : WX} {o e : Expr} {to te : TE} {pos apos : Pos}
end
end UP
namespace UP
open PySem L2 PyProof.Rows
section
variable {K : PySem.W.Frag} {X : Cx} {cl : Str → Option Addr} {W : WX}
noncomputable def bRep : List D → R D
  | [.dk ks xs] => if ks = [] ∧ xs = [] then .ok (.str (PyData.shown (.dict []))) else .st
  | [d] => match toPy d with
    | some y => if y.showable = true ∧ y.hasDict = false ∧ y.depth ≤ 20 ∧ y.shown.length ≤ SZ then .ok (.str y.shown) else .st
    | none => .st
  | _ => .st
noncomputable def rRep (K : PySem.W.Frag) : List V → Hp → VK → Prop := fun vs H Q => ∃ (x : V) (y : PyData), vs = [x] ∧ ((Dp K H x y ∧ y.hasDict = false) ∨ y = .dict [] ∧ ∃ a, x = .ref a ∧ H a = some (.dK [])) ∧
  y.showable = true ∧ y.depth ≤ 20 ∧ y.shown.length ≤ SZ ∧ Q (.str y.shown) H
theorem empty_facts : (PyData.dict []).showable = true ∧ (PyData.dict []).depth ≤ 20 ∧ (PyData.dict []).shown.length ≤ SZ := by
  refine ⟨by simp [PyData.showable, PyData.showableKv], by simp [PyData.depth, PyData.depthKv], ?_⟩
  have : (PyData.dict []).shown = Str.ofString "{}" := by simp only [PyData.shown, PyData.shownKv]; decide +kernel
  rw [this]; decide +kernel
theorem ca_rep : CaR K cl (rRep K) bRep := by
  intro W σ F H vs ds Q e r p
  unfold bRep at p
  split at p
  · rename_i ks xs
    split at p
    · rename_i hz
      obtain ⟨v, r', rfl, h1, h2⟩ := r.cons_inv
      rw [h2.nil_inv]
      obtain ⟨rfl, rfl⟩ := hz
      unfold Rp at h1
      obtain ⟨a, us, rfl, h3, h4, h5⟩ := h1
      have hu : us = [] := h5.nil_inv
      subst hu
      obtain ⟨f1, f2, f3⟩ := empty_facts
      exact ⟨_, _, rfl, .inr ⟨rfl, a, rfl, e _ _ h3⟩, f1, f2, f3, post_ok p e rp_str⟩
    · exact p.elim
  · rename_i d hd
    split at p
    · rename_i y hy
      split at p
      · rename_i hz
        obtain ⟨z1, z2, z3, z4⟩ := hz
        obtain ⟨v, r', rfl, h1, h2⟩ := r.cons_inv
        rw [h2.nil_inv]
        exact ⟨_, y, rfl, .inl ⟨dp_of e h1 hy, z2⟩, z1, z3, z4, post_ok p e rp_str⟩
      · exact p.elim
    · exact p.elim
  · exact p.elim
theorem call_rep (hg : X.A.guards = some []) (hu : X.A.units + 64 < cLine) : CallR X (.builtin "repr") (rRep X.K) := by
  intro pins s σ H xs us Q I r h
  obtain ⟨x, y, rfl, hd, sh, dp, sz, q⟩ := h
  obtain ⟨u, rfl, r1⟩ := vals1 r
  have key : ∃ as, Reads s.heap u y as ∧ (y.hasDict = true → sysModules ∉ as) := by
    rcases hd with ⟨hd, hn⟩ | ⟨rfl, a, rfl, ha⟩
    · obtain ⟨as, rd⟩ := Dp.reads I y x u hd r1
      exact ⟨as, rd, PyData.noDict_hsm hn⟩
    · cases (show u = Value.ref a from r1)
      obtain ⟨_, hs, vs, kv, o, es, ep, e1, e2, e3, _, e5, _⟩ := dk_of I.hok ha
      cases kv
      generalize hl : es.toList = el at e5
      cases e5
      have k0 : ReadsAll s.heap (es.toList.map (·.key)) ((([] : List (PyData × PyData))).map (·.1)) [] := by rw [hl]; exact .nil
      have v0 : ReadsAll s.heap (es.toList.map (·.val)) ((([] : List (PyData × PyData))).map (·.2)) [] := by rw [hl]; exact .nil
      refine ⟨_, Reads.dict e1 e2.1 e3 k0 v0, fun _ hm => ?_⟩
      have e6 : sysModules = a := by simpa using hm
      rw [e6] at hs
      simp at hs
  obtain ⟨as, rd, hs⟩ := key
  have dn : ∀ h' v tk, (∀ b o, s.heap.get? b = some o → h'.get? b = some o) → EP X pins σ Q (.str y.shown v) { s with heap := h', toks := tk } := fun h' v tk k => ⟨.str _, H, I.kept k, ⟨_, rfl⟩, q⟩
  have rd' := rd
  cases rd with
  | none => exact P.repr_of_none (dn s.heap _ _ fun _ _ e => e)
  | bool b => exact P.repr_of_bool (dn s.heap _ _ fun _ _ e => e)
  | int i t => exact P.repr_of_int (by simpa [PyData.showable] using sh) (dn s.heap _ _ fun _ _ e => e)
  | str z t => exact P.repr_of_str (dn s.heap _ _ fun _ _ e => e) sz
  | list a1 a2 a3 a4 => exact repr_of_reads' rd' sh hs hg (by omega) (fun _ _ e => e) dn sz
  | tuple a1 a2 a3 a4 => exact repr_of_reads' rd' sh hs hg (by omega) (fun _ _ e => e) dn sz
  | dict a1 a2 a3 a4 a5 => exact repr_of_reads' rd' sh hs hg (by omega) (fun _ _ e => e) dn sz
end
/-- its promise, from such places alone -/
noncomputable def GOk (P : Program) (w : World) (K : PySem.W.Frag) (mg : Str → Option Value) (base : Heap) (CX : CXT) (k : Nat) (f : Addr) (fd : FuncData) (ps : List Str) (sp : Sp) : Prop :=
  ∀ (A : Around) (outer : List Env) (s : Shared) (H : Hp) (args : Args) (us : List Value) (vs : List V) (Q : VK) (E : XK), A.guards = some [] → Room k A → Env0 P w K mg base A outer s H →
    BindsTo s fd args (ps.zip us) → Vals vs us → sp vs H Q E → codeAny (model P w) A (.call (.ref f) args) (CR CX outer P w H s Q E) s
section
variable {P : Program} {w : World} {K : PySem.W.Frag} {mg : Str → Option Value} {base : Heap} {cl : Str → Option Addr} {CX : CXT}
theorem gok_of {x qual : Str} {st : Stmt} {f : Addr} {fd : FuncData} {N ps : List Str} {k : Nat} {sp : Sp} (F : Fun K x qual st f fd) (S : FnScope N ps (defScope st))
    (hl : ∀ vs H Q E, sp vs H Q E → vs.length = ps.length)
    (hb : ∀ (cdv : Value) (A : Around) (outer : List Env) (s : Shared) (H : Hp) (vs : List V) (Q : VK) (E : XK), A.guards = some [] → Room k (A.deeper (envOfC qual (defScope st) s.heap.objs.size f cdv)) → sp vs H Q E →
      ∃ t, PSs (cxOf CX P w K mg base N qual (defScope st) f cdv A outer s H E) (defBody st) t ∧ t { nx := fun _ H' => Q .non H', rt := Q } (L2.start N vs) H) : GOk P w K mg base CX (k + 1) f fd ps sp := by
  obtain ⟨_, _, _, _, _, _, cdv, _, _, e, lk, hc⟩ := F.ex
  subst e
  intro A outer s H args us vs Q E hg rm e0 bd rel want
  have inK : K.In s.heap := e0.mod.kin.keeps fun b o z => (e0.bs b o z).1
  have nol : s.heap.NoLimit := e0.mod.nolimit.keeps fun b o z => (e0.bs b o z).1
  refine codeAny_call_function rm.depth (inK _ _ lk) rfl S.co S.gen rfl (PySem.W.codeRec_of inK hc) (bd _ _ _ _ ?_)
  refine wpAny_newFunctionEnv_cells S.kind (fun y hy => (S.par y.1 (List.of_mem_zip hy).1).imp id fun z => ⟨z, PySem.W.cellsFrom_some _ _ _ (.inl z)⟩) fun env he s1 x1 => ?_
  cases he
  refine ⟨nol.keeps x1.toInCall.keep, codeAny_func ?_⟩
  obtain ⟨t, run, ends⟩ := hb cdv A outer s H vs Q E hg (rm.deeper _) want
  refine wpAny_mono (run.run [] s1 _ H _ (inv_start S rm.hd e0 (hl _ _ _ _ want) rel x1) ends) (fun fl s2 z => ?_) fun _ _ z => z
  cases fl with
  | ret u => obtain ⟨v, _, H2, J, rv, q⟩ := z; exact ⟨v, H2, J.os, J.bare, J.base, J.hok, rv, q⟩
  | next => obtain ⟨_, H2, J, q⟩ := z; exact ⟨.non, H2, J.os, J.bare, J.base, J.hok, rfl, q⟩
  | brk => exact z.elim fun _ z => z.elim fun _ z => False.elim z.2
  | cont => exact z.elim fun _ z => z.elim fun _ z => False.elim z.2
theorem gok_mono {k : Nat} {f : Addr} {fd : FuncData} {ps : List Str} {sp sp' : Sp} (F : GOk P w K mg base CX k f fd ps sp) (h : ∀ vs H Q E, sp' vs H Q E → sp vs H Q E) : GOk P w K mg base CX k f fd ps sp' :=
  fun A o s H as us vs Q E a b c d e q => F A o s H as us vs Q E a b c d e (h vs H Q E q)
theorem gok_V {x qual : Str} {st : Stmt} {f : Addr} {fd : FuncData} {N ps : List Str} {k : Nat} {mb : En → Fl D} (F : Fun K x qual st f fd) (S : FnScope N ps (defScope st)) (hn : ps.length ≤ N.length)
    (hb : ∀ (cdv : Value) (A : Around) (outer : List Env) (s : Shared) (H : Hp) (E : XK), Room k (A.deeper (envOfC qual (defScope st) s.heap.objs.size f cdv)) → (A.deeper (envOfC qual (defScope st) s.heap.objs.size f cdv)).guards = some [] →
      ∃ t, USs (cxOf (L2N.CX P w) P w K mg base N qual (defScope st) f cdv A outer s H E) cl (WD E) [] (RPV K cl []) (defBody st) t mb) : GOk P w K mg base (L2N.CX P w) (k + 1) f fd ps (spV K cl ps.length (runV N.length mb)) := by
  refine gok_of F S (fun vs H Q E ⟨ds, _, _, _, h, _⟩ => h) fun cdv A outer s H vs Q E hg hr h => ?_
  obtain ⟨ds, F0, ex, r, hl, p⟩ := h
  obtain ⟨t, U⟩ := hb cdv A outer s H E hr hg
  refine ⟨t, U.pe, U.es F0 H F0 H _ _ _ (sr_start ex r (by omega)) (fun q hq => nomatch hq) ?_⟩
  unfold runV at p
  revert p
  cases mb (startE N.length ds) with
  | nx ρ => exact fun p σ F2 H2 _ S2 _ => p .non F2 H2 S2.grow rp_non
  | rt d ρ => exact fun p v σ F2 H2 S2 _ z => p v F2 H2 S2.grow z
  | er x ρ => exact fun p c d σ F2 H2 _ S2 _ z => p c d F2 H2 S2.grow z
  | bk ρ => exact fun p => p.elim
  | ct ρ => exact fun p => p.elim
  | st => exact fun p => p.elim
end
section
variable {P : Program} {w : World} {K : PySem.W.Frag} {mg mb : Str → Option Value} {CX : CXT} {k : Nat} {f a : Addr} {fd : FuncData} {x : Str} {sp : Sp} {s1 : Shared} {us : List Value} {ns : List Int}
/-- the law is called: nothing but its script is tracked -/
theorem law_g (inK : K.In s1.heap) (n1 : s1.heap.Ns mainGlobals mg) (n2 : s1.heap.Ns builtinsNs mb) (n3 : ∀ y : Str, y ≠ "__name__" → mb y = bootBuiltins y) (n4 : s1.heap.NoLimit) (g0 : s1.gens = #[])
    (at_ : s1.heap.get? a = some { cls := .type "list", data := .seq us.toArray }) (hi : IntsAre us ns) (hz : ns.length ≤ SZ) (rm : Room k callerA)
    (F : ∀ b : Heap, K.In b → b.Ns mainGlobals mg → GOk P w K mg b CX k f fd [x] sp) (bd : ∀ (s : Shared) (u : Value), BindsTo s fd ⟨[u], []⟩ [(x, u)])
    (want : ∀ H : Hp, SqL K H a (ns.map V.int) → sp [.ref a] H (fun v _ => v = .bl true) fun _ _ _ => False) (noX : ∀ H e s', CX [] H s1 (fun _ _ _ => False) e s' → False) :
    codeAny (model P w) callerA (.call (.ref f) ⟨[.ref a], []⟩) (fun r s' => r = .ok (.ret (.bool true)) ∧ OldK s1.heap s'.heap ∧ s'.os = s1.os ∧ AllBare s'.gens) s1 := by
  have rel := vals_ints hi
  have num := hi.length
  have enter : ∀ H : Hp, (∀ b u, H b = some u → b = a ∧ K.lookup a = none ∧ ∃ o ys, u = .frz o (.lst ys)) → HOk P w H s1.heap → SqL K H a (ns.map V.int) →
      codeAny (model P w) callerA (.call (.ref f) ⟨[.ref a], []⟩) (fun r s' => r = .ok (.ret (.bool true)) ∧ OldK s1.heap s'.heap ∧ s'.os = s1.os ∧ AllBare s'.gens) s1 := fun H fz hok sq => by
    have un1 : ∀ {b o es ep}, s1.heap.get? b = some o → o.data = .dict es ep → H b = none := fun {b o es ep} e d => by
      cases z : H b with
      | none => rfl
      | some u =>
        obtain ⟨rfl, _⟩ := fz b u z
        rw [at_] at e
        cases e
        have d : Data.seq us.toArray _ = Data.dict es ep := d
        cases d
    have un2 : ∀ {b o}, K.lookup b = some o → H b = none := fun {b o} e => by
      cases z : H b with
      | none => rfl
      | some u =>
        obtain ⟨rfl, n, _⟩ := fz b u z
        rw [n] at e
        cases e
    have nsH : ∀ {b : Addr} {m : Str → Option Value}, s1.heap.Ns b m → (hidT s1.heap H).Ns b m := fun ⟨o, es, ep, e, d, z⟩ => ⟨o, es, ep, hidT_get e (un1 e d), d, z⟩
    have kH : K.In (hidT s1.heap H) := fun b o e => hidT_get (inK b o e) (un2 e)
    obtain ⟨ml, l1, l2⟩ := n4
    have e0 : Env0 P w K mg (hidT s1.heap H) callerA [] s1 H := ⟨rfl, ⟨kH, nsH n1, ⟨mb, nsH n2, n3⟩, ⟨ml, nsH l1, l2⟩⟩, fun b o e => of_hidT e, Nat.le_of_eq (hidT_size _ _), trivial, (fun b z => by have z : b ∈ ([] : List Addr) := z; cases z), hok, AllBare.of_eq g0⟩
    refine codeAny_mono (F _ kH (nsH n1) callerA [] s1 H _ [.ref a] [.ref a] _ _ rfl rm e0 (bd s1 _) (.cons rfl .nil) (want H sq)) fun r s' z => ?_
    match r, z with
    | .error e, z => exact (noX H e s' z).elim
    | .ok .next, z => exact False.elim z
    | .ok .brk, z => exact False.elim z
    | .ok .cont, z => exact False.elim z
    | .ok (.ret u), ⟨v, H2, so, bare, un, hok2, rv, q⟩ =>
      have q : v = .bl true := q
      subst q
      have rv : u = Value.bool true := rv
      subst rv
      refine ⟨rfl, OldK.of_keep fun b o e => ?_, so, bare⟩
      cases z : H b with
      | none => exact un.keep b o e z (fun m => by have m : b ∈ ([] : List Addr) := m; cases m) (by simp)
      | some u =>
        obtain ⟨_, _, o2, ys, rfl⟩ := fz b u z
        have z2 := un.frzs b o2 _ z
        have k1 := (hok b _ z).1
        have k2 := (hok2 b _ z2).1
        rw [e] at k1
        cases k1
        exact k2
  by_cases hk : ∃ o, K.lookup a = some o
  · obtain ⟨o, hk⟩ := hk
    have e := inK a o hk
    rw [at_] at e
    cases e
    exact enter (fun _ => none) (fun b u z => by cases z) (fun b u z => by cases z) (.inr ⟨_, us.toArray, _, hk, rfl, rfl, rfl, by rw [List.size_toArray, num]; exact hz, by simpa using rel⟩)
  · have hk : K.lookup a = none := by
      cases z : K.lookup a with
      | none => rfl
      | some o => exact absurd ⟨o, z⟩ hk
    refine enter (upd (fun _ => none) a (.frz { cls := .type "list", data := .seq us.toArray } (.lst (ns.map V.int)))) (fun b u z => ?_) (fun b u z => ?_) (.inl (.inr ⟨{ cls := .type "list", data := .seq us.toArray }, upd_same⟩))
    all_goals
      have hb : b = a := by
        by_cases hb : b = a
        · exact hb
        · rw [upd_ne hb] at z; cases z
      subst hb
      rw [upd_same] at z
      cases z
    · exact ⟨rfl, hk, _, _, rfl⟩
    · exact ⟨at_, by rw [List.length_map]; exact hz, us, _, rel, at_⟩
/-- the walk of a law that asks for a repr -/
theorem walk_g {l : PySem.W.OpenLaw} {n : Nat} {q : Program} {loose : List Str} {XP : (Str → Option Value) → Heap → Prop} {YP : World → Heap → Prop} {d : DefRec} {K : Params → PySem.W.Frag} {CX : World → CXT} {sp : World → Sp}
    (hn : l.most = some n) (hn2 : n ≤ SZ) (hdf : d.params.defaults = []) (rm : Room k callerA) (hY : ∀ (w : World) (h : Heap), YP w h → (K w.params).In h)
    (F : ∀ (w : World) (mg : Str → Option Value) (fa : Addr) (h : Heap), (K w.params).In h → h.Ns mainGlobals mg → mg d.name = some (.ref fa) →
      ∃ fd : FuncData, (∀ (s : Shared) (u : Value), BindsTo s fd ⟨[u], []⟩ [(x, u)]) ∧ ∀ b : Heap, (K w.params).In b → b.Ns mainGlobals mg → GOk l.prog w (K w.params) mg b (CX w) k fa fd [x] (sp w))
    (want : ∀ (w : World) (H : Hp) (a : Addr) (ns : List Int), ns.length ≤ n → SqL (K w.params) H a (ns.map V.int) → sp w [.ref a] H (fun v _ => v = .bl true) fun _ _ _ => False)
    (noX : ∀ (w : World) (H : Hp) (s : Shared) (e : Value) (s' : Shared), CX w [] H s (fun _ _ _ => False) e s' → False) :
    PySem.W.WalkO q loose XP YP l.row.toRowW d [] (fun f vs => PySem.call f vs) :=
  Att.attach_call hn hdf fun w s0 s1 mg mb fa o pm cd doc a vs ns G Y ho hd hcd hmg hob hi hl hg => by
    have inK := hY w _ Y
    obtain ⟨fd, bd, hF⟩ := F w mg fa _ inK G.T.g hmg
    exact law_g inK G.T.g G.T.b G.T.builtins G.T.nolimit hg hob hi (Nat.le_trans hl hn2) rm hF bd (fun H sq => want w H a ns hl sq) fun H e s' => noX w H s1 e s'
end
end UP
namespace Lw
open PySem L2 UP PyProof.Rows
noncomputable section
noncomputable def b__law_scale : En → Fl D := (fRet (d1 dMkT (dCons (d2 dMod (dVar 0) (dC (.int 4))) (dCons (d2 dIx (d1 dOl (d1 dMkL (dCons (dC (.int 1)) (dCons (dC (.int 7)) (dCons (d2 dMul (dC (.int 4)) (d2 dPow (dC (.int 10)) (dC (.int 10)))) dNil))))) (d2 dMod (d2 dFdiv (dVar 0) (dC (.int 4))) (dC (.int 3)))) (dCons (d2 dIx (d1 dOl (d1 dMkL (dCons (dC (.int 1)) (dCons (dC (.int 1)) (dCons (dC (.int 2)) (dCons (d2 dPow (dC (.int 10)) (dC (.int 10))) dNil)))))) (d2 dMod (d2 dFdiv (dVar 0) (dC (.int 12))) (dC (.int 4)))) dNil)))))
theorem e_b__law_scale (ρ : En) : b__law_scale ρ = ((fRet (d1 dMkT (dCons (d2 dMod (dVar 0) (dC (.int 4))) (dCons (d2 dIx (d1 dOl (d1 dMkL (dCons (dC (.int 1)) (dCons (dC (.int 7)) (dCons (d2 dMul (dC (.int 4)) (d2 dPow (dC (.int 10)) (dC (.int 10)))) dNil))))) (d2 dMod (d2 dFdiv (dVar 0) (dC (.int 4))) (dC (.int 3)))) (dCons (d2 dIx (d1 dOl (d1 dMkL (dCons (dC (.int 1)) (dCons (dC (.int 1)) (dCons (dC (.int 2)) (dCons (d2 dPow (dC (.int 10)) (dC (.int 10))) dNil)))))) (d2 dMod (d2 dFdiv (dVar 0) (dC (.int 12))) (dC (.int 4)))) dNil)))))) ρ := id rfl
noncomputable def m__law_scale : List D → R D := runV 1 b__law_scale
theorem e_m__law_scale (ds : List D) : m__law_scale ds = flV (b__law_scale (startE 1 ds)) := runV_ap _ _ _
noncomputable def b__law_cell_at : En → Fl D := (fSeq (fIf (d1 dBl (d2 dLt (dVar 1) (d1 bLenL (dLv 0)))) (fRet (d2 dIx (dLv 0) (dVar 1))) fNext)
  (fRet (dC (.int 0))))
theorem e_b__law_cell_at (ρ : En) : b__law_cell_at ρ = fThen ((fIf (d1 dBl (d2 dLt (dVar 1) (d1 bLenL (dLv 0)))) (fRet (d2 dIx (dLv 0) (dVar 1))) fNext) ρ) (fRet (dC (.int 0))) := id rfl
noncomputable def m__law_cell_at : List D → R D := runV 2 b__law_cell_at
theorem e_m__law_cell_at (ds : List D) : m__law_cell_at ds = flV (b__law_cell_at (startE 2 ds)) := runV_ap _ _ _
noncomputable def x__law_offer_by_1 : En → R D := (d2 dBand (d2 dShr (dVar 4) (dVar 8)) (dC (.int 1)))
theorem e_x__law_offer_by_1 (ρ : En) : x__law_offer_by_1 ρ = ((d2 dBand (d2 dShr (dVar 4) (dVar 8)) (dC (.int 1)))) ρ := id rfl
noncomputable def c__law_offer_by_5 : En → Fl D := (fRet (d1 dMkT (dCons (dVar 4) (dCons (d2 dAdd (d2 dMul (dVar 7) (d2 dIx (dLv 2) (dC (.int 1)))) (d2 dMod (d2 dMul (d2 dFdiv (dVar 5) (dC (.int 6))) (dC (.int 48271))) (d2 dIx (dLv 2) (dC (.int 2))))) dNil))))
theorem e_c__law_offer_by_5 (ρ : En) : c__law_offer_by_5 ρ = ((fRet (d1 dMkT (dCons (dVar 4) (dCons (d2 dAdd (d2 dMul (dVar 7) (d2 dIx (dLv 2) (dC (.int 1)))) (d2 dMod (d2 dMul (d2 dFdiv (dVar 5) (dC (.int 6))) (dC (.int 48271))) (d2 dIx (dLv 2) (dC (.int 2))))) dNil))))) ρ := id rfl
noncomputable def c__law_offer_by_4 : En → Fl D := (fSeq (fSet 7 (d2 dAdd (d2 dAdd (d2 dMod (dVar 5) (dC (.int 6))) (dC (.int 1))) (d2 dMul (d2 dIx (dLv 2) (dC (.int 0))) (d2 dSub (dVar 6) (dC (.int 1))))))
  c__law_offer_by_5)
theorem e_c__law_offer_by_4 (ρ : En) : c__law_offer_by_4 ρ = fThen ((fSet 7 (d2 dAdd (d2 dAdd (d2 dMod (dVar 5) (dC (.int 6))) (dC (.int 1))) (d2 dMul (d2 dIx (dLv 2) (dC (.int 0))) (d2 dSub (dVar 6) (dC (.int 1)))))) ρ) c__law_offer_by_5 := id rfl
noncomputable def c__law_offer_by_3 : En → Fl D := (fSeq (fSet 6 (d1 bSum (d1 dOl (dLc [8] (d1 dRng1 (dCons (dVar 1) dNil)) (gSet 8) dYes x__law_offer_by_1))))
  c__law_offer_by_4)
theorem e_c__law_offer_by_3 (ρ : En) : c__law_offer_by_3 ρ = fThen ((fSet 6 (d1 bSum (d1 dOl (dLc [8] (d1 dRng1 (dCons (dVar 1) dNil)) (gSet 8) dYes x__law_offer_by_1)))) ρ) c__law_offer_by_4 := id rfl
noncomputable def c__law_offer_by_2 : En → Fl D := (fSeq (fSet 5 (d2 dFdiv (dVar 0) (dVar 3)))
  c__law_offer_by_3)
theorem e_c__law_offer_by_2 (ρ : En) : c__law_offer_by_2 ρ = fThen ((fSet 5 (d2 dFdiv (dVar 0) (dVar 3))) ρ) c__law_offer_by_3 := id rfl
noncomputable def c__law_offer_by_1 : En → Fl D := (fSeq (fSet 4 (d2 dAdd (d2 dMod (dVar 0) (dVar 3)) (dC (.int 1))))
  c__law_offer_by_2)
theorem e_c__law_offer_by_1 (ρ : En) : c__law_offer_by_1 ρ = fThen ((fSet 4 (d2 dAdd (d2 dMod (dVar 0) (dVar 3)) (dC (.int 1)))) ρ) c__law_offer_by_2 := id rfl
noncomputable def b__law_offer_by : En → Fl D := (fSeq (fSet 3 (d2 dSub (d2 dShl (dC (.int 1)) (dVar 1)) (dC (.int 1))))
  c__law_offer_by_1)
theorem e_b__law_offer_by (ρ : En) : b__law_offer_by ρ = fThen ((fSet 3 (d2 dSub (d2 dShl (dC (.int 1)) (dVar 1)) (dC (.int 1)))) ρ) c__law_offer_by_1 := id rfl
noncomputable def m__law_offer_by : List D → R D := runV 9 b__law_offer_by
theorem e_m__law_offer_by (ds : List D) : m__law_offer_by ds = flV (b__law_offer_by (startE 9 ds)) := runV_ap _ _ _
noncomputable def x__law_listed_1 : En → R D := (d2 dIx (dLv 6) (dC (.int 0)))
theorem e_x__law_listed_1 (ρ : En) : x__law_listed_1 ρ = ((d2 dIx (dLv 6) (dC (.int 0)))) ρ := id rfl
noncomputable def x__law_listed_2 : En → Fl D := fWb [0, 4, 5] (fSeq (fSet 5 (d1 m__law_offer_by (dCons (dVar 4) (dCons (dVar 1) (dCons (dVar 2) dNil)))))
  (fIf (d1 dBl (d2 dNotIn (d2 dIx (dLv 5) (dC (.int 0))) (d1 dOl (dLc [6] (d1 (fun q => .ok q.2) (dLv 3)) (gSet 6) dYes x__law_listed_1)))) (fApp 3 (dX (dVar 5))) fNext))
theorem e_x__law_listed_2 (ρ : En) : x__law_listed_2 ρ = (fWb [0, 4, 5] (fSeq (fSet 5 (d1 m__law_offer_by (dCons (dVar 4) (dCons (dVar 1) (dCons (dVar 2) dNil)))))
  (fIf (d1 dBl (d2 dNotIn (d2 dIx (dLv 5) (dC (.int 0))) (d1 dOl (dLc [6] (d1 (fun q => .ok q.2) (dLv 3)) (gSet 6) dYes x__law_listed_1)))) (fApp 3 (dX (dVar 5))) fNext))) ρ := id rfl
noncomputable def b__law_listed : En → Fl D := (fSeq (fSetN 3 (d1 dMkL dNil))
  (fSeq (fFor [0, 4, 5] (d1 dIt (dVar 0)) (gSet 4) x__law_listed_2)
  (fRet (d1 dFz (d1 bSortP (dLv 3))))))
theorem e_b__law_listed (ρ : En) : b__law_listed ρ = fThen ((fSetN 3 (d1 dMkL dNil)) ρ) (fSeq (fFor [0, 4, 5] (d1 dIt (dVar 0)) (gSet 4) x__law_listed_2)
  (fRet (d1 dFz (d1 bSortP (dLv 3))))) := id rfl
noncomputable def m__law_listed : List D → R D := runV 7 b__law_listed
theorem e_m__law_listed (ds : List D) : m__law_listed ds = flV (b__law_listed (startE 7 ds)) := runV_ap _ _ _
noncomputable def x__law_offers_1 : En → R D := (d1 m__law_cell_at (dCons (dVar 0) (dCons (d2 dAdd (d2 dAdd (dVar 8) (dC (.int 1))) (dVar 10)) dNil)))
theorem e_x__law_offers_1 (ρ : En) : x__law_offers_1 ρ = ((d1 m__law_cell_at (dCons (dVar 0) (dCons (d2 dAdd (d2 dAdd (dVar 8) (dC (.int 1))) (dVar 10)) dNil)))) ρ := id rfl
noncomputable def x__law_offers_2 : En → Fl DO := fWb [3, 7, 8, 9] (fSeq (fSet 8 (d2 dAdd (d2 dAdd (dVar 1) (dC (.int 1))) (d2 dMul (d2 dAdd (dVar 4) (dC (.int 1))) (dVar 7))))
  (fSeq (fSet 9 (d1 dFz (dLc [10] (d1 dRng1 (dCons (d2 dMod (d1 m__law_cell_at (dCons (dVar 0) (dCons (dVar 8) dNil))) (d2 dAdd (dVar 4) (dC (.int 1)))) dNil)) (gSet 10) dYes x__law_offers_1)))
  (fSeq (fIf (d1 dBl (d2 dEq (dVar 2) (dC (.int 0)))) (fSet 9 (d1 dFz (d1 dMkL dNil))) fNext)
  (fApp 6 (dX (d1 m__law_listed (dCons (dVar 9) (dCons (dVar 2) (dCons (dVar 5) dNil)))))))))
theorem e_x__law_offers_2 (ρ : En) : x__law_offers_2 ρ = (fWb [3, 7, 8, 9] (fSeq (fSet 8 (d2 dAdd (d2 dAdd (dVar 1) (dC (.int 1))) (d2 dMul (d2 dAdd (dVar 4) (dC (.int 1))) (dVar 7))))
  (fSeq (fSet 9 (d1 dFz (dLc [10] (d1 dRng1 (dCons (d2 dMod (d1 m__law_cell_at (dCons (dVar 0) (dCons (dVar 8) dNil))) (d2 dAdd (dVar 4) (dC (.int 1)))) dNil)) (gSet 10) dYes x__law_offers_1)))
  (fSeq (fIf (d1 dBl (d2 dEq (dVar 2) (dC (.int 0)))) (fSet 9 (d1 dFz (d1 dMkL dNil))) fNext)
  (fApp 6 (dX (d1 m__law_listed (dCons (dVar 9) (dCons (dVar 2) (dCons (dVar 5) dNil)))))))))) ρ := id rfl
noncomputable def c__law_offers_3 : En → Fl DO := (fRetO 6)
theorem e_c__law_offers_3 (ρ : En) : c__law_offers_3 ρ = ((fRetO 6)) ρ := id rfl
noncomputable def c__law_offers_2 : En → Fl DO := (fSeq (fFor [3, 7, 8, 9] (d1 dRng1 (dCons (dVar 3) dNil)) (gSet 7) x__law_offers_2)
  c__law_offers_3)
theorem e_c__law_offers_2 (ρ : En) : c__law_offers_2 ρ = fThen ((fFor [3, 7, 8, 9] (d1 dRng1 (dCons (dVar 3) dNil)) (gSet 7) x__law_offers_2) ρ) c__law_offers_3 := id rfl
noncomputable def c__law_offers_1 : En → Fl DO := (fSeq (fSetN 6 (d1 dMkL dNil))
  c__law_offers_2)
theorem e_c__law_offers_1 (ρ : En) : c__law_offers_1 ρ = fThen ((fSetN 6 (d1 dMkL dNil)) ρ) c__law_offers_2 := id rfl
noncomputable def b__law_offers : En → Fl DO := (fSeq (fSet 5 (d1 m__law_scale (dCons (d1 m__law_cell_at (dCons (dVar 0) (dCons (dVar 1) dNil))) dNil)))
  c__law_offers_1)
theorem e_b__law_offers (ρ : En) : b__law_offers ρ = fThen ((fSet 5 (d1 m__law_scale (dCons (d1 m__law_cell_at (dCons (dVar 0) (dCons (dVar 1) dNil))) dNil))) ρ) c__law_offers_1 := id rfl
noncomputable def m__law_offers : List D → R DO := runN 11 b__law_offers
theorem e_m__law_offers (ds : List D) : m__law_offers ds = flN (b__law_offers (startE 11 ds)) := runN_ap _ _ _
noncomputable def x__law_copies_1 : En → R D := (d1 dFz (d1 bListL (dLv 1)))
theorem e_x__law_copies_1 (ρ : En) : x__law_copies_1 ρ = ((d1 dFz (d1 bListL (dLv 1)))) ρ := id rfl
noncomputable def b__law_copies : En → Fl DO := (fRetN (dLc [1] (d1 dIt (dVar 0)) (gSet 1) dYes x__law_copies_1))
theorem e_b__law_copies (ρ : En) : b__law_copies ρ = ((fRetN (dLc [1] (d1 dIt (dVar 0)) (gSet 1) dYes x__law_copies_1))) ρ := id rfl
noncomputable def m__law_copies : List D → R DO := runN 2 b__law_copies
theorem e_m__law_copies (ds : List D) : m__law_copies ds = flN (b__law_copies (startE 2 ds)) := runN_ap _ _ _
noncomputable def x_amount_at_1 : En → Fl D := fWb [0, 2] (fIf (d1 dBl (d2 dEq (d2 dIx (dLv 2) (dC (.int 0))) (dVar 1))) (fRet (d2 dIx (dLv 2) (dC (.int 1)))) fNext)
theorem e_x_amount_at_1 (ρ : En) : x_amount_at_1 ρ = (fWb [0, 2] (fIf (d1 dBl (d2 dEq (d2 dIx (dLv 2) (dC (.int 0))) (dVar 1))) (fRet (d2 dIx (dLv 2) (dC (.int 1)))) fNext)) ρ := id rfl
noncomputable def b_amount_at : En → Fl D := (fSeq (fIf (d1 dBl (d2 dEq (dVar 1) (dC (.int 0)))) (fRet (dC (.int 0))) fNext)
  (fSeq (fFor [0, 2] (d1 dIt (dVar 0)) (gSet 2) x_amount_at_1)
  (fRet (dC .non))))
theorem e_b_amount_at (ρ : En) : b_amount_at ρ = fThen ((fIf (d1 dBl (d2 dEq (dVar 1) (dC (.int 0)))) (fRet (dC (.int 0))) fNext) ρ) (fSeq (fFor [0, 2] (d1 dIt (dVar 0)) (gSet 2) x_amount_at_1)
  (fRet (dC .non))) := id rfl
noncomputable def m_amount_at : List D → R D := runV 3 b_amount_at
theorem e_m_amount_at (ds : List D) : m_amount_at ds = flV (b_amount_at (startE 3 ds)) := runV_ap _ _ _
noncomputable def x_plan_worth_1 : En → Fl D := fWb [0, 1, 3, 4] (fAug 2 (dI0 fun i j => .int (i + j)) (d1 m_amount_at (dCons (dVar 3) (dCons (dVar 4) dNil))))
theorem e_x_plan_worth_1 (ρ : En) : x_plan_worth_1 ρ = (fWb [0, 1, 3, 4] (fAug 2 (dI0 fun i j => .int (i + j)) (d1 m_amount_at (dCons (dVar 3) (dCons (dVar 4) dNil))))) ρ := id rfl
noncomputable def b_plan_worth : En → Fl D := (fSeq (fSet 2 (dC (.int 0)))
  (fSeq (fFor [0, 1, 3, 4] (d1 dZip (dCons (dVar 0) (dCons (dVar 1) dNil))) (gTupD 2 (gsCons (gSet 3) (gsCons (gSet 4) gsNil))) x_plan_worth_1)
  (fRet (dVar 2))))
theorem e_b_plan_worth (ρ : En) : b_plan_worth ρ = fThen ((fSet 2 (dC (.int 0))) ρ) (fSeq (fFor [0, 1, 3, 4] (d1 dZip (dCons (dVar 0) (dCons (dVar 1) dNil))) (gTupD 2 (gsCons (gSet 3) (gsCons (gSet 4) gsNil))) x_plan_worth_1)
  (fRet (dVar 2))) := id rfl
noncomputable def m_plan_worth : List D → R D := runV 5 b_plan_worth
theorem e_m_plan_worth (ds : List D) : m_plan_worth ds = flV (b_plan_worth (startE 5 ds)) := runV_ap _ _ _
noncomputable def x__law_spoilt_1 : En → R D := (d2 dIx (dLv 11) (dC (.int 0)))
theorem e_x__law_spoilt_1 (ρ : En) : x__law_spoilt_1 ρ = ((d2 dIx (dLv 11) (dC (.int 0)))) ρ := id rfl
noncomputable def c__law_spoilt_8 : En → Fl D := (fFrz 5 (fRet (dVar 5)))
theorem e_c__law_spoilt_8 (ρ : En) : c__law_spoilt_8 ρ = ((fFrz 5 (fRet (dVar 5)))) ρ := id rfl
noncomputable def c__law_spoilt_7 : En → Fl D := (fSeq (fIf (d1 dBl (d2 dGt (d1 bLenL (dLv 5)) (dC (.int 0)))) (fSeq (fSet 6 (d2 dMod (dVar 3) (d1 bLenL (dLv 5))))
  (fSeq (fSet 7 (d2 dMod (d2 dFdiv (dVar 2) (dC (.int 216))) (dC (.int 64))))
  (fSeq (fSet 8 (d2 dShl (dC (.int 1)) (d2 dMod (d2 dFdiv (dVar 2) (dC (.int 216))) (dC (.int 6)))))
  (fSeq (fSet 9 (d2 dAdd (d1 dFz (dLc [11] (d1 dIt (d2 dIx (dLv 0) (d2 dMod (d2 dAdd (dVar 6) (dC (.int 1))) (d1 bLenL (dLv 5))))) (gSet 11) dYes x__law_spoilt_1)) (d1 dFz (d1 dMkL (dCons (dVar 7) dNil)))))
  (fSeq (fSet 10 (d1 dFz (d1 dMkL (dCons (dVar 7) (dCons (d2 dSub (d1 dNeg (dC (.int 1))) (dVar 7)) (dCons (dC (.bl true)) (dCons (dC (.bl false)) (dCons (dC .non) (dCons (dC (.str (Str.ofString "1"))) (dCons (d1 dMkT (dCons (dC (.int 1)) dNil)) (dCons (d1 dFz (d1 dMkL (dCons (dC (.int 1)) dNil))) (dCons (d2 dBor (d2 dIx (dLv 5) (dVar 6)) (dVar 8)) (dCons (d2 dSub (d2 dIx (dLv 5) (dVar 6)) (d2 dBand (d2 dIx (dLv 5) (dVar 6)) (dVar 8))) dNil)))))))))))))
  (fSeq (fSet 10 (d2 dAdd (dVar 10) (d1 dFz (d1 dMkL (dCons (d2 dIx (dLv 9) (d2 dMod (d2 dFdiv (dVar 2) (dC (.int 1296))) (d1 bLenL (dLv 9)))) (dCons (d2 dIx (dLv 1) (d2 dMod (d2 dAdd (dVar 6) (dC (.int 1))) (d1 bLenL (dLv 5)))) dNil))))))
  (fSetItem 5 (dVar 6) (d2 dIx (dLv 10) (d2 dMod (d2 dFdiv (dVar 2) (dC (.int 18))) (dC (.int 12))))))))))) fNext)
  c__law_spoilt_8)
theorem e_c__law_spoilt_7 (ρ : En) : c__law_spoilt_7 ρ = fThen ((fIf (d1 dBl (d2 dGt (d1 bLenL (dLv 5)) (dC (.int 0)))) (fSeq (fSet 6 (d2 dMod (dVar 3) (d1 bLenL (dLv 5))))
  (fSeq (fSet 7 (d2 dMod (d2 dFdiv (dVar 2) (dC (.int 216))) (dC (.int 64))))
  (fSeq (fSet 8 (d2 dShl (dC (.int 1)) (d2 dMod (d2 dFdiv (dVar 2) (dC (.int 216))) (dC (.int 6)))))
  (fSeq (fSet 9 (d2 dAdd (d1 dFz (dLc [11] (d1 dIt (d2 dIx (dLv 0) (d2 dMod (d2 dAdd (dVar 6) (dC (.int 1))) (d1 bLenL (dLv 5))))) (gSet 11) dYes x__law_spoilt_1)) (d1 dFz (d1 dMkL (dCons (dVar 7) dNil)))))
  (fSeq (fSet 10 (d1 dFz (d1 dMkL (dCons (dVar 7) (dCons (d2 dSub (d1 dNeg (dC (.int 1))) (dVar 7)) (dCons (dC (.bl true)) (dCons (dC (.bl false)) (dCons (dC .non) (dCons (dC (.str (Str.ofString "1"))) (dCons (d1 dMkT (dCons (dC (.int 1)) dNil)) (dCons (d1 dFz (d1 dMkL (dCons (dC (.int 1)) dNil))) (dCons (d2 dBor (d2 dIx (dLv 5) (dVar 6)) (dVar 8)) (dCons (d2 dSub (d2 dIx (dLv 5) (dVar 6)) (d2 dBand (d2 dIx (dLv 5) (dVar 6)) (dVar 8))) dNil)))))))))))))
  (fSeq (fSet 10 (d2 dAdd (dVar 10) (d1 dFz (d1 dMkL (dCons (d2 dIx (dLv 9) (d2 dMod (d2 dFdiv (dVar 2) (dC (.int 1296))) (d1 bLenL (dLv 9)))) (dCons (d2 dIx (dLv 1) (d2 dMod (d2 dAdd (dVar 6) (dC (.int 1))) (d1 bLenL (dLv 5)))) dNil))))))
  (fSetItem 5 (dVar 6) (d2 dIx (dLv 10) (d2 dMod (d2 dFdiv (dVar 2) (dC (.int 18))) (dC (.int 12))))))))))) fNext) ρ) c__law_spoilt_8 := id rfl
noncomputable def c__law_spoilt_6 : En → Fl D := (fSeq (fSetN 5 (d1 bListL (dLv 1)))
  c__law_spoilt_7)
theorem e_c__law_spoilt_6 (ρ : En) : c__law_spoilt_6 ρ = fThen ((fSetN 5 (d1 bListL (dLv 1))) ρ) c__law_spoilt_7 := id rfl
noncomputable def c__law_spoilt_5 : En → Fl D := (fSeq (fIf (d1 dBl (d2 dEq (dVar 4) (dC (.int 12)))) (fRet (d2 dIx (d1 dOl (d1 dMkL (dCons (dC .non) (dCons (dC (.int 0)) (dCons (dC (.str (Str.ofString ""))) (dCons (d1 dFz dD0) (dCons (dC (.bl true)) dNil))))))) (d2 dMod (dVar 3) (dC (.int 5))))) fNext)
  c__law_spoilt_6)
theorem e_c__law_spoilt_5 (ρ : En) : c__law_spoilt_5 ρ = fThen ((fIf (d1 dBl (d2 dEq (dVar 4) (dC (.int 12)))) (fRet (d2 dIx (d1 dOl (d1 dMkL (dCons (dC .non) (dCons (dC (.int 0)) (dCons (dC (.str (Str.ofString ""))) (dCons (d1 dFz dD0) (dCons (dC (.bl true)) dNil))))))) (d2 dMod (dVar 3) (dC (.int 5))))) fNext) ρ) c__law_spoilt_6 := id rfl
noncomputable def c__law_spoilt_4 : En → Fl D := (fSeq (fIf (d1 dBl (d2 dEq (dVar 4) (dC (.int 11)))) (fRet (d1 bTupL (dLv 1))) fNext)
  c__law_spoilt_5)
theorem e_c__law_spoilt_4 (ρ : En) : c__law_spoilt_4 ρ = fThen ((fIf (d1 dBl (d2 dEq (dVar 4) (dC (.int 11)))) (fRet (d1 bTupL (dLv 1))) fNext) ρ) c__law_spoilt_5 := id rfl
noncomputable def c__law_spoilt_3 : En → Fl D := (fSeq (fIf (d1 dBl (d2 dEq (dVar 4) (dC (.int 10)))) (fRet (d1 dFz (dSl (dLv 1) (d1 dInt (dC (.int 1))) dNoPart))) fNext)
  c__law_spoilt_4)
theorem e_c__law_spoilt_3 (ρ : En) : c__law_spoilt_3 ρ = fThen ((fIf (d1 dBl (d2 dEq (dVar 4) (dC (.int 10)))) (fRet (d1 dFz (dSl (dLv 1) (d1 dInt (dC (.int 1))) dNoPart))) fNext) ρ) c__law_spoilt_4 := id rfl
noncomputable def c__law_spoilt_2 : En → Fl D := (fSeq (fIf (d1 dBl (d2 dEq (dVar 4) (dC (.int 9)))) (fRet (d2 dAdd (dVar 1) (d1 dFz (d1 dMkL (dCons (dC (.int 0)) dNil))))) fNext)
  c__law_spoilt_3)
theorem e_c__law_spoilt_2 (ρ : En) : c__law_spoilt_2 ρ = fThen ((fIf (d1 dBl (d2 dEq (dVar 4) (dC (.int 9)))) (fRet (d2 dAdd (dVar 1) (d1 dFz (d1 dMkL (dCons (dC (.int 0)) dNil))))) fNext) ρ) c__law_spoilt_3 := id rfl
noncomputable def c__law_spoilt_1 : En → Fl D := (fSeq (fIf (d1 dBl (d2 dLt (dVar 4) (dC (.int 9)))) (fRet (dVar 1)) fNext)
  c__law_spoilt_2)
theorem e_c__law_spoilt_1 (ρ : En) : c__law_spoilt_1 ρ = fThen ((fIf (d1 dBl (d2 dLt (dVar 4) (dC (.int 9)))) (fRet (dVar 1)) fNext) ρ) c__law_spoilt_2 := id rfl
noncomputable def b__law_spoilt : En → Fl D := (fSeq (fSet 4 (d2 dMod (dVar 2) (dC (.int 18))))
  c__law_spoilt_1)
theorem e_b__law_spoilt (ρ : En) : b__law_spoilt ρ = fThen ((fSet 4 (d2 dMod (dVar 2) (dC (.int 18)))) ρ) c__law_spoilt_1 := id rfl
noncomputable def m__law_spoilt : List D → R D := runV 12 b__law_spoilt
theorem e_m__law_spoilt (ds : List D) : m__law_spoilt ds = flV (b__law_spoilt (startE 12 ds)) := runV_ap _ _ _
noncomputable def b_apart : En → Fl D := (fRet (d2 dEq (d2 dBand (dVar 0) (dVar 1)) (dC (.int 0))))
theorem e_b_apart (ρ : En) : b_apart ρ = ((fRet (d2 dEq (d2 dBand (dVar 0) (dVar 1)) (dC (.int 0))))) ρ := id rfl
noncomputable def m_apart : List D → R D := runV 2 b_apart
theorem e_m_apart (ds : List D) : m_apart ds = flV (b_apart (startE 2 ds)) := runV_ap _ _ _
noncomputable def b_is_whole : En → Fl D := (fRet (dAndV (d1 (isK .int) (dVar 0)) (dNotV (d1 (isK .bool) (dVar 0)))))
theorem e_b_is_whole (ρ : En) : b_is_whole ρ = ((fRet (dAndV (d1 (isK .int) (dVar 0)) (dNotV (d1 (isK .bool) (dVar 0)))))) ρ := id rfl
noncomputable def m_is_whole : List D → R D := runV 1 b_is_whole
theorem e_m_is_whole (ds : List D) : m_is_whole ds = flV (b_is_whole (startE 1 ds)) := runV_ap _ _ _
noncomputable def x_is_plan_1 : En → Fl D := fWb [4, 5] (fSeq (fSet 5 (d2 dIx (dLv 2) (dVar 4)))
  (fSeq (fIf (dOr (dNot (d1 dBl (d1 m_is_whole (dCons (dVar 5) dNil)))) (d1 dBl (d2 dIsN (d1 m_amount_at (dCons (d2 dIx (dLv 1) (dVar 4)) (dCons (dVar 5) dNil))) (dC .non)))) (fRet (dC (.bl false))) fNext)
  (fSeq (fIf (dNot (d1 dBl (d1 m_apart (dCons (dVar 3) (dCons (dVar 5) dNil))))) (fRet (dC (.bl false))) fNext)
  (fSet 3 (d2 dBor (dVar 3) (dVar 5))))))
theorem e_x_is_plan_1 (ρ : En) : x_is_plan_1 ρ = (fWb [4, 5] (fSeq (fSet 5 (d2 dIx (dLv 2) (dVar 4)))
  (fSeq (fIf (dOr (dNot (d1 dBl (d1 m_is_whole (dCons (dVar 5) dNil)))) (d1 dBl (d2 dIsN (d1 m_amount_at (dCons (d2 dIx (dLv 1) (dVar 4)) (dCons (dVar 5) dNil))) (dC .non)))) (fRet (dC (.bl false))) fNext)
  (fSeq (fIf (dNot (d1 dBl (d1 m_apart (dCons (dVar 3) (dCons (dVar 5) dNil))))) (fRet (dC (.bl false))) fNext)
  (fSet 3 (d2 dBor (dVar 3) (dVar 5))))))) ρ := id rfl
noncomputable def c_is_plan_3 : En → Fl D := (fRet (d2 dLt (dVar 3) (d2 dShl (dC (.int 1)) (dVar 0))))
theorem e_c_is_plan_3 (ρ : En) : c_is_plan_3 ρ = ((fRet (d2 dLt (dVar 3) (d2 dShl (dC (.int 1)) (dVar 0))))) ρ := id rfl
noncomputable def c_is_plan_2 : En → Fl D := (fSeq (fFor [4, 5] (d1 dRng1 (dCons (d1 bLenL (dLv 2)) dNil)) (gSet 4) x_is_plan_1)
  c_is_plan_3)
theorem e_c_is_plan_2 (ρ : En) : c_is_plan_2 ρ = fThen ((fFor [4, 5] (d1 dRng1 (dCons (d1 bLenL (dLv 2)) dNil)) (gSet 4) x_is_plan_1) ρ) c_is_plan_3 := id rfl
noncomputable def c_is_plan_1 : En → Fl D := (fSeq (fSet 3 (dC (.int 0)))
  c_is_plan_2)
theorem e_c_is_plan_1 (ρ : En) : c_is_plan_1 ρ = fThen ((fSet 3 (dC (.int 0))) ρ) c_is_plan_2 := id rfl
noncomputable def b_is_plan : En → Fl D := (fSeq (fIf (dOr (dNot (d1 dBl (d1 (isK .list) (dVar 2)))) (d1 dBl (d2 dNe (d1 bLenL (dLv 2)) (d1 bLenL (dLv 1))))) (fRet (dC (.bl false))) fNext)
  c_is_plan_1)
theorem e_b_is_plan (ρ : En) : b_is_plan ρ = fThen ((fIf (dOr (dNot (d1 dBl (d1 (isK .list) (dVar 2)))) (d1 dBl (d2 dNe (d1 bLenL (dLv 2)) (d1 bLenL (dLv 1))))) (fRet (dC (.bl false))) fNext) ρ) c_is_plan_1 := id rfl
noncomputable def m_is_plan : List D → R D := runV 6 b_is_plan
theorem e_m_is_plan (ds : List D) : m_is_plan ds = flV (b_is_plan (startE 6 ds)) := runV_ap _ _ _
noncomputable def b__law_whole : En → Fl D := (fRet (dAndV (d1 (isK .int) (dVar 0)) (dNotV (d1 (isK .bool) (dVar 0)))))
theorem e_b__law_whole (ρ : En) : b__law_whole ρ = ((fRet (dAndV (d1 (isK .int) (dVar 0)) (dNotV (d1 (isK .bool) (dVar 0)))))) ρ := id rfl
noncomputable def m__law_whole : List D → R D := runV 1 b__law_whole
theorem e_m__law_whole (ds : List D) : m__law_whole ds = flV (b__law_whole (startE 1 ds)) := runV_ap _ _ _
noncomputable def x__law_is_plan_1 : En → R D := (d2 dIx (dLv 4) (dC (.int 0)))
theorem e_x__law_is_plan_1 (ρ : En) : x__law_is_plan_1 ρ = ((d2 dIx (dLv 4) (dC (.int 0)))) ρ := id rfl
noncomputable def x__law_is_plan_2 : En → Fl D := fWb [3] (fSeq (fIf (dOr (dNot (d1 dBl (d1 m__law_whole (dCons (d2 dIx (dLv 1) (dVar 3)) dNil)))) (dOr (d1 dBl (d2 dLt (d2 dIx (dLv 1) (dVar 3)) (dC (.int 0)))) (d1 dBl (d2 dGt (d2 dBand (dVar 2) (d2 dIx (dLv 1) (dVar 3))) (dC (.int 0)))))) (fRet (dC (.bl false))) fNext)
  (fSeq (fIf (d1 dBl (d2 dNotIn (d2 dIx (dLv 1) (dVar 3)) (d1 dSq (d2 dAdd (d1 dFz (d1 dMkL (dCons (dC (.int 0)) dNil))) (d1 dFz (dLc [4] (d1 dIt (d2 dIx (dLv 0) (dVar 3))) (gSet 4) dYes x__law_is_plan_1)))))) (fRet (dC (.bl false))) fNext)
  (fSet 2 (d2 dBor (dVar 2) (d2 dIx (dLv 1) (dVar 3))))))
theorem e_x__law_is_plan_2 (ρ : En) : x__law_is_plan_2 ρ = (fWb [3] (fSeq (fIf (dOr (dNot (d1 dBl (d1 m__law_whole (dCons (d2 dIx (dLv 1) (dVar 3)) dNil)))) (dOr (d1 dBl (d2 dLt (d2 dIx (dLv 1) (dVar 3)) (dC (.int 0)))) (d1 dBl (d2 dGt (d2 dBand (dVar 2) (d2 dIx (dLv 1) (dVar 3))) (dC (.int 0)))))) (fRet (dC (.bl false))) fNext)
  (fSeq (fIf (d1 dBl (d2 dNotIn (d2 dIx (dLv 1) (dVar 3)) (d1 dSq (d2 dAdd (d1 dFz (d1 dMkL (dCons (dC (.int 0)) dNil))) (d1 dFz (dLc [4] (d1 dIt (d2 dIx (dLv 0) (dVar 3))) (gSet 4) dYes x__law_is_plan_1)))))) (fRet (dC (.bl false))) fNext)
  (fSet 2 (d2 dBor (dVar 2) (d2 dIx (dLv 1) (dVar 3))))))) ρ := id rfl
noncomputable def c__law_is_plan_3 : En → Fl D := (fRet (dC (.bl true)))
theorem e_c__law_is_plan_3 (ρ : En) : c__law_is_plan_3 ρ = ((fRet (dC (.bl true)))) ρ := id rfl
noncomputable def c__law_is_plan_2 : En → Fl D := (fSeq (fFor [3] (d1 dRng1 (dCons (d1 bLenL (dLv 1)) dNil)) (gSet 3) x__law_is_plan_2)
  c__law_is_plan_3)
theorem e_c__law_is_plan_2 (ρ : En) : c__law_is_plan_2 ρ = fThen ((fFor [3] (d1 dRng1 (dCons (d1 bLenL (dLv 1)) dNil)) (gSet 3) x__law_is_plan_2) ρ) c__law_is_plan_3 := id rfl
noncomputable def c__law_is_plan_1 : En → Fl D := (fSeq (fSet 2 (dC (.int 0)))
  c__law_is_plan_2)
theorem e_c__law_is_plan_1 (ρ : En) : c__law_is_plan_1 ρ = fThen ((fSet 2 (dC (.int 0))) ρ) c__law_is_plan_2 := id rfl
noncomputable def b__law_is_plan : En → Fl D := (fSeq (fIf (dOr (dNot (d1 dBl (d1 (isK .list) (dVar 1)))) (d1 dBl (d2 dNe (d1 bLenL (dLv 1)) (d1 bLenL (dLv 0))))) (fRet (dC (.bl false))) fNext)
  c__law_is_plan_1)
theorem e_b__law_is_plan (ρ : En) : b__law_is_plan ρ = fThen ((fIf (dOr (dNot (d1 dBl (d1 (isK .list) (dVar 1)))) (d1 dBl (d2 dNe (d1 bLenL (dLv 1)) (d1 bLenL (dLv 0))))) (fRet (dC (.bl false))) fNext) ρ) c__law_is_plan_1 := id rfl
noncomputable def m__law_is_plan : List D → R D := runV 5 b__law_is_plan
theorem e_m__law_is_plan (ds : List D) : m__law_is_plan ds = flV (b__law_is_plan (startE 5 ds)) := runV_ap _ _ _
noncomputable def x_law_1 : En → Fl D := fWb [7, 14] (fSeq (fSet 14 (d1 dMkT (dCons (dC (.int 0)) (dCons (dC (.int 0)) dNil))))
  (fSeq (fIf (dAnd (d1 dBl (d2 dGt (d1 bLen (dCons (d2 dIx (dLv 2) (dVar 7)) dNil)) (dC (.int 0)))) (d1 dBl (d2 dGt (d2 dMod (d1 m__law_cell_at (dCons (dVar 0) (dCons (d2 dAdd (dC (.int 25)) (dVar 7)) dNil))) (dC (.int 5))) (dC (.int 0))))) (fSet 14 (d2 dIx (d1 dSq (d2 dIx (dLv 2) (dVar 7))) (d2 dMod (d2 dFdiv (d1 m__law_cell_at (dCons (dVar 0) (dCons (d2 dAdd (dC (.int 25)) (dVar 7)) dNil))) (dC (.int 5))) (d1 bLen (dCons (d2 dIx (dLv 2) (dVar 7)) dNil))))) fNext)
  (fSeq (fApp 4 (dX (d2 dIx (dLv 14) (dC (.int 0)))))
  (fSeq (fIf (d1 dBl (d2 dGt (d2 dBand (dVar 5) (d2 dIx (dLv 14) (dC (.int 0)))) (dC (.int 0)))) (fSet 14 (d1 dMkT (dCons (dC (.int 0)) (dCons (dC (.int 0)) dNil)))) fNext)
  (fSeq (fApp 3 (dX (d2 dIx (dLv 14) (dC (.int 0)))))
  (fSeq (fSet 5 (d2 dBor (dVar 5) (d2 dIx (dLv 14) (dC (.int 0)))))
  (fSet 6 (d2 dAdd (dVar 6) (d2 dIx (dLv 14) (dC (.int 1)))))))))))
theorem e_x_law_1 (ρ : En) : x_law_1 ρ = (fWb [7, 14] (fSeq (fSet 14 (d1 dMkT (dCons (dC (.int 0)) (dCons (dC (.int 0)) dNil))))
  (fSeq (fIf (dAnd (d1 dBl (d2 dGt (d1 bLen (dCons (d2 dIx (dLv 2) (dVar 7)) dNil)) (dC (.int 0)))) (d1 dBl (d2 dGt (d2 dMod (d1 m__law_cell_at (dCons (dVar 0) (dCons (d2 dAdd (dC (.int 25)) (dVar 7)) dNil))) (dC (.int 5))) (dC (.int 0))))) (fSet 14 (d2 dIx (d1 dSq (d2 dIx (dLv 2) (dVar 7))) (d2 dMod (d2 dFdiv (d1 m__law_cell_at (dCons (dVar 0) (dCons (d2 dAdd (dC (.int 25)) (dVar 7)) dNil))) (dC (.int 5))) (d1 bLen (dCons (d2 dIx (dLv 2) (dVar 7)) dNil))))) fNext)
  (fSeq (fApp 4 (dX (d2 dIx (dLv 14) (dC (.int 0)))))
  (fSeq (fIf (d1 dBl (d2 dGt (d2 dBand (dVar 5) (d2 dIx (dLv 14) (dC (.int 0)))) (dC (.int 0)))) (fSet 14 (d1 dMkT (dCons (dC (.int 0)) (dCons (dC (.int 0)) dNil)))) fNext)
  (fSeq (fApp 3 (dX (d2 dIx (dLv 14) (dC (.int 0)))))
  (fSeq (fSet 5 (d2 dBor (dVar 5) (d2 dIx (dLv 14) (dC (.int 0)))))
  (fSet 6 (d2 dAdd (dVar 6) (d2 dIx (dLv 14) (dC (.int 1)))))))))))) ρ := id rfl
noncomputable def c_law_15 : En → Fl D := (fRet (dAndV (d1 (isK .bool) (dVar 13)) (d2 dEq (dVar 13) (d1 m__law_is_plan (dCons (dVar 2) (dCons (dVar 11) dNil))))))
theorem e_c_law_15 (ρ : En) : c_law_15 ρ = ((fRet (dAndV (d1 (isK .bool) (dVar 13)) (d2 dEq (dVar 13) (d1 m__law_is_plan (dCons (dVar 2) (dCons (dVar 11) dNil))))))) ρ := id rfl
noncomputable def c_law_14 : En → Fl D := (fSeq (fIf (dOr (d1 dBl (d2 dNe (dVar 8) (dVar 2))) (d1 dBl (d2 dNe (d1 bRep (dCons (dVar 11) dNil)) (dVar 12)))) (fRet (dC (.bl false))) fNext)
  c_law_15)
theorem e_c_law_14 (ρ : En) : c_law_14 ρ = fThen ((fIf (dOr (d1 dBl (d2 dNe (dVar 8) (dVar 2))) (d1 dBl (d2 dNe (d1 bRep (dCons (dVar 11) dNil)) (dVar 12)))) (fRet (dC (.bl false))) fNext) ρ) c_law_15 := id rfl
noncomputable def c_law_13 : En → Fl D := (fSeq (fSet 13 (d1 m_is_plan (dCons (dVar 1) (dCons (dVar 8) (dCons (dVar 11) dNil)))))
  c_law_14)
theorem e_c_law_13 (ρ : En) : c_law_13 ρ = fThen ((fSet 13 (d1 m_is_plan (dCons (dVar 1) (dCons (dVar 8) (dCons (dVar 11) dNil))))) ρ) c_law_14 := id rfl
noncomputable def c_law_12 : En → Fl D := (fSeq (fSet 12 (d1 bRep (dCons (dVar 11) dNil)))
  c_law_13)
theorem e_c_law_12 (ρ : En) : c_law_12 ρ = fThen ((fSet 12 (d1 bRep (dCons (dVar 11) dNil))) ρ) c_law_13 := id rfl
noncomputable def c_law_11 : En → Fl D := (fSeq (fFrz 4 (fSet 11 (d1 m__law_spoilt (dCons (dVar 2) (dCons (dVar 4) (dCons (d1 m__law_cell_at (dCons (dVar 0) (dCons (dC (.int 2)) dNil))) (dCons (d1 m__law_cell_at (dCons (dVar 0) (dCons (dC (.int 3)) dNil))) dNil)))))))
  c_law_12)
theorem e_c_law_11 (ρ : En) : c_law_11 ρ = fThen ((fFrz 4 (fSet 11 (d1 m__law_spoilt (dCons (dVar 2) (dCons (dVar 4) (dCons (d1 m__law_cell_at (dCons (dVar 0) (dCons (dC (.int 2)) dNil))) (dCons (d1 m__law_cell_at (dCons (dVar 0) (dCons (dC (.int 3)) dNil))) dNil))))))) ρ) c_law_12 := id rfl
noncomputable def c_law_10 : En → Fl D := (fSeq (fFrz 3 (fIf (dOr (dNot (d1 dBl (d1 m__law_whole (dCons (dVar 10) dNil)))) (dOr (d1 dBl (d2 dNe (dVar 10) (dVar 6))) (dOr (d1 dBl (d2 dNotB (d1 m_is_plan (dCons (dVar 1) (dCons (dVar 8) (dCons (dVar 9) dNil)))) (dC (.bl true)))) (d1 dBl (d2 dNe (dVar 9) (dVar 3)))))) (fRet (dC (.bl false))) fNext))
  c_law_11)
theorem e_c_law_10 (ρ : En) : c_law_10 ρ = fThen ((fFrz 3 (fIf (dOr (dNot (d1 dBl (d1 m__law_whole (dCons (dVar 10) dNil)))) (dOr (d1 dBl (d2 dNe (dVar 10) (dVar 6))) (dOr (d1 dBl (d2 dNotB (d1 m_is_plan (dCons (dVar 1) (dCons (dVar 8) (dCons (dVar 9) dNil)))) (dC (.bl true)))) (d1 dBl (d2 dNe (dVar 9) (dVar 3)))))) (fRet (dC (.bl false))) fNext)) ρ) c_law_11 := id rfl
noncomputable def c_law_9 : En → Fl D := (fSeq (fSet 10 (d1 m_plan_worth (dCons (dVar 8) (dCons (dVar 9) dNil))))
  c_law_10)
theorem e_c_law_9 (ρ : En) : c_law_9 ρ = fThen ((fSet 10 (d1 m_plan_worth (dCons (dVar 8) (dCons (dVar 9) dNil)))) ρ) c_law_10 := id rfl
noncomputable def c_law_8 : En → Fl D := (fSeq (fSet 9 (d1 dFz (d1 bListL (dLv 3))))
  c_law_9)
theorem e_c_law_8 (ρ : En) : c_law_8 ρ = fThen ((fSet 9 (d1 dFz (d1 bListL (dLv 3)))) ρ) c_law_9 := id rfl
noncomputable def c_law_7 : En → Fl D := (fSeq (fSet 8 (d1 dFz (d1 m__law_copies (dCons (dVar 2) dNil))))
  c_law_8)
theorem e_c_law_7 (ρ : En) : c_law_7 ρ = fThen ((fSet 8 (d1 dFz (d1 m__law_copies (dCons (dVar 2) dNil)))) ρ) c_law_8 := id rfl
noncomputable def c_law_6 : En → Fl D := (fSeq (fFor [7, 14] (d1 dRng1 (dCons (d1 bLenL (dLv 2)) dNil)) (gSet 7) x_law_1)
  c_law_7)
theorem e_c_law_6 (ρ : En) : c_law_6 ρ = fThen ((fFor [7, 14] (d1 dRng1 (dCons (d1 bLenL (dLv 2)) dNil)) (gSet 7) x_law_1) ρ) c_law_7 := id rfl
noncomputable def c_law_5 : En → Fl D := (fSeq (fSet 6 (dC (.int 0)))
  c_law_6)
theorem e_c_law_5 (ρ : En) : c_law_5 ρ = fThen ((fSet 6 (dC (.int 0))) ρ) c_law_6 := id rfl
noncomputable def c_law_4 : En → Fl D := (fSeq (fSet 5 (dC (.int 0)))
  c_law_5)
theorem e_c_law_4 (ρ : En) : c_law_4 ρ = fThen ((fSet 5 (dC (.int 0))) ρ) c_law_5 := id rfl
noncomputable def c_law_3 : En → Fl D := (fSeq (fSetN 4 (d1 dMkL dNil))
  c_law_4)
theorem e_c_law_3 (ρ : En) : c_law_3 ρ = fThen ((fSetN 4 (d1 dMkL dNil)) ρ) c_law_4 := id rfl
noncomputable def c_law_2 : En → Fl D := (fSeq (fSetN 3 (d1 dMkL dNil))
  c_law_3)
theorem e_c_law_2 (ρ : En) : c_law_2 ρ = fThen ((fSetN 3 (d1 dMkL dNil)) ρ) c_law_3 := id rfl
noncomputable def c_law_1 : En → Fl D := (fSeq (fSet 2 (d1 dFz (d1 m__law_offers (dCons (dVar 0) (dCons (dC (.int 4)) (dCons (dVar 1) (dCons (d2 dMod (d1 m__law_cell_at (dCons (dVar 0) (dCons (dC (.int 1)) dNil))) (dC (.int 5))) (dCons (dC (.int 4)) dNil))))))))
  c_law_2)
theorem e_c_law_1 (ρ : En) : c_law_1 ρ = fThen ((fSet 2 (d1 dFz (d1 m__law_offers (dCons (dVar 0) (dCons (dC (.int 4)) (dCons (dVar 1) (dCons (d2 dMod (d1 m__law_cell_at (dCons (dVar 0) (dCons (dC (.int 1)) dNil))) (dC (.int 5))) (dCons (dC (.int 4)) dNil)))))))) ρ) c_law_2 := id rfl
noncomputable def b_law : En → Fl D := (fSeq (fSet 1 (d2 dMod (d1 m__law_cell_at (dCons (dVar 0) (dCons (dC (.int 0)) dNil))) (dC (.int 5))))
  c_law_1)
theorem e_b_law (ρ : En) : b_law ρ = fThen ((fSet 1 (d2 dMod (d1 m__law_cell_at (dCons (dVar 0) (dCons (dC (.int 0)) dNil))) (dC (.int 5)))) ρ) c_law_1 := id rfl
noncomputable def m_law : List D → R D := runV 15 b_law
theorem e_m_law (ds : List D) : m_law ds = flV (b_law (startE 15 ds)) := runV_ap _ _ _
end
end Lw
namespace Lw
open PySem L2 UP PyProof.Rows
theorem cell_at (ns : List Int) (k : Nat) : m__law_cell_at [.lst (ns.map .int), .int (k : Nat)] = .ok (.int (ns[k]?.getD 0)) := by
  by_cases h : k < ns.length
  · simp [e_m__law_cell_at, e_b__law_cell_at, atI_nat', h]
  · simp [e_m__law_cell_at, e_b__law_cell_at, atI_nat', h]
theorem emod_nat (c : Int) (b : Nat) (h : 0 < b) : ∃ k : Nat, c % (b : Int) = (k : Int) ∧ k < b := by
  have h1 := Int.emod_nonneg c (b := (b : Int)) (by omega)
  have h2 := Int.emod_lt_of_pos c (b := (b : Int)) (by omega)
  exact ⟨(c % (b : Int)).toNat, by omega, by omega⟩
noncomputable abbrev Of := Nat × Int
noncomputable abbrev dO (p : Of) : D := .tup [.int p.1, .int p.2]
noncomputable abbrev dL (L : List Of) : D := .lst (L.map dO)
theorem atl2 (p q : D) : atI [p, q] 0 = some p ∧ atI [p, q] 1 = some q := ⟨atI_nat' [p, q] 0, atI_nat' [p, q] 1⟩
theorem atl3 (p q r : D) : atI [p, q, r] 0 = some p ∧ atI [p, q, r] 1 = some q ∧ atI [p, q, r] 2 = some r := ⟨atI_nat' [p, q, r] 0, atI_nat' [p, q, r] 1, atI_nat' [p, q, r] 2⟩
theorem atl4 (p q r s : D) : atI [p, q, r, s] 0 = some p ∧ atI [p, q, r, s] 1 = some q ∧ atI [p, q, r, s] 2 = some r ∧ atI [p, q, r, s] 3 = some s := ⟨atI_nat' [p, q, r, s] 0, atI_nat' [p, q, r, s] 1, atI_nat' [p, q, r, s] 2, atI_nat' [p, q, r, s] 3⟩
noncomputable def okScale (s : Int × Int × Int) : Prop := 0 ≤ s.1 ∧ s.1 < 4 ∧ 1 ≤ s.2.1 ∧ s.2.1 ≤ 40000000000 ∧ 1 ≤ s.2.2 ∧ s.2.2 ≤ 10000000000
noncomputable abbrev dS (s : Int × Int × Int) : D := .tup [.int s.1, .int s.2.1, .int s.2.2]
theorem scale_is (c : Int) : ∃ s, m__law_scale [.int c] = .ok (dS s) ∧ okScale s := by
  obtain ⟨i, hi, li⟩ := emod_nat (c / 4) 3 (by decide)
  obtain ⟨j, hj, lj⟩ := emod_nat (c / 12) 4 (by decide)
  have e3 : ((3 : Nat) : Int) = 3 := rfl
  have e4 : ((4 : Nat) : Int) = 4 := rfl
  rw [e3] at hi
  rw [e4] at hj
  have h0 : 0 ≤ c % 4 ∧ c % 4 < 4 := by omega
  have q1 : i = 0 ∨ i = 1 ∨ i = 2 := by omega
  have q2 : j = 0 ∨ j = 1 ∨ j = 2 ∨ j = 3 := by omega
  rcases q1 with q1 | q1 | q1 <;> rcases q2 with q2 | q2 | q2 | q2 <;> subst q1 <;> subst q2 <;>
    exact ⟨(_, _, _), by simp [e_m__law_scale, e_b__law_scale, hi, hj, SZ, atI_nat', atl3, atl4]; exact ⟨rfl, rfl, rfl⟩, by unfold okScale; simp; omega⟩
/-- how many goods a bundle holds -/
noncomputable def bitsL (m b : Nat) : List Int := (List.range m).map fun k => ((b / 2 ^ k % 2 : Nat) : Int)
noncomputable def bits (m b : Nat) : Int := (bitsL m b).sum
theorem bits_ok : ((List.range 7).all fun m => (List.range (2 ^ m)).all fun b => decide (b = 0 ∨ (1 ≤ bits m b ∧ bits m b ≤ 6))) = true := by decide +kernel
theorem bits_is {m b : Nat} (hm : m ≤ 6) (hb : 0 < b) (h2 : b < 2 ^ m) : 1 ≤ bits m b ∧ bits m b ≤ 6 := by
  have := List.all_eq_true.mp (List.all_eq_true.mp bits_ok m (List.mem_range.mpr (by omega))) b (List.mem_range.mpr h2)
  rcases of_decide_eq_true this with h | h
  · omega
  · exact h
theorem band_bit (g k : Nat) : Builtin.bitAnd ((g : Int) / 2 ^ k) 1 = ((g / 2 ^ k % 2 : Nat) : Int) := by
  have e1 : (g : Int) / 2 ^ k = ((g / 2 ^ k : Nat) : Int) := by rw [Int.natCast_ediv]; simp
  rw [e1]
  have := band_nat (g / 2 ^ k) 1
  rw [Nat.and_one_is_mod] at this
  exact this
noncomputable def okO (m : Nat) (p : Of) : Prop := 0 < p.1 ∧ p.1 < 2 ^ m ∧ 0 < p.2 ∧ p.2 < 10000000000000
theorem pow_le_64 {m : Nat} (hm : m ≤ 6) : 2 ^ m ≤ 64 := Nat.pow_le_pow_right (by decide) hm
theorem offer_bits (ρ : En) (m b : Nat) (h6 : m ≤ 6) (hl : ρ.length = 9) (h1 : ρ[1]? = some (.val (.int (m : Nat)))) (h4 : ρ[4]? = some (.val (.int (b : Nat)))) :
    dLc [8] (d1 dRng1 (dCons (dVar 1) dNil)) (gSet 8) dYes x__law_offer_by_1 ρ = .ok (.lst ((bitsL m b).map .int)) := by
  unfold bitsL
  rw [List.map_map]
  refine dLc_all (fun k : Nat => .int (k : Nat)) (fun j => .int ((b / 2 ^ j % 2 : Nat) : Int)) (List.range m) (by
    have : m < 4611686018427387904 := by omega
    simp [h1, this]) (sz_nat (by simp; omega)) fun j hj => ⟨_, rfl, ?_⟩
  simp only [e_x__law_offer_by_1, d2_ap, dVar_ap, wipeE_cons, wipeE_nil, dC_ap]
  have e1 : ((ρ.set 8 .un).set 8 (.val (.int (j : Nat))))[8]? = some (.val (.int (j : Nat))) := by simp [hl]
  have e2 : ((ρ.set 8 .un).set 8 (.val (.int (j : Nat))))[4]? = some (.val (.int (b : Nat))) := by simp [h4]
  simp only [e1, e2, R.bind_ok, dShr_nat]
  show R.ok (D.int (Builtin.bitAnd ((b : Int) / 2 ^ j) 1)) = _
  rw [band_bit]
theorem offer_by (c : Int) (m : Nat) (s : Int × Int × Int) (h0 : 0 < m) (h6 : m ≤ 6) (hs : okScale s) : ∃ p, m__law_offer_by [.int c, .int (m : Nat), dS s] = .ok (dO p) ∧ okO m p := by
  have h64 := pow_le_64 h6
  have h2 : 2 ≤ 2 ^ m := by
    have := Nat.pow_le_pow_right (n := 2) (by decide) h0
    simpa using this
  obtain ⟨t, ht⟩ : ∃ t : Nat, t = 2 ^ m - 1 := ⟨_, rfl⟩
  have htm : 2 ^ m = t + 1 := by omega
  have etop : (2 : Int) ^ m - 1 = (t : Int) := by
    have : ((2 ^ m : Nat) : Int) = (2 : Int) ^ m := by simp
    omega
  obtain ⟨k, hk, lk⟩ := emod_nat c t (by omega)
  obtain ⟨b, hbk⟩ : ∃ b : Nat, b = k + 1 := ⟨_, rfl⟩
  have ebk : (k : Int) + 1 = (b : Nat) := by omega
  have hsm : Sm 64 (t : Int) := Sm.of 64 (by omega) (by decide)
  have d1' := fmodS (i := c) (j := (t : Int)) (by omega)
  have d2' := fdivS (i := c) (j := (t : Int)) (by omega) hsm (by decide) (by decide)
  rw [hk] at d1'
  obtain ⟨rest, hr⟩ : ∃ r, r = c / (t : Int) := ⟨_, rfl⟩
  rw [← hr] at d2'
  have hb := bits_is (m := m) (b := b) h6 (by omega) (by omega)
  have hsum := offer_bits [.val (.int c), .val (.int (m : Nat)), .val (dS s), .val (.int (t : Nat)), .val (.int (b : Nat)), .val (.int rest), .un, .un, .un] m b h6 rfl rfl rfl
  have esum : bSum (true, (bitsL m b).map D.int) = .ok (.int (bits m b)) := by
    simp only [bSum, dInts_map, bits, if_true]
  generalize hB : bits m b = B at *
  obtain ⟨s0, s1, s2⟩ := s
  obtain ⟨g1, g2, g3, g4, g5, g6⟩ := hs
  simp only at g1 g2 g3 g4 g5 g6
  have sB : Sm 4 (B - 1) := Sm.of 6 (by omega) (by decide)
  have ss0 : Sm 4 s0 := Sm.of 4 (by omega) (by decide)
  have m1 := mulS ss0 sB (by decide) (by decide) (by decide)
  have hmul : 0 ≤ s0 * (B - 1) ∧ s0 * (B - 1) ≤ 3 * 5 := ⟨Int.mul_nonneg g1 (by omega), Int.mul_le_mul (by omega) (by omega) (by omega) (by omega)⟩
  generalize hsz : s0 * (B - 1) = w at *
  have hsize : 1 ≤ rest % 6 + 1 + w ∧ rest % 6 + 1 + w ≤ 21 := by omega
  generalize hz : rest % 6 + 1 + w = z at hsize
  have sz : Sm 6 z := Sm.of 21 (by omega) (by decide)
  have ss1 : Sm 40 s1 := Sm.of 40000000000 (by omega) (by decide)
  have m2 := mulS sz ss1 (by decide) (by decide) (by decide)
  have hmul2 : 1 * 1 ≤ z * s1 ∧ z * s1 ≤ 21 * 40000000000 := ⟨Int.mul_le_mul (by omega) (by omega) (by omega) (by omega), Int.mul_le_mul (by omega) (by omega) (by omega) (by omega)⟩
  have m3 := fmodS (i := rest / 6 * 48271) (j := s2) (by omega)
  have hm3 : 0 ≤ rest / 6 * 48271 % s2 ∧ rest / 6 * 48271 % s2 < s2 := ⟨Int.emod_nonneg _ (by omega), Int.emod_lt_of_pos _ (by omega)⟩
  refine ⟨(b, z * s1 + rest / 6 * 48271 % s2), ?_, by simp only; omega, by simp only; omega, by simp only; omega, by simp only; omega⟩
  have hle : m ≤ 1000000 := by omega
  simp only [dS] at hsum
  simp [e_m__law_offer_by, e_b__law_offer_by, e_c__law_offer_by_1, e_c__law_offer_by_2, e_c__law_offer_by_3, e_c__law_offer_by_4, e_c__law_offer_by_5, hle, etop, d1', d2', ebk, hsum, dS, esum, atl3, m1, hz, m2, m3, SZ]
theorem inF_ints (i : Int) : ∀ l : List Int, inF (.int i) (l.map .int) = decide (i ∈ l)
  | [] => rfl
  | a :: l => by
    have ih := inF_ints i l
    unfold inF at ih ⊢
    rw [List.map_cons, List.any_cons, ih]
    show ((a == i) || _) = _
    by_cases h : a = i
    · subst h; simp
    · have h' : ¬ i = a := fun z => h z.symm
      simp [h, h']
theorem flat_ints : ∀ l : List Int, (l.map D.int).all flatD = true
  | [] => rfl
  | a :: l => by rw [List.map_cons, List.all_cons, flat_ints l]; rfl
theorem notIn_ints (i : Int) (l : List Int) : dNotIn (.int i) (true, l.map .int) = .ok (.bl (!decide (i ∈ l))) := by
  have h : flatD (.int i) = true ∧ (l.map D.int).all flatD = true := ⟨rfl, flat_ints l⟩
  unfold dNotIn dInB
  rw [if_pos h, inF_ints]
  rfl
structure GL (m : Nat) (l : List Of) : Prop where
  ok : ∀ p ∈ l, okO m p
  nd : (l.map (·.1)).Nodup
theorem listed_loop (m : Nat) (s : Int × Int × Int) (h0 : 0 < m) (h6 : m ≤ 6) (hs : okScale s) : ∀ (cs : List Int) (l : List Of), GL m l → l.length + cs.length ≤ 1000 →
    ∃ l', fLoop (gSet 4) x__law_listed_2 (cs.map .int) [.un, .val (.int (m : Nat)), .val (dS s), .own (.lst (l.map dO)), .un, .un, .un] = .nx [.un, .val (.int (m : Nat)), .val (dS s), .own (.lst (l'.map dO)), .un, .un, .un] ∧ GL m l' ∧ l'.length ≤ l.length + cs.length
  | [], l, g, _ => ⟨l, rfl, g, by simp⟩
  | c :: cs, l, g, hl => by
    rw [List.length_cons] at hl
    obtain ⟨p, hp, op⟩ := offer_by c m s h0 h6 hs
    have hlc := dLc_all (ρ := [.un, .val (.int (m : Nat)), .val (dS s), .own (.lst (l.map dO)), .val (.int c), .val (dO p), .un]) (vs := [6]) (mi := d1 (fun q => .ok q.2) (dLv 3)) (gm := gSet 6) (em := x__law_listed_1) dO (fun q : Of => .int (q.1 : Int)) l
      rfl (sz_nat (by omega)) (fun q hq => ⟨_, rfl, by simp [e_x__law_listed_1, atl2]⟩)
    have hm : l.map (fun q : Of => D.int (q.1 : Int)) = (l.map fun q => (q.1 : Int)).map D.int := by rw [List.map_map]; rfl
    rw [hm] at hlc
    have hni := notIn_ints (p.1 : Int) (l.map fun q => (q.1 : Int))
    have hmem : ((p.1 : Int) ∈ l.map fun q : Of => (q.1 : Int)) ↔ p.1 ∈ l.map (·.1) := by
      rw [List.mem_map, List.mem_map]
      exact ⟨fun ⟨q, h1, h2⟩ => ⟨q, h1, by omega⟩, fun ⟨q, h1, h2⟩ => ⟨q, h1, by omega⟩⟩
    have hsz : l.length < SZ := lt_SZ (by omega)
    have hstep : x__law_listed_2 [.un, .val (.int (m : Nat)), .val (dS s), .own (.lst (l.map dO)), .val (.int c), .un, .un] = .nx [.un, .val (.int (m : Nat)), .val (dS s), .own (.lst ((if p.1 ∈ l.map (·.1) then l else l ++ [p]).map dO)), .un, .un, .un] := by
      simp only [e_x__law_listed_2, fWb_ap, fSeq_ap, fSet_ap, d1_ap, dCons_ap, dVar_ap, dNil_ap]
      by_cases h : p.1 ∈ l.map (·.1)
      · have hni' : dNotIn (.int (p.1 : Int)) (true, (l.map fun q : Of => (q.1 : Int)).map .int) = .ok (.bl false) := by
          rw [hni, decide_eq_true (hmem.mpr h)]; rfl
        rw [if_pos h]
        simp [hp, hlc, atl2, hni', -List.map_map]
      · have hni' : dNotIn (.int (p.1 : Int)) (true, (l.map fun q : Of => (q.1 : Int)).map .int) = .ok (.bl true) := by
          rw [hni, decide_eq_false (fun z => h (hmem.mp z))]; rfl
        rw [if_neg h]
        simp [hp, hlc, atl2, hni', -List.map_map, hsz]
    have g' : GL m (if p.1 ∈ l.map (·.1) then l else l ++ [p]) := by
      by_cases h : p.1 ∈ l.map (·.1)
      · rw [if_pos h]; exact g
      · rw [if_neg h]
        refine ⟨fun q hq => ?_, ?_⟩
        · rcases List.mem_append.mp hq with hq | hq
          · exact g.ok q hq
          · rw [List.mem_singleton.mp hq]; exact op
        · rw [List.map_append]
          refine List.nodup_append.mpr ⟨g.nd, by simp, fun a ha b hb => ?_⟩
          have : b = p.1 := by simpa using hb
          subst this
          exact fun z => h (z ▸ ha)
    have hl' : (if p.1 ∈ l.map (·.1) then l else l ++ [p]).length ≤ l.length + 1 := by split <;> simp
    obtain ⟨l', k1, k2, k3⟩ := listed_loop m s h0 h6 hs cs _ g' (by omega)
    refine ⟨l', ?_, k2, by rw [List.length_cons]; omega⟩
    rw [List.map_cons, fLoop_cons]
    show fAft (x__law_listed_2 [.un, .val (.int (m : Nat)), .val (dS s), .own (.lst (l.map dO)), .val (.int c), .un, .un]) _ = _
    rw [hstep, fAft_nx, k1]
/-- a good list: its bundles grow -/
structure GS (m : Nat) (l : List Of) : Prop where
  ok : ∀ p ∈ l, okO m p
  sd : l.Pairwise fun p q => p.1 < q.1
theorem sort_of {m : Nat} {l : List Of} (g : GL m l) : ∃ l', bSortP (true, l.map dO) = .ok (.lst (l'.map dO)) ∧ GS m l' ∧ l'.length = l.length := by
  have e : l.map dO = (l.map fun p : Of => ((p.1 : Int), p.2)).map dPair := by rw [List.map_map]; rfl
  generalize hs : sortP (l.map fun p : Of => ((p.1 : Int), p.2)) = S
  have pm : S.Perm (l.map fun p : Of => ((p.1 : Int), p.2)) := hs ▸ sortP_perm _
  have so : S.Pairwise fun x y => ple x y = true := hs ▸ sortP_sorted _
  have hq : ∀ q ∈ S, ∃ p ∈ l, q = ((p.1 : Int), p.2) := fun q hq => by
    obtain ⟨p, h1, h2⟩ := List.mem_map.mp (pm.mem_iff.mp hq)
    exact ⟨p, h1, h2.symm⟩
  have e2 : (S.map fun q => (q.1.toNat, q.2)).map dO = S.map dPair := by
    rw [List.map_map]
    refine List.map_congr_left fun q h => ?_
    obtain ⟨p, _, rfl⟩ := hq q h
    simp
  have nd : (S.map (·.1)).Nodup := by
    have := (pm.map (·.1)).nodup_iff
    rw [this, List.map_map]
    have h2 : ((fun x : Int × Int => x.1) ∘ fun p : Of => ((p.1 : Int), p.2)) = (fun n : Nat => (n : Int)) ∘ (·.1) := rfl
    rw [h2, ← List.map_map]
    unfold List.Nodup
    rw [List.pairwise_map]
    refine List.Pairwise.imp (fun {a b} h z => h ?_) g.nd
    omega
  refine ⟨S.map fun q => (q.1.toNat, q.2), ?_, ⟨fun p hp => ?_, ?_⟩, ?_⟩
  · unfold bSortP
    simp only [if_true, e, dPairs_map, hs, e2]
  · obtain ⟨q, h1, rfl⟩ := List.mem_map.mp hp
    obtain ⟨p, h2, rfl⟩ := hq q h1
    simpa using g.ok p h2
  · rw [List.pairwise_map]
    unfold List.Nodup at nd
    rw [List.pairwise_map] at nd
    refine List.Pairwise.imp_of_mem (fun {a b} ha hb h => ?_) (so.and nd)
    obtain ⟨p, _, rfl⟩ := hq a ha
    obtain ⟨p', _, rfl⟩ := hq b hb
    obtain ⟨h1, h2⟩ := h
    rw [ple_iff] at h1
    simp only at h1 h2 ⊢
    omega
  · rw [List.length_map]
    have := pm.length_eq
    simpa using this
theorem listed_is (m : Nat) (s : Int × Int × Int) (h0 : 0 < m) (h6 : m ≤ 6) (hs : okScale s) (cs : List Int) (hc : cs.length ≤ 1000) : ∃ l, m__law_listed [.lst (cs.map .int), .int (m : Nat), dS s] = .ok (dL l) ∧ GS m l ∧ l.length ≤ cs.length := by
  obtain ⟨l, h1, h2, h3⟩ := listed_loop m s h0 h6 hs cs [] ⟨(fun p h => by cases h), by simp⟩ (by simpa using hc)
  obtain ⟨l', h4, h5, h6⟩ := sort_of h2
  refine ⟨l', ?_, h5, by rw [h6]; simpa using h3⟩
  simp at h1
  simp [e_m__law_listed, e_b__law_listed, SZ, h1, h4]
theorem listed_none (m : D) (s : D) : m__law_listed [.lst [], m, s] = .ok (dL []) := by
  have : bSortP (true, []) = .ok (.lst []) := rfl
  simp [e_m__law_listed, e_b__law_listed, SZ, this, fLoop_nil]
structure GO (m c : Nat) (os : List (List Of)) : Prop where
  ok : ∀ L ∈ os, GS m L
  ln : ∀ L ∈ os, L.length ≤ c
theorem offers_is (ns : List Int) (at_ m n c : Nat) (h6 : m ≤ 6) (hn : n ≤ 6) (hc : c ≤ 20) (ha : at_ ≤ 1000) :
    ∃ os, m__law_offers [.lst (ns.map .int), .int (at_ : Nat), .int (m : Nat), .int (n : Nat), .int (c : Nat)] = .ok (.lst (os.map dL)) ∧ os.length = n ∧ GO m c os := by
  obtain ⟨s, hs, os_⟩ := scale_is (ns[at_]?.getD 0)
  have c0 := cell_at ns at_
  obtain ⟨ρ', hl, os, rfl, h1, h2⟩ := fLoop_rng (mg := gSet 7) (mb := x__law_offers_2) (fun i ρ => ∃ os, ρ = [.val (.lst (ns.map .int)), .val (.int (at_ : Nat)), .val (.int (m : Nat)), .un, .val (.int (c : Nat)), .val (dS s), .own (.lst (os.map dL)), .un, .un, .un, .un] ∧ os.length = i ∧ GO m c os)
    n [.val (.lst (ns.map .int)), .val (.int (at_ : Nat)), .val (.int (m : Nat)), .un, .val (.int (c : Nat)), .val (dS s), .own (.lst []), .un, .un, .un, .un] ⟨[], rfl, rfl, (fun L h => by cases h), (fun L h => by cases h)⟩
    (by
      rintro i ρ hi ⟨os, rfl, h1, g⟩
      obtain ⟨pl, hpl⟩ : ∃ pl : Nat, pl = at_ + 1 + (c + 1) * i := ⟨_, rfl⟩
      have s1 : Sm 10 ((c : Int) + 1) := Sm.of 21 (by omega) (by decide)
      have s2 : Sm 10 (i : Int) := Sm.of 6 (by omega) (by decide)
      have m1 := mulS s1 s2 (by decide) (by decide) (by decide)
      have epl : (at_ : Int) + 1 + ((c : Int) + 1) * (i : Int) = (pl : Nat) := by rw [hpl]; simp
      have c1 := cell_at ns pl
      obtain ⟨w, hw, lw⟩ := emod_nat (ns[pl]?.getD 0) (c + 1) (by omega)
      have ec : ((c + 1 : Nat) : Int) = (c : Int) + 1 := by omega
      rw [ec] at hw
      have d1' := fmodS (i := ns[pl]?.getD 0) (j := (c : Int) + 1) (by omega)
      rw [hw] at d1'
      have hlc := dLc_all (ρ := [.val (.lst (ns.map .int)), .val (.int (at_ : Nat)), .val (.int (m : Nat)), .un, .val (.int (c : Nat)), .val (dS s), .own (.lst (os.map dL)), .val (.int (i : Nat)), .val (.int (pl : Nat)), .un, .un]) (vs := [10])
        (mi := (d1 dRng1 (dCons (d2 dMod (d1 m__law_cell_at (dCons (dVar 0) (dCons (dVar 8) dNil))) (d2 dAdd (dVar 4) (dC (.int 1)))) dNil))) (gm := gSet 10) (em := x__law_offers_1) (fun k : Nat => .int (k : Nat)) (fun k => D.int (ns[pl + 1 + k]?.getD 0)) (List.range w)
        (by have : w < 4611686018427387904 := by omega
            simp [c1, d1', this]) (sz_nat (by simp; omega)) (fun k hk => by
          have := cell_at ns (pl + 1 + k)
          have e : ((pl + 1 + k : Nat) : Int) = (pl : Int) + 1 + (k : Int) := by omega
          rw [e] at this
          exact ⟨_, rfl, by simp [e_x__law_offers_1, this]⟩)
      obtain ⟨cs, hcs⟩ : ∃ cs : List Int, cs = (List.range w).map fun k => ns[pl + 1 + k]?.getD 0 := ⟨_, rfl⟩
      have ecs : (List.range w).map (fun k => D.int (ns[pl + 1 + k]?.getD 0)) = cs.map D.int := by rw [hcs, List.map_map]; rfl
      rw [ecs] at hlc
      have lcs : cs.length = w := by rw [hcs]; simp
      obtain ⟨L, hL, gL, lL⟩ : ∃ L, m__law_listed [if (m : Int) = 0 then .lst [] else .lst (cs.map .int), .int (m : Nat), dS s] = .ok (dL L) ∧ GS m L ∧ L.length ≤ c := by
        by_cases h0 : m = 0
        · subst h0
          exact ⟨[], by rw [if_pos (by rfl)]; exact listed_none _ _, ⟨(fun p h => by cases h), .nil⟩, by simp⟩
        · obtain ⟨L, h1, h2, h3⟩ := listed_is m s (by omega) h6 os_ cs (by omega)
          exact ⟨L, by rw [if_neg (by omega)]; exact h1, h2, by omega⟩
      refine ⟨_, [.val (.lst (ns.map .int)), .val (.int (at_ : Nat)), .val (.int (m : Nat)), .un, .val (.int (c : Nat)), .val (dS s), .own (.lst ((os ++ [L]).map dL)), .un, .un, .un, .un], rfl, .inl ?_, os ++ [L], rfl, by simp [h1], ⟨fun L' h => ?_, fun L' h => ?_⟩⟩
      · have hsz : os.length < SZ := lt_SZ (by omega)
        simp only [dS] at hlc hL ⊢
        by_cases h0 : m = 0
        · subst h0
          simp at hL hlc
          simp [e_x__law_offers_2, m1, epl, hlc, hL, hsz]
        · have h0' : ¬ (m : Int) = 0 := by omega
          rw [if_neg h0'] at hL
          simp [e_x__law_offers_2, m1, epl, hlc, h0, hL, hsz]
      · rcases List.mem_append.mp h with h | h
        · exact g.ok _ h
        · rw [List.mem_singleton.mp h]; exact gL
      · rcases List.mem_append.mp h with h | h
        · exact g.ln _ h
        · rw [List.mem_singleton.mp h]; exact lL)
  refine ⟨os, ?_, h1, h2⟩
  have hr : n < 4611686018427387904 := by omega
  simp only [dRange_eq] at hl
  simp at hl
  simp [e_m__law_offers, e_b__law_offers, e_c__law_offers_1, e_c__law_offers_2, e_c__law_offers_3, c0, hs, SZ, hr, hl]
noncomputable def am (L : List Of) (i : Int) : Option Int := if i = 0 then some 0 else (L.find? fun p => decide ((p.1 : Int) = i)).map (·.2)
theorem find_loop {α : Type} {mb : En → Fl α} (i : Int) (ρ ρr : En) (r : Int → α) : ∀ (L : List Of), (∀ p ∈ L, ∃ ρ1, gSet 2 (dO p) ρ = .ok ρ1 ∧ mb ρ1 = if (p.1 : Int) = i then .rt (r p.2) ρr else .nx ρ) →
    fLoop (gSet 2) mb (L.map dO) ρ = match (L.find? fun p => decide ((p.1 : Int) = i)).map (·.2) with
      | some a => .rt (r a) ρr
      | none => .nx ρ
  | [], _ => rfl
  | p :: L, h => by
    obtain ⟨ρ1, h1, h2⟩ := h p (by simp)
    have ih := find_loop i ρ ρr r L (fun q hq => h q (by simp [hq]))
    rw [List.map_cons, fLoop_cons, h1, fG_ok, h2, List.find?_cons]
    by_cases q : (p.1 : Int) = i
    · rw [if_pos q, decide_eq_true q]; rfl
    · rw [if_neg q, decide_eq_false q]; exact ih
noncomputable def amD (o : Option Int) : D := match o with
  | some a => .int a
  | none => .non
theorem amount_at_is (L : List Of) (i : Int) : m_amount_at [dL L, .int i] = .ok (amD (am L i)) := by
  by_cases h0 : i = 0
  · subst h0
    simp [e_m_amount_at, e_b_amount_at, am, amD]
  · have hl := find_loop (α := D) (mb := x_amount_at_1) i [.un, .val (.int i), .un] [.un, .un, .un] D.int L (fun p hp => by
      refine ⟨_, rfl, ?_⟩
      by_cases q : (p.1 : Int) = i
      · rw [if_pos q]; simp [e_x_amount_at_1, atl2, q]
      · rw [if_neg q]; simp [e_x_amount_at_1, atl2, q])
    unfold am
    rw [if_neg h0]
    cases e : (L.find? fun p => decide ((p.1 : Int) = i)).map (·.2) with
    | none => rw [e] at hl; simp [e_m_amount_at, e_b_amount_at, h0, hl, amD]
    | some a => rw [e] at hl; simp [e_m_amount_at, e_b_amount_at, h0, hl, amD]
theorem apart_is (f b : Nat) : m_apart [.int (f : Nat), .int (b : Nat)] = .ok (.bl (decide (f &&& b = 0))) := by
  have := band_nat f b
  have e : ((f &&& b : Nat) : Int) = 0 ↔ f &&& b = 0 := by omega
  simp only [e_m_apart, e_b_apart, startE_ap, fRet_ap, d2_ap, dVar_ap, dC_ap]
  show flV (fOf (R.ok (D.bl (decide (Builtin.bitAnd (f : Int) (b : Int) = 0)))) _ _) = _
  rw [this]
  simp only [fOf_ok, flV_rt, e]
theorem nth {α : Type} (pre suf : List α) (x : α) : (pre ++ x :: suf)[pre.length]? = some x := by simp
theorem rng_is (n : Nat) (h : n ≤ 1000) : dRng1 [.int (n : Nat)] = .ok ((List.range' 0 n).map fun (k : Nat) => D.int (k : Nat)) := by
  have : n < 4611686018427387904 := by omega
  rw [← List.range_eq_range']
  simp [this]
theorem is_whole_int (n : Int) : m_is_whole [.int n] = .ok (.bl true) := by simp [e_m_is_whole, e_b_is_whole]
theorem law_whole_int (n : Int) : m__law_whole [.int n] = .ok (.bl true) := by simp [e_m__law_whole, e_b__law_whole]
noncomputable abbrev dOs (os : List (List Of)) : D := .lst (os.map dL)
theorem mem_am {m : Nat} : ∀ {L : List Of}, GS m L → ∀ {p : Of}, p ∈ L → am L (p.1 : Int) = some p.2
  | [], _, _, h => by cases h
  | q :: L, g, p, h => by
    have p0 : ¬ ((p.1 : Int) = 0) := by have := (g.ok p h).1; omega
    have sd := List.pairwise_cons.mp g.sd
    unfold am
    rw [if_neg p0, List.find?_cons]
    rcases List.mem_cons.mp h with rfl | h'
    · rw [decide_eq_true rfl]; rfl
    · have hlt := sd.1 p h'
      rw [decide_eq_false (by omega)]
      have ih := mem_am (L := L) ⟨fun r hr => g.ok r (by simp [hr]), sd.2⟩ h'
      unfold am at ih
      rw [if_neg p0] at ih
      exact ih
theorem am_of {m : Nat} {L : List Of} (g : GS m L) {i a : Int} (h : am L i = some a) : ∃ b : Nat, i = (b : Int) ∧ b < 2 ^ m ∧ 0 ≤ a ∧ a < 10000000000000 ∧ (b = 0 ∨ b ∈ L.map (·.1)) := by
  unfold am at h
  split at h
  · rename_i h0
    cases h
    exact ⟨0, h0, Nat.two_pow_pos m, Int.le_refl _, by decide, .inl rfl⟩
  · cases e : (L.find? fun p => decide ((p.1 : Int) = i)) with
    | none => rw [e] at h; cases h
    | some p =>
      rw [e] at h
      cases h
      have h1 := List.find?_some e
      have h2 := List.mem_of_find?_eq_some e
      simp only [decide_eq_true_eq] at h1
      obtain ⟨k1, k2, k3, k4⟩ := g.ok p h2
      exact ⟨p.1, h1.symm, k2, Int.le_of_lt k3, k4, .inr (List.mem_map_of_mem h2)⟩
theorem am_none {m : Nat} {L : List Of} (g : GS m L) {i : Int} (h : am L i = none) : ¬ i ∈ (0 : Int) :: L.map fun p => ((p.1 : Nat) : Int) := fun hm => by
  rcases List.mem_cons.mp hm with rfl | hm
  · unfold am at h; rw [if_pos rfl] at h; cases h
  · obtain ⟨p, hp, rfl⟩ := List.mem_map.mp hm
    rw [mem_am g hp] at h; cases h
noncomputable def El (x : D) : Prop := (∃ i : Int, x = .int i ∧ -1000 ≤ i ∧ i ≤ 1000) ∨ (∃ b, x = .bl b) ∨ x = .non ∨ x = .str (Str.ofString "1") ∨ x = .tup [.int 1] ∨ x = .lst [.int 1]
noncomputable def scan : List (List Of) → List D → Nat → Option Nat
  | L :: os, x :: xs, t => match x with
    | .int i => match am L i with
      | some _ => if t &&& i.toNat = 0 then scan os xs (t ||| i.toNat) else none
      | none => none
    | _ => none
  | _, _, t => some t
theorem plan_loop {m : Nat} (A : List (List Of)) (B : List D) : ∀ (suf : List D) (sufO : List (List Of)) (pre : List D) (preO : List (List Of)) (t : Nat), A = preO ++ sufO → B = pre ++ suf → pre.length = preO.length → suf.length = sufO.length → (∀ L ∈ sufO, GS m L ∧ L.length ≤ 20) → (∀ x ∈ suf, El x) →
    fLoop (α := D) (gSet 4) x_is_plan_1 ((List.range' pre.length suf.length).map fun (k : Nat) => D.int (k : Nat)) [.val (.int (m : Nat)), .val (.lst (A.map dL)), .val (.lst B), .val (.int (t : Nat)), .un, .un] = (match scan sufO suf t with
      | some t' => .nx [.val (.int (m : Nat)), .val (.lst (A.map dL)), .val (.lst B), .val (.int (t' : Nat)), .un, .un]
      | none => .rt (.bl false) [.un, .un, .un, .un, .un, .un]) ∧
    fLoop (α := D) (gSet 3) x__law_is_plan_2 ((List.range' pre.length suf.length).map fun (k : Nat) => D.int (k : Nat)) [.val (.lst (A.map dL)), .val (.lst B), .val (.int (t : Nat)), .un, .un] = (match scan sufO suf t with
      | some t' => .nx [.val (.lst (A.map dL)), .val (.lst B), .val (.int (t' : Nat)), .un, .un]
      | none => .rt (.bl false) [.un, .un, .un, .un, .un])
  | [], [], pre, preO, t, _, _, _, _, _, _ => ⟨rfl, rfl⟩
  | [], _ :: _, _, _, _, _, _, _, h, _, _ => by simp at h
  | _ :: _, [], _, _, _, _, _, _, h, _, _ => by simp at h
  | x :: suf, L :: sufO, pre, preO, t, hA, hB, hp, hl, hg, ht => by
    have ih := fun t' => plan_loop (m := m) A B suf sufO (pre ++ [x]) (preO ++ [L]) t' (by rw [hA]; simp) (by rw [hB]; simp) (by simp [hp]) (by simpa using hl) (fun K hK => hg K (by simp [hK])) (fun y hy => ht y (by simp [hy]))
    obtain ⟨gL, lL⟩ := hg L (by simp)
    have aB : atI B (pre.length : Nat) = some x := by rw [atI_nat', hB, nth]
    have aA : atI (A.map dL) (pre.length : Nat) = some (dL L) := by rw [atI_nat', List.getElem?_map, hA, hp, nth]; rfl
    rw [List.length_append, List.length_singleton] at ih
    rw [List.length_cons, List.range'_succ, List.map_cons, fLoop_cons, fLoop_cons]
    have keys : dLc [4] (d1 dIt (d2 dIx (dLv 0) (dVar 3))) (gSet 4) dYes x__law_is_plan_1 [.val (.lst (A.map dL)), .val (.lst B), .val (.int (t : Nat)), .val (.int (pre.length : Nat)), .un] = .ok (.lst (L.map fun p => D.int (p.1 : Nat))) :=
      dLc_all dO (fun p => D.int (p.1 : Nat)) L (by
        show (d1 dIt (d2 dIx (dLv 0) (dVar 3))) [.val (.lst (A.map dL)), .val (.lst B), .val (.int (t : Nat)), .val (.int (pre.length : Nat)), .un] = _
        generalize A.map dL = AA at *
        simp [aA]) (sz_nat (by omega)) fun p _ => ⟨_, rfl, by simp [e_x__law_is_plan_1, wipeE, atl2]⟩
    by_cases hx : ∃ i : Int, x = .int i
    · obtain ⟨i, rfl⟩ := hx
      have h1 := amount_at_is L i
      have es : scan (L :: sufO) (.int i :: suf) t = match am L i with
        | some _ => if t &&& i.toNat = 0 then scan sufO suf (t ||| i.toNat) else none
        | none => none := rfl
      have ek : (L.map fun p => D.int (p.1 : Nat)) = (L.map fun p => ((p.1 : Nat) : Int)).map D.int := by rw [List.map_map]; rfl
      have hni := notIn_ints i (0 :: L.map fun p => ((p.1 : Nat) : Int))
      rw [List.map_cons, ← ek] at hni
      have lk : 1 + (L.map fun p => D.int (p.1 : Nat)).length ≤ 16777216 := by rw [List.length_map]; omega
      rw [es]
      cases e : am L i with
      | none =>
        rw [e] at h1
        have hno := am_none gL e
        rw [decide_eq_false hno, Bool.not_false] at hni
        have hN : dIsN .non .non = .ok (.bl true) := by rfl
        simp only [amD] at h1
        generalize A.map dL = AA at *
        generalize (L.map fun p => D.int (p.1 : Nat)) = KK at *
        constructor
        · simp [e_x_is_plan_1, aB, aA, is_whole_int, h1, hN]
        · by_cases q0 : i < 0
          · simp [e_x__law_is_plan_2, aB, aA, law_whole_int, q0]
          · obtain ⟨b, rfl⟩ := Int.eq_ofNat_of_zero_le (by omega : 0 ≤ i)
            have hb := band_nat t b
            by_cases q1 : t &&& b = 0
            · simp [e_x__law_is_plan_2, aB, aA, law_whole_int, hb, q1, keys, hni, lk, SZ]
            · have hpos : 0 < t &&& b := Nat.pos_of_ne_zero q1
              simp [e_x__law_is_plan_2, aB, aA, law_whole_int, hb, hpos]
      | some a =>
        rw [e] at h1
        obtain ⟨b, rfl, lb, a0, _, hm⟩ := am_of gL e
        have hin : ((b : Nat) : Int) ∈ (0 : Int) :: L.map fun p => ((p.1 : Nat) : Int) := by
          rcases hm with rfl | hm
          · exact List.mem_cons_self ..
          · obtain ⟨p, hp, rfl⟩ := List.mem_map.mp hm
            exact List.mem_cons_of_mem _ (List.mem_map_of_mem (f := fun p : Of => ((p.1 : Nat) : Int)) hp)
        rw [decide_eq_true hin, Bool.not_true] at hni
        have hN : dIsN (.int a) .non = .ok (.bl false) := by rfl
        have hap := apart_is t b
        have hb := band_nat t b
        have hbo := bor_nat t b
        have et : ((b : Nat) : Int).toNat = b := Int.toNat_natCast b
        have hb0 : ¬ ((b : Nat) : Int) < 0 := by omega
        simp only [amD] at h1
        simp only [et]
        by_cases q : t &&& b = 0
        · obtain ⟨i1, i2⟩ := ih (t ||| b)
          rw [decide_eq_true q] at hap
          simp only [q, if_true]
          generalize A.map dL = AA at *
          generalize (L.map fun p => D.int (p.1 : Nat)) = KK at *
          constructor
          · rw [← i1]; simp [e_x_is_plan_1, aB, aA, is_whole_int, h1, hN, hap, hbo]
          · rw [← i2]; simp [e_x__law_is_plan_2, aB, aA, law_whole_int, hb0, hb, q, keys, hni, lk, hbo, SZ]
        · rw [decide_eq_false q] at hap
          have hpos : 0 < t &&& b := Nat.pos_of_ne_zero q
          simp only [q, if_false]
          generalize A.map dL = AA at *
          generalize (L.map fun p => D.int (p.1 : Nat)) = KK at *
          constructor
          · simp [e_x_is_plan_1, aB, aA, is_whole_int, h1, hN, hap]
          · simp [e_x__law_is_plan_2, aB, aA, law_whole_int, hb, hpos]
    · have es : scan (L :: sufO) (x :: suf) t = none := by
        cases x with
        | int i => exact absurd ⟨i, rfl⟩ hx
        | _ => rfl
      have ww : m_is_whole [x] = .ok (.bl false) ∧ m__law_whole [x] = .ok (.bl false) := by
        rcases ht x (by simp) with ⟨i, rfl, _⟩ | ⟨b, rfl⟩ | rfl | rfl | rfl | rfl
        · exact absurd ⟨i, rfl⟩ hx
        all_goals constructor <;> simp [e_m_is_whole, e_b_is_whole, e_m__law_whole, e_b__law_whole]
      obtain ⟨w1, w2⟩ := ww
      rw [es]
      generalize A.map dL = AA at *
      constructor
      · simp [e_x_is_plan_1, aB, aA, w1]
      · simp [e_x__law_is_plan_2, aB, aA, w2]
theorem scan_lt {m : Nat} : ∀ (os : List (List Of)) (xs : List D) (t t' : Nat), (∀ L ∈ os, GS m L) → t < 2 ^ m → scan os xs t = some t' → t' < 2 ^ m
  | [], xs, t, t', _, ht, h => by
    have h : some t = some t' := by cases xs <;> exact h
    cases h; exact ht
  | L :: os, [], t, t', _, ht, h => by
    have h : some t = some t' := h
    cases h; exact ht
  | L :: os, x :: xs, t, t', hg, ht, h => by
    cases x with
    | int i =>
      have h : (match am L i with
        | some _ => if t &&& i.toNat = 0 then scan os xs (t ||| i.toNat) else none
        | none => none) = some t' := h
      cases e : am L i with
      | none => rw [e] at h; cases h
      | some a =>
        rw [e] at h
        obtain ⟨b, rfl, lb, _⟩ := am_of (hg L (by simp)) e
        have et : ((b : Nat) : Int).toNat = b := Int.toNat_natCast b
        simp only [et] at h
        split at h
        · exact scan_lt os xs (t ||| b) t' (fun K hK => hg K (by simp [hK])) (Nat.or_lt_two_pow ht lb) h
        · cases h
    | _ => cases h
theorem plan_is {m : Nat} (hm : m ≤ 6) (os : List (List Of)) (hg : ∀ L ∈ os, GS m L ∧ L.length ≤ 20) (ho : os.length ≤ 1000) (xs : List D) (ht : ∀ x ∈ xs, El x) :
    m_is_plan [.int (m : Nat), dOs os, .lst xs] = .ok (.bl (decide (xs.length = os.length) && (scan os xs 0).isSome)) ∧ m__law_is_plan [dOs os, .lst xs] = .ok (.bl (decide (xs.length = os.length) && (scan os xs 0).isSome)) := by
  have hli : isK .list (.lst xs) = .ok (.bl true) := rfl
  by_cases hl : xs.length = os.length
  · obtain ⟨h1, h2⟩ := plan_loop (m := m) os xs xs os [] [] 0 rfl rfl rfl hl hg ht
    have hr := rng_is xs.length (by omega)
    have e0 : ([] : List D).length = 0 := rfl
    have n0 : ((0 : Nat) : Int) = 0 := rfl
    have lo : (os.map dL).length = os.length := List.length_map ..
    rw [e0, n0] at h1 h2
    rw [hl] at hr h1 h2
    rw [decide_eq_true hl, Bool.true_and]
    have sh := dShl_one m (by omega)
    have hlt : ∀ t', scan os xs 0 = some t' → (((t' : Nat) : Int) < 2 ^ m) := fun t' e => by
      have := scan_lt os xs 0 t' (fun L hL => (hg L hL).1) (Nat.two_pow_pos m) e
      have e2 : ((2 ^ m : Nat) : Int) = (2 : Int) ^ m := by simp
      omega
    simp only [dOs]
    generalize os.map dL = OO at *
    cases e : scan os xs 0 with
    | none =>
      rw [e] at h1 h2
      simp only at h1 h2
      constructor
      · simp [-dRng1_nat, e_m_is_plan, e_b_is_plan, e_c_is_plan_1, e_c_is_plan_2, e_c_is_plan_3, hli, hl, lo, hr, h1]
      · simp [-dRng1_nat, e_m__law_is_plan, e_b__law_is_plan, e_c__law_is_plan_1, e_c__law_is_plan_2, e_c__law_is_plan_3, hli, hl, lo, hr, h2]
    | some t' =>
      have q := hlt t' e
      rw [e] at h1 h2
      simp only at h1 h2
      constructor
      · simp [-dRng1_nat, e_m_is_plan, e_b_is_plan, e_c_is_plan_1, e_c_is_plan_2, e_c_is_plan_3, hli, hl, lo, hr, h1, sh, q]
      · simp [-dRng1_nat, e_m__law_is_plan, e_b__law_is_plan, e_c__law_is_plan_1, e_c__law_is_plan_2, e_c__law_is_plan_3, hli, hl, lo, hr, h2]
  · have hli2 : ¬ ((xs.length : Nat) : Int) = ((os.length : Nat) : Int) := by omega
    have lo : (os.map dL).length = os.length := List.length_map ..
    rw [decide_eq_false hl, Bool.false_and]
    simp only [dOs]
    generalize os.map dL = OO at *
    constructor
    · simp [e_m_is_plan, e_b_is_plan, hli, hl, lo, hli2]
    · simp [e_m__law_is_plan, e_b__law_is_plan, hli, hl, lo, hli2]
theorem plan_no {m : Nat} (os : List (List Of)) (x : D) (h : isK .list x = .ok (.bl false)) : m_is_plan [.int (m : Nat), dOs os, x] = .ok (.bl false) ∧ m__law_is_plan [dOs os, x] = .ok (.bl false) := by
  constructor
  · simp [e_m_is_plan, e_b_is_plan, h]
  · simp [e_m__law_is_plan, e_b__law_is_plan, h]
theorem from_le : ∀ (ts : List Str) (k : Nat) (acc : Str), (textFrom k acc ts).length ≤ acc.length + (ts.map fun t => t.length + 2).sum
  | [], k, acc => by show acc.length ≤ acc.length + 0; omega
  | t :: r, k, acc => by
    have ih := from_le r (k + 1) (acc ++ (if k > 0 then ", " else "" : String) ++ t)
    have e : (acc ++ (if k > 0 then ", " else "" : String) ++ t).length ≤ acc.length + 2 + t.length := by
      rw [strLen_append, strLen_append]
      have : (Str.ofString (if k > 0 then ", " else "")).length ≤ 2 := by split <;> decide
      omega
    rw [List.map_cons, List.sum_cons]
    have ih : (textFrom k acc (t :: r)).length ≤ _ := ih
    omega
structure Sh (y : PyData) : Prop where
  sh : y.showable = true
  nd : y.hasDict = false
  dp : y.depth ≤ 1
  ln : y.shown.length ≤ 10
theorem int_len : ((List.range 2001).all fun k => decide ((PyData.shown (.int ((k : Int) - 1000))).length ≤ 10)) = true := by
  simp only [PyData.shown]
  decide +kernel
theorem sh_int {i : Int} (h : -1000 ≤ i ∧ i ≤ 1000) : Sh (.int i) := by
  refine ⟨?_, by simp [PyData.hasDict], by simp [PyData.depth], ?_⟩
  · have : i.natAbs.log2 < 1920 := Nat.lt_of_le_of_lt (Nat.log2_le_self _) (by omega)
    simp [PyData.showable, this]
  · have := List.all_eq_true.mp int_len (i + 1000).toNat (List.mem_range.mpr (by omega))
    have e : (((i + 1000).toNat : Nat) : Int) - 1000 = i := by omega
    rw [e] at this
    exact of_decide_eq_true this
theorem el_py {x : D} (h : El x) : ∃ y, toPy x = some y ∧ Sh y := by
  rcases h with ⟨i, rfl, h1, h2⟩ | ⟨b, rfl⟩ | rfl | rfl | rfl | rfl
  · exact ⟨.int i, by unfold toPy; rfl, sh_int ⟨h1, h2⟩⟩
  · exact ⟨.bool b, by unfold toPy; rfl, by simp [PyData.showable], by simp [PyData.hasDict], by simp [PyData.depth], by cases b <;> simp only [PyData.shown] <;> decide +kernel⟩
  · exact ⟨.none, by unfold toPy; rfl, by simp [PyData.showable], by simp [PyData.hasDict], by simp [PyData.depth], by simp only [PyData.shown]; decide +kernel⟩
  · exact ⟨.str _, by unfold toPy; rfl, by simp [PyData.showable], by simp [PyData.hasDict], by simp [PyData.depth], by simp only [PyData.shown]; decide +kernel⟩
  · exact ⟨.tuple [.int 1], by unfold toPy toPys toPys toPy; rfl, by simp [PyData.showable, PyData.showableAll]; decide, by simp [PyData.hasDict, PyData.hasDictAll], by simp [PyData.depth, PyData.depthAll], by simp only [PyData.shown, PyData.shownAll]; decide +kernel⟩
  · exact ⟨.list [.int 1], by unfold toPy toPys toPys toPy; rfl, by simp [PyData.showable, PyData.showableAll]; decide, by simp [PyData.hasDict, PyData.hasDictAll], by simp [PyData.depth, PyData.depthAll], by simp only [PyData.shown, PyData.shownAll]; decide +kernel⟩
theorem els_py : ∀ {xs : List D}, (∀ x ∈ xs, El x) → ∃ ys, toPys xs = some ys ∧ PyData.showableAll ys = true ∧ PyData.hasDictAll ys = false ∧ PyData.depthAll ys ≤ 1 ∧ ((PyData.shownAll ys).map fun t => t.length + 2).sum ≤ 12 * xs.length
  | [], _ => ⟨[], by unfold toPys; rfl, by simp [PyData.showableAll], by simp [PyData.hasDictAll], by simp [PyData.depthAll], by simp [PyData.shownAll]⟩
  | x :: xs, h => by
    obtain ⟨y, e, s⟩ := el_py (h x (by simp))
    obtain ⟨ys, f1, f2, f3, f4, f5⟩ := els_py (xs := xs) fun z hz => h z (by simp [hz])
    refine ⟨y :: ys, by unfold toPys; rw [e, f1], by simp [PyData.showableAll, s.sh, f2], by simp [PyData.hasDictAll, s.nd, f3], ?_, ?_⟩
    · have := s.dp
      unfold PyData.depthAll; omega
    · have := s.ln
      unfold PyData.shownAll
      rw [List.map_cons, List.sum_cons, List.length_cons]; omega
noncomputable def Odd (x : D) : Prop := (∃ xs, x = .lst xs ∧ xs.length ≤ 20 ∧ ∀ e ∈ xs, El e) ∨ (∃ xs, x = .tup xs ∧ xs.length ≤ 20 ∧ ∀ e ∈ xs, El e) ∨ x = .non ∨ x = .int 0 ∨ x = .str (Str.ofString "") ∨ x = .dk [] [] ∨ x = .bl true
theorem rep_of {d : D} {y : PyData} (hk : ∀ ks xs, d ≠ .dk ks xs) (e : toPy d = some y) (h1 : y.showable = true) (h2 : y.hasDict = false) (h3 : y.depth ≤ 20) (h4 : y.shown.length ≤ SZ) : bRep [d] = .ok (.str y.shown) := by
  unfold bRep
  split
  · rename_i ks xs hz
    cases hz
    exact absurd rfl (hk _ _)
  · rename_i d' _ hz
    cases hz
    rw [e]
    show (if _ then _ else _) = _
    rw [if_pos ⟨h1, h2, h3, h4⟩]
  · rename_i hz
    exact absurd rfl (hz d)
theorem rep_ok {x : D} (h : Odd x) : ∃ s, bRep [x] = .ok (.str s) := by
  rcases h with ⟨xs, rfl, hl, he⟩ | ⟨xs, rfl, hl, he⟩ | rfl | rfl | rfl | rfl | rfl
  · obtain ⟨ys, f1, f2, f3, f4, f5⟩ := els_py he
    refine ⟨_, rep_of (y := .list ys) (fun _ _ z => by cases z) (by unfold toPy; rw [f1]; rfl) (by simp [PyData.showable, f2]) (by simp [PyData.hasDict, f3]) (by unfold PyData.depth; omega) ?_⟩
    have := from_le (PyData.shownAll ys) 0 "["
    simp only [PyData.shown, listText]
    rw [strLen_append]
    have e1 : (Str.ofString "]").length = 1 := by decide
    have e2 : (Str.ofString "[").length = 1 := by decide
    have : SZ = 16777216 := rfl
    omega
  · obtain ⟨ys, f1, f2, f3, f4, f5⟩ := els_py he
    refine ⟨_, rep_of (y := .tuple ys) (fun _ _ z => by cases z) (by unfold toPy; rw [f1]; rfl) (by simp [PyData.showable, f2]) (by simp [PyData.hasDict, f3]) (by unfold PyData.depth; omega) ?_⟩
    have hj : (Str.join ", " (PyData.shownAll ys)).length ≤ ((PyData.shownAll ys).map fun t => t.length + 2).sum := by
      by_cases hn : PyData.shownAll ys = []
      · rw [hn]; exact Nat.le_of_eq rfl
      · have := join_length_add _ hn
        unfold piled at this
        omega
    simp only [PyData.shown, tupleText]
    rw [strLen_append, strLen_append]
    have e1 : (Str.ofString (if (PyData.shownAll ys).length == 1 then ",)" else ")")).length ≤ 2 := by split <;> decide
    have e2 : (Str.ofString "(").length = 1 := by decide
    have : SZ = 16777216 := rfl
    omega
  · exact ⟨_, rep_of (y := .none) (fun _ _ z => by cases z) (by unfold toPy; rfl) (by simp [PyData.showable]) (by simp [PyData.hasDict]) (by simp [PyData.depth]) (by simp only [PyData.shown]; decide +kernel)⟩
  · exact ⟨_, rep_of (y := .int 0) (fun _ _ z => by cases z) (by unfold toPy; rfl) (by simp [PyData.showable]) (by simp [PyData.hasDict]) (by simp [PyData.depth]) (by simp only [PyData.shown]; decide +kernel)⟩
  · exact ⟨_, rep_of (y := .str _) (fun _ _ z => by cases z) (by unfold toPy; rfl) (by simp [PyData.showable]) (by simp [PyData.hasDict]) (by simp [PyData.depth]) (by simp only [PyData.shown]; decide +kernel)⟩
  · exact ⟨_, by unfold bRep; exact if_pos ⟨rfl, rfl⟩⟩
  · exact ⟨_, rep_of (y := .bool true) (fun _ _ z => by cases z) (by unfold toPy; rfl) (by simp [PyData.showable]) (by simp [PyData.hasDict]) (by simp [PyData.depth]) (by simp only [PyData.shown]; decide +kernel)⟩
noncomputable abbrev dNs (ls : List Nat) : List D := ls.map fun b => D.int (b : Nat)
theorem el_nat {b : Nat} (h : b ≤ 1000) : El (.int (b : Nat)) := .inl ⟨_, rfl, by omega, by omega⟩
theorem el_ns {ls : List Nat} (h : ∀ b ∈ ls, b ≤ 63) : ∀ x ∈ dNs ls, El x := fun x hx => by
  obtain ⟨b, hb, rfl⟩ := List.mem_map.mp hx
  exact el_nat (by have := h b hb; omega)
theorem cut1 (xs : List D) : UP.cutD xs (some 1) none = xs.drop 1 := by
  cases xs with
  | nil => rfl
  | cons x xs =>
    have e := HT.sIx_nat (x :: xs).length 0 1
    have e1 : ((1 : Nat) : Int) = 1 := rfl
    rw [e1] at e
    unfold UP.cutD
    rw [HT.sIx_none, e]
    have : min 1 (x :: xs).length = 1 := by rw [List.length_cons]; omega
    rw [this]
    simp
theorem at_ns {ls : List Nat} {k : Nat} (h : k < ls.length) : atI (dNs ls) (k : Nat) = some (.int (ls[k] : Nat)) := by
  rw [atI_nat', List.getElem?_map, List.getElem?_eq_getElem h]; rfl
theorem odd_at (xs : List D) (k : Nat) (hk : k < xs.length) : ∃ x ∈ xs, atI xs (k : Nat) = some x := ⟨xs[k], List.getElem_mem hk, by rw [atI_nat', List.getElem?_eq_getElem hk]⟩
theorem spoilt_is {m : Nat} (hm : m ≤ 6) (os : List (List Of)) (hg : ∀ L ∈ os, GS m L ∧ L.length ≤ 20) (ls : List Nat) (hl : ls.length = os.length) (h4 : os.length ≤ 6) (hb : ∀ b ∈ ls, b ≤ 63) (c p : Int) :
    ∃ x, m__law_spoilt [dOs os, .lst (dNs ls), .int c, .int p] = .ok x ∧ Odd x := by
  have lp : (dNs ls).length = ls.length := List.length_map ..
  have el := el_ns hb
  have l0 : (dNs ls).length ≤ 16777215 := by omega
  have l1 : (dNs ls).length ≤ 16777216 := by omega
  obtain ⟨w, hw, lw⟩ := emod_nat c 18 (by decide)
  have e18 : ((18 : Nat) : Int) = 18 := rfl
  rw [e18] at hw
  by_cases w1 : w < 9
  · refine ⟨.lst (dNs ls), ?_, .inl ⟨_, rfl, by omega, el⟩⟩
    have : ((w : Nat) : Int) < 9 := by omega
    simp only [dOs]
    generalize dNs ls = P at *
    generalize os.map dL = OO at *
    simp [e_m__law_spoilt, e_b__law_spoilt, e_c__law_spoilt_1, hw, this]
  have w1 : ¬ ((w : Nat) : Int) < 9 := by omega
  by_cases w2 : w = 9
  · subst w2
    refine ⟨.lst (dNs ls ++ [.int 0]), ?_, .inl ⟨_, rfl, by simp; omega, fun x hx => ?_⟩⟩
    · simp only [dOs]
      generalize dNs ls = P at *
      generalize os.map dL = OO at *
      simp [e_m__law_spoilt, e_b__law_spoilt, e_c__law_spoilt_1, e_c__law_spoilt_2, hw, l0, SZ]
    · rcases List.mem_append.mp hx with z | z
      · exact el x z
      · rw [List.mem_singleton.mp z]; exact .inl ⟨0, rfl, by decide, by decide⟩
  have w2 : ¬ ((w : Nat) : Int) = 9 := by omega
  by_cases w3 : w = 10
  · subst w3
    have hc := cut1 (dNs ls)
    refine ⟨.lst ((dNs ls).drop 1), ?_, .inl ⟨_, rfl, by rw [List.length_drop]; omega, fun x hx => el x (List.mem_of_mem_drop hx)⟩⟩
    simp only [dOs]
    generalize dNs ls = P at *
    generalize os.map dL = OO at *
    simp [e_m__law_spoilt, e_b__law_spoilt, e_c__law_spoilt_1, e_c__law_spoilt_2, e_c__law_spoilt_3, hw, hc]
  have w3 : ¬ ((w : Nat) : Int) = 10 := by omega
  by_cases w4 : w = 11
  · subst w4
    refine ⟨.tup (dNs ls), ?_, .inr (.inl ⟨_, rfl, by omega, el⟩)⟩
    have bt : bTupL (true, dNs ls) = .ok (.tup (dNs ls)) := rfl
    simp only [dOs]
    generalize dNs ls = P at *
    generalize os.map dL = OO at *
    simp [e_m__law_spoilt, e_b__law_spoilt, e_c__law_spoilt_1, e_c__law_spoilt_2, e_c__law_spoilt_3, e_c__law_spoilt_4, hw, bt]
  have w4 : ¬ ((w : Nat) : Int) = 11 := by omega
  by_cases w5 : w = 12
  · subst w5
    obtain ⟨k, hk, lk⟩ := emod_nat p 5 (by decide)
    have e5 : ((5 : Nat) : Int) = 5 := rfl
    rw [e5] at hk
    obtain ⟨x, hx, hat⟩ := odd_at [.non, .int 0, .str (Str.ofString ""), .dk [] [], .bl true] k lk
    refine ⟨x, ?_, ?_⟩
    · simp only [dOs]
      generalize dNs ls = P at *
      generalize os.map dL = OO at *
      simp [e_m__law_spoilt, e_b__law_spoilt, e_c__law_spoilt_1, e_c__law_spoilt_2, e_c__law_spoilt_3, e_c__law_spoilt_4, e_c__law_spoilt_5, hw, hk, hat, SZ]
    · simp only [List.mem_cons, List.not_mem_nil, or_false] at hx
      exact .inr (.inr hx)
  have w5 : ¬ ((w : Nat) : Int) = 12 := by omega
  by_cases h0 : ls.length = 0
  · refine ⟨.lst (dNs ls), ?_, .inl ⟨_, rfl, by omega, el⟩⟩
    have hc : bListL (true, dNs ls) = .ok (.lst (dNs ls)) := rfl
    simp only [dOs]
    generalize dNs ls = P at *
    generalize os.map dL = OO at *
    simp [e_m__law_spoilt, e_b__law_spoilt, e_c__law_spoilt_1, e_c__law_spoilt_2, e_c__law_spoilt_3, e_c__law_spoilt_4, e_c__law_spoilt_5, e_c__law_spoilt_6, e_c__law_spoilt_7, e_c__law_spoilt_8, hw, w1, w2, w3, w4, w5, hc, lp, h0]
  obtain ⟨a, ha, la⟩ := emod_nat p ls.length (by omega)
  have ma := fmodS (i := p) (j := ((ls.length : Nat) : Int)) (by omega)
  rw [ha] at ma
  obtain ⟨r, hr, lr⟩ := emod_nat ((a : Nat) + 1 : Int) ls.length (by omega)
  have mr := fmodS (i := (a : Nat) + 1) (j := ((ls.length : Nat) : Int)) (by omega)
  rw [hr] at mr
  obtain ⟨o, ho, lo⟩ := emod_nat (c / 216) 64 (by decide)
  obtain ⟨z, hz, lz⟩ := emod_nat (c / 216) 6 (by decide)
  obtain ⟨u, hu, lu⟩ := emod_nat (c / 18) 12 (by decide)
  have n64 : ((64 : Nat) : Int) = 64 := rfl
  have n6 : ((6 : Nat) : Int) = 6 := rfl
  have n12 : ((12 : Nat) : Int) = 12 := rfl
  rw [n64] at ho
  rw [n6] at hz
  rw [n12] at hu
  have lro : r < os.length := by omega
  have hL := hg _ (List.getElem_mem lro)
  have aO : atI (os.map dL) (r : Nat) = some (dL os[r]) := by rw [atI_nat', List.getElem?_map, List.getElem?_eq_getElem lro]; rfl
  have aA := at_ns la
  have aR := at_ns (k := r) lr
  have hbA := hb _ (List.getElem_mem la)
  have hbR := hb _ (List.getElem_mem lr)
  generalize hxA : ls[a] = A at *
  generalize hxR : ls[r] = R0 at *
  generalize hLr : os[r] = L at *
  have sh : dShl (.int 1) (.int (z : Nat)) = .ok (.int ((2 ^ z : Nat) : Int)) := by
    have := dShl_one z (by omega)
    rw [this]; simp
  have p64 : 2 ^ z ≤ 32 := by
    rcases (by omega : z = 0 ∨ z = 1 ∨ z = 2 ∨ z = 3 ∨ z = 4 ∨ z = 5) with rfl | rfl | rfl | rfl | rfl | rfl <;> decide
  generalize hq : 2 ^ z = q at *
  have hbo := bor_nat A q
  have hba := band_nat A q
  have lbo : A ||| q < 64 := Nat.or_lt_two_pow (n := 6) (by omega) (by omega)
  have lba : A &&& q ≤ A := Nat.and_le_left
  obtain ⟨bs, hlc, lbs, elb⟩ : ∃ bs : List D, dLc [11] (d1 dIt (d2 dIx (dLv 0) (d2 dMod (d2 dAdd (dVar 6) (dC (.int 1))) (d1 bLenL (dLv 5))))) (gSet 11) dYes x__law_spoilt_1 [.val (.lst (os.map dL)), .val (.lst (dNs ls)), .val (.int c), .val (.int p), .val (.int (w : Nat)), .own (.lst (dNs ls)), .val (.int (a : Nat)), .val (.int (o : Nat)), .val (.int (q : Nat)), .un, .un, .un] = .ok (.lst bs) ∧ bs.length ≤ 20 ∧ ∀ x ∈ bs, El x := by
    refine ⟨L.map fun p => D.int (p.1 : Nat), dLc_all dO (fun p => D.int (p.1 : Nat)) L (by
      generalize dNs ls = P at *
      generalize os.map dL = OO at *
      simp [lp, mr, aO]) (sz_nat (by omega)) fun p _ => ⟨_, rfl, by simp [e_x__law_spoilt_1, wipeE, atl2]⟩, by rw [List.length_map]; exact hL.2, fun x hx => ?_⟩
    obtain ⟨pp, hp, rfl⟩ := List.mem_map.mp hx
    have := (hL.1.ok pp hp).2.1
    have := pow_le_64 hm
    exact el_nat (by omega)
  obtain ⟨v, hv, lv⟩ := emod_nat (c / 1296) (bs.length + 1) (by omega)
  have mv := fmodS (i := c / 1296) (j := ((bs.length + 1 : Nat) : Int)) (by omega)
  have ec : ((bs.length + 1 : Nat) : Int) = (bs.length : Int) + 1 := by omega
  rw [hv, ec] at mv
  obtain ⟨x1, hx1, at1⟩ := odd_at (bs ++ [.int (o : Nat)]) v (by simp; omega)
  have e1 : El x1 := by
    rcases List.mem_append.mp hx1 with z | z
    · exact elb x1 z
    · rw [List.mem_singleton.mp z]; exact el_nat (by omega)
  obtain ⟨x2, hx2, at2⟩ := odd_at ([.int (o : Nat), .int (-1 - (o : Nat)), .bl true, .bl false, .non, .str (Str.ofString "1"), .tup [.int 1], .lst [.int 1], .int ((A ||| q : Nat) : Int), .int ((A : Nat) - ((A &&& q : Nat) : Int)), x1, .int (R0 : Nat)]) u lu
  have e2 : El x2 := by
    simp only [List.mem_cons, List.not_mem_nil, or_false] at hx2
    rcases hx2 with rfl | rfl | rfl | rfl | rfl | rfl | rfl | rfl | rfl | rfl | rfl | rfl
    · exact el_nat (by omega)
    · exact .inl ⟨_, rfl, by omega, by omega⟩
    · exact .inr (.inl ⟨_, rfl⟩)
    · exact .inr (.inl ⟨_, rfl⟩)
    · exact .inr (.inr (.inl rfl))
    · exact .inr (.inr (.inr (.inl rfl)))
    · exact .inr (.inr (.inr (.inr (.inl rfl))))
    · exact .inr (.inr (.inr (.inr (.inr rfl))))
    · exact el_nat (by omega)
    · exact .inl ⟨_, rfl, by omega, by omega⟩
    · exact e1
    · exact el_nat (by omega)
  refine ⟨.lst ((dNs ls).set a x2), ?_, .inl ⟨_, rfl, by rw [List.length_set]; omega, fun x hx => ?_⟩⟩
  · have hc : bListL (true, dNs ls) = .ok (.lst (dNs ls)) := rfl
    have lpp : ¬ (dNs ls).length = 0 := by omega
    have laP : a < (dNs ls).length := by omega
    have lb1 : bs.length + 1 ≤ 16777216 := by omega
    have h0 : 0 < ls.length := by omega
    simp only [dOs]
    generalize dNs ls = P at *
    generalize os.map dL = OO at *
    simp [e_m__law_spoilt, e_b__law_spoilt, e_c__law_spoilt_1, e_c__law_spoilt_2, e_c__law_spoilt_3, e_c__law_spoilt_4, e_c__law_spoilt_5, e_c__law_spoilt_6, e_c__law_spoilt_7, e_c__law_spoilt_8, hw, w1, w2, w3, w4, w5, hc, lp, h0, ma, ho, hz, hu, sh, hlc, lb1, aA, aR, hbo, hba, mr, mv, at1, at2, la, SZ]
  · rcases List.mem_or_eq_of_mem_set hx with z | z
    · exact el x z
    · rw [z]; exact e2
noncomputable def wsum : List (List Of) → List Nat → Int
  | L :: os, b :: bs => (am L (b : Nat)).getD 0 + wsum os bs
  | _, _ => 0
theorem scan_c (L : List Of) (os : List (List Of)) (b : Nat) (xs : List D) (t : Nat) : scan (L :: os) (.int (b : Nat) :: xs) t = match am L (b : Nat) with
    | some _ => if t &&& b = 0 then scan os xs (t ||| b) else none
    | none => none := by
  show (match am L (b : Nat) with
    | some _ => if t &&& ((b : Nat) : Int).toNat = 0 then scan os xs (t ||| ((b : Nat) : Int).toNat) else none
    | none => none) = _
  rw [Int.toNat_natCast]
theorem scan_snoc {L : List Of} {b : Nat} {a : Int} (ha : am L (b : Nat) = some a) : ∀ (os : List (List Of)) (bs : List Nat) (t t' : Nat), os.length = bs.length → scan os (dNs bs) t = some t' → t' &&& b = 0 → scan (os ++ [L]) (dNs (bs ++ [b])) t = some (t' ||| b)
  | [], [], t, t', _, h, hb => by
    have h : some t = some t' := h
    cases h
    show scan [L] [.int (b : Nat)] t = _
    rw [scan_c, ha]
    simp only [hb, if_true]
    rfl
  | [], _ :: _, _, _, h, _, _ => by simp at h
  | _ :: _, [], _, _, h, _, _ => by simp at h
  | K :: os, c :: bs, t, t', hl, h, hb => by
    have h : scan (K :: os) (.int (c : Nat) :: dNs bs) t = some t' := h
    show scan (K :: (os ++ [L])) (.int (c : Nat) :: dNs (bs ++ [b])) t = _
    rw [scan_c] at h ⊢
    cases e : am K (c : Nat) with
    | none => rw [e] at h; cases h
    | some a' =>
      rw [e] at h
      simp only at h ⊢
      by_cases q : t &&& c = 0
      · rw [if_pos q] at h ⊢
        exact scan_snoc ha os bs (t ||| c) t' (by simpa using hl) h hb
      · rw [if_neg q] at h; cases h
theorem wsum_snoc {L : List Of} {b : Nat} : ∀ (os : List (List Of)) (bs : List Nat), os.length = bs.length → wsum (os ++ [L]) (bs ++ [b]) = wsum os bs + (am L (b : Nat)).getD 0
  | [], [], _ => by
    show (am L (b : Nat)).getD 0 + 0 = 0 + _
    omega
  | [], _ :: _, h => by simp at h
  | _ :: _, [], h => by simp at h
  | K :: os, c :: bs, h => by
    have ih := wsum_snoc (L := L) (b := b) os bs (by simpa using h)
    show (am K (c : Nat)).getD 0 + wsum (os ++ [L]) (bs ++ [b]) = (am K (c : Nat)).getD 0 + wsum os bs + _
    omega
theorem worth_loop : ∀ (os : List (List Of)) (bs : List Nat) (t t' : Nat) (f : Int), os.length = bs.length → scan os (dNs bs) t = some t' →
    fLoop (α := D) (gTupD 2 (gsCons (gSet 3) (gsCons (gSet 4) gsNil))) x_plan_worth_1 (dZipL (os.map dL) (dNs bs)) [.un, .un, .val (.int f), .un, .un] = .nx [.un, .un, .val (.int (f + wsum os bs)), .un, .un]
  | [], [], t, t', f, _, _ => by
    have : f + wsum [] [] = f := Int.add_zero f
    rw [this]; simp [dZipL, fLoop_nil]
  | [], _ :: _, _, _, _, h, _ => by simp at h
  | _ :: _, [], _, _, _, h, _ => by simp at h
  | K :: os, c :: bs, t, t', f, hl, h => by
    have h : scan (K :: os) (.int (c : Nat) :: dNs bs) t = some t' := h
    rw [scan_c] at h
    cases e : am K (c : Nat) with
    | none => rw [e] at h; cases h
    | some a =>
      rw [e] at h
      simp only at h
      by_cases q : t &&& c = 0
      · rw [if_pos q] at h
        have ih := worth_loop os bs (t ||| c) t' (f + a) (by simpa using hl) h
        have ha := amount_at_is K (c : Nat)
        rw [e] at ha
        simp only [amD] at ha
        have ew : f + wsum (K :: os) (c :: bs) = f + a + wsum os bs := by
          show f + ((am K (c : Nat)).getD 0 + wsum os bs) = _
          rw [e, Option.getD_some]; omega
        rw [ew, ← ih]
        show fLoop _ _ (.tup [dL K, .int (c : Nat)] :: dZipL (os.map dL) (dNs bs)) _ = _
        rw [fLoop_cons]
        show fAft (x_plan_worth_1 [.un, .un, .val (.int f), .val (dL K), .val (.int (c : Nat))]) _ = _
        have hb : x_plan_worth_1 [.un, .un, .val (.int f), .val (dL K), .val (.int (c : Nat))] = .nx [.un, .un, .val (.int (f + a)), .un, .un] := by
          simp [e_x_plan_worth_1, fAug, ha]
        rw [hb, fAft_nx]
      · rw [if_neg q] at h; cases h
structure Dr (os : List (List Of)) (i : Nat) (ps ls : List Nat) (t : Nat) (d : Int) : Prop where
  lp : ps.length = i
  ll : ls.length = i
  sl : ∀ b ∈ ls, b ≤ 63
  sp : ∀ b ∈ ps, b ≤ 63
  sc : scan (os.take i) (dNs ps) 0 = some t
  ws : wsum (os.take i) ps = d
noncomputable abbrev eD (S0 M O : D) (ps ls : List Nat) (t : Nat) (d : Int) (s7 : Sl) : List Sl := [.val S0, .val M, .val O, .own (.lst (dNs ps)), .own (.lst (dNs ls)), .val (.int (t : Nat)), .val (.int d), s7, .un, .un, .un, .un, .un, .un, .un]
theorem step_is {m : Nat} (hm : m ≤ 6) (ns : List Int) (os : List (List Of)) (hg : ∀ L ∈ os, GS m L ∧ L.length ≤ 20) (h4 : os.length ≤ 6) {i : Nat} (hi : i < os.length) {ps ls : List Nat} {t : Nat} {d : Int} (I : Dr os i ps ls t d) :
    ∃ ps' ls' t' d', x_law_1 (eD (.lst (ns.map .int)) (.int (m : Nat)) (dOs os) ps ls t d (.val (.int (i : Nat)))) = .nx (eD (.lst (ns.map .int)) (.int (m : Nat)) (dOs os) ps' ls' t' d' .un) ∧ Dr os (i + 1) ps' ls' t' d' := by
  obtain ⟨gL, lL⟩ := hg _ (List.getElem_mem hi)
  have aO : atI (os.map dL) (i : Nat) = some (dL os[i]) := by rw [atI_nat', List.getElem?_map, List.getElem?_eq_getElem hi]; rfl
  have etk : os.take (i + 1) = os.take i ++ [os[i]] := by rw [List.take_succ, List.getElem?_eq_getElem hi]; rfl
  have p64 := pow_le_64 hm
  have ltk : (os.take i).length = ps.length := by rw [List.length_take, I.lp]; omega
  generalize hLi : os[i] = L at *
  have cc := cell_at ns (25 + i)
  have e25 : ((25 + i : Nat) : Int) = 25 + (i : Int) := by omega
  rw [e25] at cc
  generalize ns[25 + i]?.getD 0 = c at *
  have lps : (dNs ps).length < 16777216 := by rw [List.length_map, I.lp]; omega
  have lls : (dNs ls).length < 16777216 := by rw [List.length_map, I.ll]; omega
  have hbl : bLen [dL L] = .ok (.int (L.length : Nat)) := by
    show R.ok (D.int (((L.map dO).length : Nat) : Int)) = _
    rw [List.length_map]
  -- what is chosen and what is taken of it
  have fin : ∀ (ch : Of) (fn : Of), (ch = (0, 0) ∨ ch ∈ L) → (fn = (0, 0) ∨ fn = ch) → t &&& fn.1 = 0 → Dr os (i + 1) (ps ++ [fn.1]) (ls ++ [ch.1]) (t ||| fn.1) (d + fn.2) := fun ch fn h1 h2 h3 => by
    have bch : ch.1 ≤ 63 := by
      rcases h1 with rfl | h1
      · exact Nat.zero_le _
      · have := (gL.ok ch h1).2.1; omega
    have bfn : fn.1 ≤ 63 := by
      rcases h2 with rfl | rfl
      · exact Nat.zero_le _
      · exact bch
    have afn : am L (fn.1 : Nat) = some fn.2 := by
      rcases h2 with rfl | rfl
      · exact if_pos rfl
      · rcases h1 with rfl | h1
        · exact if_pos rfl
        · exact mem_am gL h1
    refine ⟨by simp [I.lp], by simp [I.ll], fun b hb => ?_, fun b hb => ?_, ?_, ?_⟩
    · rcases List.mem_append.mp hb with z | z
      · exact I.sl b z
      · rw [List.mem_singleton.mp z]; exact bch
    · rcases List.mem_append.mp hb with z | z
      · exact I.sp b z
      · rw [List.mem_singleton.mp z]; exact bfn
    · rw [etk]; exact scan_snoc afn _ _ _ _ ltk I.sc h3
    · rw [etk, wsum_snoc _ _ ltk, I.ws, afn]; rfl
  have snoc : ∀ (xs : List Nat) (b : Nat), dNs (xs ++ [b]) = dNs xs ++ [.int (b : Nat)] := fun xs b => List.map_append ..
  have n0 : ((0 : Nat) : Int) = 0 := rfl
  by_cases q : L.length > 0 ∧ 0 < c % 5
  · obtain ⟨q1, q2⟩ := q
    obtain ⟨k, hk, lk⟩ := emod_nat (c / 5) L.length q1
    have mk := fmodS (i := c / 5) (j := ((L.length : Nat) : Int)) (by omega)
    rw [hk] at mk
    have aK : atI (L.map dO) (k : Nat) = some (dO L[k]) := by rw [atI_nat', List.getElem?_map, List.getElem?_eq_getElem lk]; rfl
    have hmem := List.getElem_mem lk
    generalize L[k] = ch at *
    have hb := band_nat t ch.1
    have hb0 := band_nat t 0
    by_cases q3 : t &&& ch.1 = 0
    · refine ⟨_, _, _, _, ?_, fin ch ch (.inr hmem) (.inr rfl) q3⟩
      have hbo := bor_nat t ch.1
      unfold eD
      rw [snoc, snoc]
      simp only [dOs]
      generalize dNs ps = P at *
      generalize dNs ls = Q at *
      generalize os.map dL = OO at *
      generalize ns.map D.int = SS at *
      simp [e_x_law_1, aO, hbl, cc, q1, q2, mk, aK, atl2, lps, lls, hb, q3, hbo, SZ]
    · refine ⟨_, _, _, _, ?_, fin ch (0, 0) (.inr hmem) (.inl rfl) (Nat.and_zero t)⟩
      have hpos : 0 < t &&& ch.1 := Nat.pos_of_ne_zero q3
      have hbo : Builtin.bitOr (t : Int) 0 = (t : Int) := by have := bor_nat t 0; simpa using this
      unfold eD
      rw [snoc, snoc]
      simp only [dOs]
      generalize dNs ps = P at *
      generalize dNs ls = Q at *
      generalize os.map dL = OO at *
      generalize ns.map D.int = SS at *
      simp [e_x_law_1, aO, hbl, cc, q1, q2, mk, aK, atl2, lps, lls, hb, hpos, hbo, SZ]
  · refine ⟨_, _, _, _, ?_, fin (0, 0) (0, 0) (.inl rfl) (.inl rfl) (Nat.and_zero t)⟩
    have hb := band_nat t 0
    have hbo : Builtin.bitOr (t : Int) 0 = (t : Int) := by have := bor_nat t 0; simpa using this
    unfold eD
    rw [snoc, snoc]
    simp only [dOs]
    generalize dNs ps = P at *
    generalize dNs ls = Q at *
    generalize os.map dL = OO at *
    generalize ns.map D.int = SS at *
    by_cases q1 : 0 < L.length
    · have q2 : ¬ 0 < c % 5 := fun z => q ⟨q1, z⟩
      simp [e_x_law_1, aO, hbl, cc, q1, q2, atl2, lps, lls, hb, hbo, SZ]
    · simp [e_x_law_1, aO, hbl, cc, q1, atl2, lps, lls, hb, hbo, SZ]
theorem copies_is (os : List (List Of)) (h : os.length ≤ 1000) : m__law_copies [.lst (os.map dL)] = .ok (.lst (os.map dL)) := by
  have hlc := dLc_all (ρ := [.val (.lst (os.map dL)), .un]) (vs := [1]) (mi := d1 dIt (dVar 0)) (gm := gSet 1) (em := x__law_copies_1) dL dL os
    (by simp) (sz_nat (by omega)) (fun L hL => ⟨_, rfl, by simp [e_x__law_copies_1]⟩)
  simp [e_m__law_copies, e_b__law_copies, hlc]
theorem pl_os (os : List (List Of)) : pl 3 (.lst (os.map dL)) = true := by
  show (os.map dL).all (pl 2) = true
  rw [List.all_map]
  refine List.all_eq_true.mpr fun L _ => ?_
  show (L.map dO).all (pl 1) = true
  rw [List.all_map]
  exact List.all_eq_true.mpr fun _ _ => rfl
theorem ne_os (os : List (List Of)) : dNe (.lst (os.map dL)) (.lst (os.map dL)) = .ok (.bl false) := dNe_self (by decide) (pl_os os)
theorem rng_cast (n : Nat) : (dRange 0 n) = (List.range n).map fun x : Nat => D.int (x : Nat) := by
  rw [dRange_eq]; exact List.map_congr_left fun k _ => congrArg D.int (Int.zero_add _)
theorem rng_small {m : Nat} (h : m ≤ 6) : dRng1 [.int (m : Nat)] = .ok ((List.range m).map fun k : Nat => D.int (k : Nat)) := by
  have e := dRng1_nat m
  rw [if_pos (by omega)] at e
  rw [e, rng_cast]
theorem law_end {m : Nat} (hm : m ≤ 6) (ns : List Int) (os : List (List Of)) (hg : ∀ L ∈ os, GS m L ∧ L.length ≤ 20) (h4 : os.length ≤ 6) {ps ls : List Nat} {t : Nat} {d : Int} (I : Dr os os.length ps ls t d) :
    ∃ ρ', c_law_7 (eD (.lst (ns.map .int)) (.int (m : Nat)) (dOs os) ps ls t d .un) = .rt (.bl true) ρ' := by
  have hcp := copies_is os (by omega)
  have etk : os.take os.length = os := List.take_length
  have sc := I.sc
  have ws := I.ws
  rw [etk] at sc ws
  have elp := el_ns I.sp
  have lps : ps.length = os.length := I.lp
  obtain ⟨ip1, ip2⟩ := plan_is hm os hg (by omega) (dNs ps) elp
  have lp1 : (dNs ps).length = os.length := by rw [List.length_map]; exact I.lp
  rw [sc, decide_eq_true lp1] at ip1
  have ip1 : m_is_plan [.int (m : Nat), dOs os, .lst (dNs ps)] = .ok (.bl true) := ip1
  have hw := worth_loop os ps 0 t 0 lps.symm sc
  rw [ws, Int.zero_add] at hw
  have hz : dZip [.lst (os.map dL), .lst (dNs ps)] = .ok (dZipL (os.map dL) (dNs ps)) := rfl
  have hwo : m_plan_worth [dOs os, .lst (dNs ps)] = .ok (.int d) := by
    simp only [dOs]
    generalize os.map dL = OO at *
    generalize dNs ps = P at *
    simp [e_m_plan_worth, e_b_plan_worth, hz, hw]
  obtain ⟨c2, hc2⟩ : ∃ c : Int, m__law_cell_at [.lst (ns.map .int), .int 2] = .ok (.int c) := ⟨_, cell_at ns 2⟩
  obtain ⟨c3, hc3⟩ : ∃ c : Int, m__law_cell_at [.lst (ns.map .int), .int 3] = .ok (.int c) := ⟨_, cell_at ns 3⟩
  obtain ⟨x, hsp, ox⟩ := spoilt_is hm os hg ls I.ll h4 I.sl c2 c3
  obtain ⟨s, hrep⟩ := rep_ok ox
  have hans : ∃ b, m_is_plan [.int (m : Nat), dOs os, x] = .ok (.bl b) ∧ m__law_is_plan [dOs os, x] = .ok (.bl b) := by
    rcases ox with ⟨xs, rfl, _, he⟩ | ⟨xs, rfl, _, _⟩ | rfl | rfl | rfl | rfl | rfl
    · exact ⟨_, plan_is hm os hg (by omega) xs he⟩
    all_goals exact ⟨false, plan_no os _ rfl⟩
  obtain ⟨b, hb1, hb2⟩ := hans
  have hne := ne_os os
  have nep : dNe (.lst (dNs ps)) (.lst (dNs ps)) = .ok (.bl false) := dNe_self (n := 1) (by decide) (by
    show (dNs ps).all (pl 0) = true
    rw [List.all_map]; exact List.all_eq_true.mpr fun _ _ => rfl)
  have hnb : dNotB (.bl true) (.bl true) = .ok (.bl false) := rfl
  have hk : isK .bool (.bl b) = .ok (.bl true) := rfl
  have hbl : bListL (true, dNs ps) = .ok (.lst (dNs ps)) := rfl
  have hlw := law_whole_int d
  have hns : dNe (.str s) (.str s) = .ok (.bl false) := by
    have : dNe (.str s) (.str s) = .ok (.bl (!decide (s = s))) := rfl
    rw [this]; simp
  refine ⟨wipeA [.val (.lst (ns.map .int)), .val (.int (m : Nat)), .val (dOs os), .val (.lst (dNs ps)), .val (.lst (dNs ls)), .val (.int (t : Nat)), .val (.int d), .un, .val (dOs os), .val (.lst (dNs ps)), .val (.int d), .val x, .val (.str s), .val (.bl b), .un], ?_⟩
  unfold eD
  clear hw hz sc ws
  simp only [dOs] at *
  generalize os.map dL = OO at *
  generalize dNs ps = P at *
  generalize dNs ls = Q at *
  generalize ns.map D.int = SS at *
  simp [e_c_law_7, e_c_law_8, e_c_law_9, e_c_law_10, e_c_law_11, e_c_law_12, e_c_law_13, e_c_law_14, hcp, hbl, hwo, hlw, ip1, hnb, nep, hc2, hc3, hsp, hrep, hb1, hne, hns, fFrz, e_c_law_15, hk, hb2]
theorem plain (ns : List Int) (hn63 : ns.length ≤ 63) : m_law [.lst (ns.map .int)] = .ok (.bl true) := by
  have c0 := cell_at ns 0
  have c1 := cell_at ns 1
  obtain ⟨m, hm, lm⟩ := emod_nat (ns[0]?.getD 0) 5 (by decide)
  obtain ⟨n, hn, ln⟩ := emod_nat (ns[1]?.getD 0) 5 (by decide)
  obtain ⟨os, ho, lo, go⟩ := offers_is ns 4 m n 4 (by omega) (by omega) (by decide) (by decide)
  have e5 : ((5 : Nat) : Int) = 5 := rfl
  rw [e5] at hm hn
  have c0 : m__law_cell_at [.lst (ns.map .int), .int 0] = _ := c0
  have c1 : m__law_cell_at [.lst (ns.map .int), .int 1] = _ := c1
  generalize ns[0]?.getD 0 = z0 at *
  generalize ns[1]?.getD 0 = z1 at *
  have ho : m__law_offers [.lst (ns.map .int), .int 4, .int (m : Nat), .int (n : Nat), .int 4] = .ok (.lst (os.map dL)) := ho
  have hg : ∀ L ∈ os, GS m L ∧ L.length ≤ 20 := fun L hL => ⟨go.ok L hL, by have := go.ln L hL; omega⟩
  have h4 : os.length ≤ 6 := by omega
  obtain ⟨ρ', hlp, ps, ls, t, d, rfl, I⟩ := fLoop_rng (α := D) (mg := gSet 7) (mb := x_law_1)
    (fun i ρ => ∃ ps ls t d, ρ = eD (.lst (ns.map .int)) (.int (m : Nat)) (dOs os) ps ls t d .un ∧ Dr os i ps ls t d)
    os.length (eD (.lst (ns.map .int)) (.int (m : Nat)) (dOs os) [] [] 0 0 .un) ⟨[], [], 0, 0, rfl, ⟨rfl, rfl, (fun b hb => by cases hb), (fun b hb => by cases hb), by rw [List.take_zero]; rfl, by rw [List.take_zero]; rfl⟩⟩ (by
      rintro i ρ hi ⟨ps, ls, t, d, rfl, I⟩
      obtain ⟨ps', ls', t', d', h1, h2⟩ := step_is (by omega) ns os hg h4 hi I
      exact ⟨_, _, rfl, .inl h1, ps', ls', t', d', rfl, h2⟩)
  obtain ⟨ρe, he⟩ := law_end (by omega) ns os hg h4 I
  have hr := rng_small (m := os.length) (by omega)
  rw [rng_cast] at hlp
  have hl : (os.map dL).length = os.length := List.length_map ..
  rw [e_m_law]
  show flV (b_law [.val (.lst (ns.map .int)), .un, .un, .un, .un, .un, .un, .un, .un, .un, .un, .un, .un, .un, .un]) = _
  unfold eD at *
  simp only [dOs] at *
  have d0 : dNs [] = [] := rfl
  have z0' : D.int ((0 : Nat) : Int) = D.int 0 := rfl
  rw [d0, z0'] at hlp
  generalize (List.range os.length).map (fun k : Nat => D.int (k : Nat)) = RG at *
  generalize os.map dL = OO at *
  generalize dNs ps = P at *
  generalize dNs ls = Q at *
  generalize ns.map D.int = SS at *
  simp [-dRng1_nat, e_b_law, e_c_law_1, e_c_law_2, e_c_law_3, e_c_law_4, e_c_law_5, e_c_law_6, c0, c1, hm, hn, ho, hl, hr, hlp, he]
end Lw
namespace Lw
open PySem L2 UP PyProof.Rows
noncomputable def top (i : Nat) : Stmt := PySem.Challenge.pw_gavelhall_k41_plans.main.body.getD i (.Pass ⟨0, 0, 0, 0⟩)
noncomputable abbrev s__law_scale : Stmt := top 13
noncomputable abbrev s__law_cell_at : Stmt := top 9
noncomputable abbrev s__law_offer_by : Stmt := top 11
noncomputable abbrev s__law_listed : Stmt := top 12
noncomputable abbrev s__law_offers : Stmt := top 14
noncomputable abbrev s__law_copies : Stmt := top 15
noncomputable abbrev s_amount_at : Stmt := top 5
noncomputable abbrev s_plan_worth : Stmt := top 7
noncomputable abbrev s__law_spoilt : Stmt := top 17
noncomputable abbrev s_apart : Stmt := top 3
noncomputable abbrev s_is_whole : Stmt := top 1
noncomputable abbrev s_is_plan : Stmt := top 6
noncomputable abbrev s__law_whole : Stmt := top 10
noncomputable abbrev s__law_is_plan : Stmt := top 16
noncomputable abbrev s_law : Stmt := top 18
section
variable {P : Program} {w : World} {K : PySem.W.Frag} {mg : Str → Option Value} {base : Heap} {cl : Str → Option Addr}
theorem sc__law_scale : FnScope [(Str.ofString "_law_cell")] [(Str.ofString "_law_cell")] (defScope s__law_scale) := ⟨rfl, rfl, rfl, by decide +kernel, rfl, by decide +kernel, by decide +kernel⟩
theorem ok__law_scale {f : Addr} {fd : FuncData} (F : Fun K (Str.ofString "_law_scale") (Str.ofString "_law_scale") s__law_scale f fd)  : FnOk P w K mg base (L2N.CX P w) 1 f fd [(Str.ofString "_law_cell")] (spV K cl 1 m__law_scale) :=
  have nd := (sc__law_scale).nd
  def_V F sc__law_scale (by decide) (fun cdv A outer s H E hr => ⟨_, ((uss_one (us_ret (ue_tup (ua_cons (ue_mod (ue_var (pv 0)) ue_int) (ua_cons (ue_ix (UN.l (un_lst (ua_cons ue_int (ua_cons ue_int (ua_cons (ue_mul ue_int (ue_pow ue_int ue_int)) ua_nil))))) (ue_mod (ue_fdiv (ue_var (pv 0)) ue_int) ue_int)) (ua_cons (ue_ix (UN.l (un_lst (ua_cons ue_int (ua_cons ue_int (ua_cons ue_int (ua_cons (ue_pow ue_int ue_int) ua_nil)))))) (ue_mod (ue_fdiv (ue_var (pv 0)) ue_int) ue_int)) ua_nil)))))) : USs (cxOf (L2N.CX P w) P w K mg base [(Str.ofString "_law_cell")] (Str.ofString "_law_scale") (defScope s__law_scale) f cdv A outer s H E) cl (WD E) [] _ _ _ b__law_scale)⟩)
theorem sc__law_cell_at : FnScope [(Str.ofString "_law_script"), (Str.ofString "_law_k")] [(Str.ofString "_law_script"), (Str.ofString "_law_k")] (defScope s__law_cell_at) := ⟨rfl, rfl, rfl, by decide +kernel, rfl, by decide +kernel, by decide +kernel⟩
theorem ok__law_cell_at {f : Addr} {fd : FuncData} (F : Fun K (Str.ofString "_law_cell_at") (Str.ofString "_law_cell_at") s__law_cell_at f fd) (n_len : mg (Str.ofString "len") = none) : FnOk P w K mg base (L2N.CX P w) 1 f fd [(Str.ofString "_law_script"), (Str.ofString "_law_k")] (spV K cl 2 m__law_cell_at) :=
  have nd := (sc__law_cell_at).nd
  def_V F sc__law_cell_at (by decide) (fun cdv A outer s H E hr => ⟨_, ((uss_cons (us_if (ut_cm c_lt (ue_var (pv 1)) (ue_callBL call_len_seq ca_lenL n_len PySem.boot_len (ual (ul_var (pv 0))))) (uss_one (us_ret (ue_ix (ul_var (pv 0)) (ue_var (pv 1))))) uss_nil)
  (uss_one (us_ret ue_int))) : USs (cxOf (L2N.CX P w) P w K mg base [(Str.ofString "_law_script"), (Str.ofString "_law_k")] (Str.ofString "_law_cell_at") (defScope s__law_cell_at) f cdv A outer s H E) cl (WD E) [] _ _ _ b__law_cell_at)⟩)
theorem sc__law_offer_by : FnScope [(Str.ofString "_law_cell"), (Str.ofString "_law_many"), (Str.ofString "_law_scale_here"), (Str.ofString "_law_top"), (Str.ofString "_law_bundle"), (Str.ofString "_law_rest"), (Str.ofString "_law_bits"), (Str.ofString "_law_size"), (Str.ofString "_law_k")] [(Str.ofString "_law_cell"), (Str.ofString "_law_many"), (Str.ofString "_law_scale_here")] (defScope s__law_offer_by) := ⟨rfl, rfl, rfl, by decide +kernel, rfl, by decide +kernel, by decide +kernel⟩
theorem ok__law_offer_by {f : Addr} {fd : FuncData} (F : Fun K (Str.ofString "_law_offer_by") (Str.ofString "_law_offer_by") s__law_offer_by f fd) (n_range : mg (Str.ofString "range") = none) (n_sum : mg (Str.ofString "sum") = none) : FnOk P w K mg base (L2N.CX P w) 1 f fd [(Str.ofString "_law_cell"), (Str.ofString "_law_many"), (Str.ofString "_law_scale_here")] (spV K cl 3 m__law_offer_by) :=
  have nd := (sc__law_offer_by).nd
  def_V F sc__law_offer_by (by decide) (fun cdv A outer s H E hr => ⟨_, ((uss_cons (us_set (i := 3) nd rfl (by first | exact Or.inl rfl | exact Or.inr rfl) (ue_sub (ue_shl ue_int (ue_var (pv 1))) ue_int) (by decide))
  (uss_cons (us_set (i := 4) nd rfl (by first | exact Or.inl rfl | exact Or.inr rfl) (ue_add (ue_mod (ue_var (pv 0)) (ue_var (pv 3))) ue_int) (by decide))
  (uss_cons (us_set (i := 5) nd rfl (by first | exact Or.inl rfl | exact Or.inr rfl) (ue_fdiv (ue_var (pv 0)) (ue_var (pv 3))) (by decide))
  (uss_cons (us_set (i := 6) nd rfl (by first | exact Or.inl rfl | exact Or.inr rfl) (ue_callBL (cr_sum rfl) ca_sum n_sum (by decide +kernel) (ual (UN.l (un_lc calm_cx nd (UI.weak (ui_range1 n_range (ua_cons (ue_var (pv 1)) ua_nil))) (blkOk_by (own := [((Str.ofString "_law_k"), 8)]) (by kernel_rfl)) (by decide) (fun _ _ _ _ _ => ⟨_, (ug_name (pg_name (i := 8) nd rfl (by first | exact Or.inl rfl | exact Or.inr rfl)))⟩) (fun _ _ _ _ _ => ⟨_, uts_nil⟩) (fun _ _ _ _ _ => ⟨_, (ue_band (ue_shr (ue_var (pv 4)) (ue_var (pv 8))) ue_int)⟩) rfl)))) (by decide))
  (uss_cons (us_set (i := 7) nd rfl (by first | exact Or.inl rfl | exact Or.inr rfl) (ue_add (ue_add (ue_mod (ue_var (pv 5)) ue_int) ue_int) (ue_mul (ue_ix (ul_var (pv 2)) ue_int) (ue_sub (ue_var (pv 6)) ue_int))) (by decide))
  (uss_one (us_ret (ue_tup (ua_cons (ue_var (pv 4)) (ua_cons (ue_add (ue_mul (ue_var (pv 7)) (ue_ix (ul_var (pv 2)) ue_int)) (ue_mod (ue_mul (ue_fdiv (ue_var (pv 5)) ue_int) ue_int) (ue_ix (ul_var (pv 2)) ue_int))) ua_nil)))))))))) : USs (cxOf (L2N.CX P w) P w K mg base [(Str.ofString "_law_cell"), (Str.ofString "_law_many"), (Str.ofString "_law_scale_here"), (Str.ofString "_law_top"), (Str.ofString "_law_bundle"), (Str.ofString "_law_rest"), (Str.ofString "_law_bits"), (Str.ofString "_law_size"), (Str.ofString "_law_k")] (Str.ofString "_law_offer_by") (defScope s__law_offer_by) f cdv A outer s H E) cl (WD E) [] _ _ _ b__law_offer_by)⟩)
theorem sc__law_listed : FnScope [(Str.ofString "_law_cells"), (Str.ofString "_law_many"), (Str.ofString "_law_scale_here"), (Str.ofString "_law_made"), (Str.ofString "_law_cell"), (Str.ofString "_law_offer"), (Str.ofString "_law_one")] [(Str.ofString "_law_cells"), (Str.ofString "_law_many"), (Str.ofString "_law_scale_here")] (defScope s__law_listed) := ⟨rfl, rfl, rfl, by decide +kernel, rfl, by decide +kernel, by decide +kernel⟩
theorem ok__law_listed {f : Addr} {fd : FuncData} (F : Fun K (Str.ofString "_law_listed") (Str.ofString "_law_listed") s__law_listed f fd) (c__law_offer_by : Cal P w K mg base 1 (Str.ofString "_law_offer_by") [(Str.ofString "_law_cell"), (Str.ofString "_law_many"), (Str.ofString "_law_scale_here")] (spV K cl 3 m__law_offer_by)) (n_sorted : mg (Str.ofString "sorted") = none) : FnOk P w K mg base (L2N.CX P w) 2 f fd [(Str.ofString "_law_cells"), (Str.ofString "_law_many"), (Str.ofString "_law_scale_here")] (spV K cl 3 m__law_listed) :=
  have nd := (sc__law_listed).nd
  def_V F sc__law_listed (by decide) (fun cdv A outer s H E hr => ⟨_, ((uss_cons (us_setN (i := 3) nd rfl (by first | exact Or.inl rfl | exact Or.inr rfl) (un_lst ua_nil) (by decide))
  (uss_cons (us_for [0, 4, 5] po_cx calm_cx (ui_v (ue_var (pv 0))) (ug_name (pg_name (i := 4) nd rfl (by first | exact Or.inl rfl | exact Or.inr rfl))) (uss_W [0, 4, 5] (uss_cons (us_set (i := 5) nd rfl (by first | exact Or.inl rfl | exact Or.inr rfl) (ue_call c__law_offer_by (hr.mono (by decide)) tk_cx rfl (ua_cons (ue_var (pv 4)) (ua_cons (ue_var (pv 1)) (ua_cons (ue_var (pv 2)) ua_nil))) (dCons_len (dCons_len (dCons_len dNil_len)))) (by decide))
  (uss_one (us_if (ut_notin (ue_ix (ul_var (pv 5)) ue_int) (UN.l (un_lc calm_cx nd (ui_l (ul_var (pv 3))) (blkOk_by (own := [((Str.ofString "_law_one"), 6)]) (by kernel_rfl)) (by decide) (fun _ _ _ _ _ => ⟨_, (ug_name (pg_name (i := 6) nd rfl (by first | exact Or.inl rfl | exact Or.inr rfl)))⟩) (fun _ _ _ _ _ => ⟨_, uts_nil⟩) (fun _ _ _ _ _ => ⟨_, (ue_ix (ul_var (pv 6)) ue_int)⟩) rfl))) (uss_one (us_append (pv 3) (UE.x (ue_var (pv 5))) dX_same (pe_bm PySem.F.plainAttrs_list PySem.F.slot_list_append PySem.F.type_list_append mt_append (pv 3) (pa_cons (UX.pe (cl := cl) (UE.x (ue_var (pv 5)))) pa_nil)))) uss_nil)))) (by decide))
  (uss_one (us_ret (UN.e (un_callBL cr_sortedPO ca_sortP n_sorted (by decide +kernel) (ual (ul_var (pv 3))))))))) : USs (cxOf (L2N.CX P w) P w K mg base [(Str.ofString "_law_cells"), (Str.ofString "_law_many"), (Str.ofString "_law_scale_here"), (Str.ofString "_law_made"), (Str.ofString "_law_cell"), (Str.ofString "_law_offer"), (Str.ofString "_law_one")] (Str.ofString "_law_listed") (defScope s__law_listed) f cdv A outer s H E) cl (WD E) [] _ _ _ b__law_listed)⟩)
theorem sc__law_offers : FnScope [(Str.ofString "_law_script"), (Str.ofString "_law_at"), (Str.ofString "_law_many"), (Str.ofString "_law_bidders"), (Str.ofString "_law_most"), (Str.ofString "_law_scale_here"), (Str.ofString "_law_made"), (Str.ofString "_law_who"), (Str.ofString "_law_place"), (Str.ofString "_law_cells"), (Str.ofString "_law_k")] [(Str.ofString "_law_script"), (Str.ofString "_law_at"), (Str.ofString "_law_many"), (Str.ofString "_law_bidders"), (Str.ofString "_law_most")] (defScope s__law_offers) := ⟨rfl, rfl, rfl, by decide +kernel, rfl, by decide +kernel, by decide +kernel⟩
theorem ok__law_offers {f : Addr} {fd : FuncData} (F : Fun K (Str.ofString "_law_offers") (Str.ofString "_law_offers") s__law_offers f fd) (c__law_scale : Cal P w K mg base 1 (Str.ofString "_law_scale") [(Str.ofString "_law_cell")] (spV K cl 1 m__law_scale)) (c__law_cell_at : Cal P w K mg base 1 (Str.ofString "_law_cell_at") [(Str.ofString "_law_script"), (Str.ofString "_law_k")] (spV K cl 2 m__law_cell_at)) (n_range : mg (Str.ofString "range") = none) (c__law_listed : Cal P w K mg base 2 (Str.ofString "_law_listed") [(Str.ofString "_law_cells"), (Str.ofString "_law_many"), (Str.ofString "_law_scale_here")] (spV K cl 3 m__law_listed)) : FnOk P w K mg base (L2N.CX P w) 3 f fd [(Str.ofString "_law_script"), (Str.ofString "_law_at"), (Str.ofString "_law_many"), (Str.ofString "_law_bidders"), (Str.ofString "_law_most")] (spN K cl 5 m__law_offers) :=
  have nd := (sc__law_offers).nd
  def_N F sc__law_offers (by decide) (fun cdv A outer s H E hr => ⟨_, ((uss_cons (us_set (i := 5) nd rfl (by first | exact Or.inl rfl | exact Or.inr rfl) (ue_call c__law_scale (hr.mono (by decide)) tk_cx rfl (ua_cons (ue_call c__law_cell_at (hr.mono (by decide)) tk_cx rfl (ua_cons (ue_var (pv 0)) (ua_cons (ue_var (pv 1)) ua_nil)) (dCons_len (dCons_len dNil_len))) ua_nil) (dCons_len dNil_len)) (by decide))
  (uss_cons (us_setN (i := 6) nd rfl (by first | exact Or.inl rfl | exact Or.inr rfl) (un_lst ua_nil) (by decide))
  (uss_cons (us_for [3, 7, 8, 9] po_cx calm_cx (ui_range1 n_range (ua_cons (ue_var (pv 3)) ua_nil)) (ug_name (pg_name (i := 7) nd rfl (by first | exact Or.inl rfl | exact Or.inr rfl))) (uss_W [3, 7, 8, 9] (uss_cons (us_set (i := 8) nd rfl (by first | exact Or.inl rfl | exact Or.inr rfl) (ue_add (ue_add (ue_var (pv 1)) ue_int) (ue_mul (ue_add (ue_var (pv 4)) ue_int) (ue_var (pv 7)))) (by decide))
  (uss_cons (us_setLcF (i := 9) calm_cx nd rfl rfl (by decide) (sw_true rfl rfl rfl (by decide +kernel)) (UI.weak (ui_range1 n_range (ua_cons (ue_mod (ue_call c__law_cell_at (hr.mono (by decide)) tk_cx rfl (ua_cons (ue_var (pv 0)) (ua_cons (ue_var (pv 8)) ua_nil)) (dCons_len (dCons_len dNil_len))) (ue_add (ue_var (pv 4)) ue_int)) ua_nil))) (blkOk_by (own := [((Str.ofString "_law_k"), 10)]) (by kernel_rfl)) (by decide) (fun _ _ _ _ _ => ⟨_, (ug_name (pg_name (i := 10) nd rfl (by first | exact Or.inl rfl | exact Or.inr rfl)))⟩) (fun _ _ _ _ _ => ⟨_, uts_nil⟩) (fun _ _ _ _ _ => ⟨_, (ue_call c__law_cell_at (hr.mono (by decide)) takesN0 rfl (ua_cons (ue_var (pv 0)) (ua_cons (ue_add (ue_add (ue_var (pv 8)) ue_int) (ue_var (pv 10))) ua_nil)) (dCons_len (dCons_len dNil_len)))⟩) rfl)
  (uss_cons (us_if (ut_cm (c_eq (cl := cl) hr.units) (ue_var (pv 2)) ue_int) (uss_one (us_set (i := 9) nd rfl (by first | exact Or.inl rfl | exact Or.inr rfl) (UN.e (un_lst ua_nil)) (by decide))) uss_nil)
  (uss_one (us_append (pv 6) (UE.x (ue_call c__law_listed (hr.mono (by decide)) takesN0 rfl (ua_cons (ue_var (pv 9)) (ua_cons (ue_var (pv 2)) (ua_cons (ue_var (pv 5)) ua_nil))) (dCons_len (dCons_len (dCons_len dNil_len))))) dX_same (pe_bm PySem.F.plainAttrs_list PySem.F.slot_list_append PySem.F.type_list_append mt_append (pv 6) (pa_cons (UX.pe (cl := cl) (UE.x (ue_call c__law_listed (hr.mono (by decide)) takesN0 rfl (ua_cons (ue_var (pv 9)) (ua_cons (ue_var (pv 2)) (ua_cons (ue_var (pv 5)) ua_nil))) (dCons_len (dCons_len (dCons_len dNil_len)))))) pa_nil)))))))) (by decide))
  (uss_one (us_retO (pv 6)))))) : USs (cxOf (L2N.CX P w) P w K mg base [(Str.ofString "_law_script"), (Str.ofString "_law_at"), (Str.ofString "_law_many"), (Str.ofString "_law_bidders"), (Str.ofString "_law_most"), (Str.ofString "_law_scale_here"), (Str.ofString "_law_made"), (Str.ofString "_law_who"), (Str.ofString "_law_place"), (Str.ofString "_law_cells"), (Str.ofString "_law_k")] (Str.ofString "_law_offers") (defScope s__law_offers) f cdv A outer s H E) cl (WD E) [] _ _ _ b__law_offers)⟩)
theorem sc__law_copies : FnScope [(Str.ofString "_law_offers_here"), (Str.ofString "_law_listed_here")] [(Str.ofString "_law_offers_here")] (defScope s__law_copies) := ⟨rfl, rfl, rfl, by decide +kernel, rfl, by decide +kernel, by decide +kernel⟩
theorem ok__law_copies {f : Addr} {fd : FuncData} (F : Fun K (Str.ofString "_law_copies") (Str.ofString "_law_copies") s__law_copies f fd) (n_list : mg (Str.ofString "list") = none) : FnOk P w K mg base (L2N.CX P w) 1 f fd [(Str.ofString "_law_offers_here")] (spN K cl 1 m__law_copies) :=
  have nd := (sc__law_copies).nd
  def_N F sc__law_copies (by decide) (fun cdv A outer s H E hr => ⟨_, ((uss_one (us_retN (un_lc calm_cx nd (UI.weak (ui_v (ue_var (pv 0)))) (blkOk_by (own := [((Str.ofString "_law_listed_here"), 1)]) (by kernel_rfl)) (by decide) (fun _ _ _ _ _ => ⟨_, (ug_name (pg_name (i := 1) nd rfl (by first | exact Or.inl rfl | exact Or.inr rfl)))⟩) (fun _ _ _ _ _ => ⟨_, uts_nil⟩) (fun _ _ _ _ _ => ⟨_, (UN.e (un_callTL call_list_of ca_listL n_list boot_list (ual (ul_var (pv 1)))))⟩) rfl))) : USs (cxOf (L2N.CX P w) P w K mg base [(Str.ofString "_law_offers_here"), (Str.ofString "_law_listed_here")] (Str.ofString "_law_copies") (defScope s__law_copies) f cdv A outer s H E) cl (WD E) [] _ _ _ b__law_copies)⟩)
theorem sc_amount_at : FnScope [(Str.ofString "listed"), (Str.ofString "bundle"), (Str.ofString "offer")] [(Str.ofString "listed"), (Str.ofString "bundle")] (defScope s_amount_at) := ⟨rfl, rfl, rfl, by decide +kernel, rfl, by decide +kernel, by decide +kernel⟩
theorem ok_amount_at {f : Addr} {fd : FuncData} (F : Fun K (Str.ofString "amount_at") (Str.ofString "amount_at") s_amount_at f fd)  : FnOk P w K mg base (L2N.CX P w) 1 f fd [(Str.ofString "listed"), (Str.ofString "bundle")] (spV K cl 2 m_amount_at) :=
  have nd := (sc_amount_at).nd
  def_V F sc_amount_at (by decide) (fun cdv A outer s H E hr => ⟨_, ((uss_cons (us_if (ut_cm (c_eq (cl := cl) hr.units) (ue_var (pv 1)) ue_int) (uss_one (us_ret ue_int)) uss_nil)
  (uss_cons (us_for [0, 2] po_cx calm_cx (ui_v (ue_var (pv 0))) (ug_name (pg_name (i := 2) nd rfl (by first | exact Or.inl rfl | exact Or.inr rfl))) (uss_W [0, 2] (uss_one (us_if (ut_cm (c_eq (cl := cl) hr.units) (ue_ix (ul_var (pv 2)) ue_int) (ue_var (pv 1))) (uss_one (us_ret (ue_ix (ul_var (pv 2)) ue_int))) uss_nil))) (by decide))
  (uss_one (us_ret ue_non)))) : USs (cxOf (L2N.CX P w) P w K mg base [(Str.ofString "listed"), (Str.ofString "bundle"), (Str.ofString "offer")] (Str.ofString "amount_at") (defScope s_amount_at) f cdv A outer s H E) cl (WD E) [] _ _ _ b_amount_at)⟩)
theorem sc_plan_worth : FnScope [(Str.ofString "offers"), (Str.ofString "plan"), (Str.ofString "found"), (Str.ofString "listed"), (Str.ofString "bundle")] [(Str.ofString "offers"), (Str.ofString "plan")] (defScope s_plan_worth) := ⟨rfl, rfl, rfl, by decide +kernel, rfl, by decide +kernel, by decide +kernel⟩
theorem ok_plan_worth {f : Addr} {fd : FuncData} (F : Fun K (Str.ofString "plan_worth") (Str.ofString "plan_worth") s_plan_worth f fd) (n_zip : mg (Str.ofString "zip") = none) (c_amount_at : Cal P w K mg base 1 (Str.ofString "amount_at") [(Str.ofString "listed"), (Str.ofString "bundle")] (spV K cl 2 m_amount_at)) : FnOk P w K mg base (L2N.CX P w) 2 f fd [(Str.ofString "offers"), (Str.ofString "plan")] (spV K cl 2 m_plan_worth) :=
  have nd := (sc_plan_worth).nd
  def_V F sc_plan_worth (by decide) (fun cdv A outer s H E hr => ⟨_, ((uss_cons (us_set (i := 2) nd rfl (by first | exact Or.inl rfl | exact Or.inr rfl) ue_int (by decide))
  (uss_cons (us_for [0, 1, 3, 4] po_cx calm_cx (ui_zip n_zip (ua_cons (ue_var (pv 0)) (ua_cons (ue_var (pv 1)) ua_nil))) (ug_tup calm_cx (ugs_cons (ug_name (pg_name (i := 3) nd rfl (by first | exact Or.inl rfl | exact Or.inr rfl))) (ugs_cons (ug_name (pg_name (i := 4) nd rfl (by first | exact Or.inl rfl | exact Or.inr rfl))) ugs_nil))) (uss_W [0, 1, 3, 4] (uss_one (us_aug (i := 2) nd rfl (by first | exact Or.inl rfl | exact Or.inr rfl) (ue_call c_amount_at (hr.mono (by decide)) tk_cx rfl (ua_cons (ue_var (pv 3)) (ua_cons (ue_var (pv 4)) ua_nil)) (dCons_len (dCons_len dNil_len))) ip_add aug_add (by decide)))) (by decide))
  (uss_one (us_ret (ue_var (pv 2)))))) : USs (cxOf (L2N.CX P w) P w K mg base [(Str.ofString "offers"), (Str.ofString "plan"), (Str.ofString "found"), (Str.ofString "listed"), (Str.ofString "bundle")] (Str.ofString "plan_worth") (defScope s_plan_worth) f cdv A outer s H E) cl (WD E) [] _ _ _ b_plan_worth)⟩)
theorem sc__law_spoilt : FnScope [(Str.ofString "_law_offers_here"), (Str.ofString "_law_plan"), (Str.ofString "_law_cell"), (Str.ofString "_law_part"), (Str.ofString "_law_way"), (Str.ofString "_law_made"), (Str.ofString "_law_at"), (Str.ofString "_law_one"), (Str.ofString "_law_bit"), (Str.ofString "_law_beside"), (Str.ofString "_law_odd"), (Str.ofString "_law_offer")] [(Str.ofString "_law_offers_here"), (Str.ofString "_law_plan"), (Str.ofString "_law_cell"), (Str.ofString "_law_part")] (defScope s__law_spoilt) := ⟨rfl, rfl, rfl, by decide +kernel, rfl, by decide +kernel, by decide +kernel⟩
theorem ok__law_spoilt {f : Addr} {fd : FuncData} (F : Fun K (Str.ofString "_law_spoilt") (Str.ofString "_law_spoilt") s__law_spoilt f fd) (n_tuple : mg (Str.ofString "tuple") = none) (n_list : mg (Str.ofString "list") = none) (n_len : mg (Str.ofString "len") = none) : FnOk P w K mg base (L2N.CX P w) 1 f fd [(Str.ofString "_law_offers_here"), (Str.ofString "_law_plan"), (Str.ofString "_law_cell"), (Str.ofString "_law_part")] (spV K cl 4 m__law_spoilt) :=
  have nd := (sc__law_spoilt).nd
  def_V F sc__law_spoilt (by decide) (fun cdv A outer s H E hr => ⟨_, ((uss_cons (us_set (i := 4) nd rfl (by first | exact Or.inl rfl | exact Or.inr rfl) (ue_mod (ue_var (pv 2)) ue_int) (by decide))
  (uss_cons (us_if (ut_cm c_lt (ue_var (pv 4)) ue_int) (uss_one (us_ret (ue_var (pv 1)))) uss_nil)
  (uss_cons (us_if (ut_cm (c_eq (cl := cl) hr.units) (ue_var (pv 4)) ue_int) (uss_one (us_ret (ue_add (ue_var (pv 1)) (UN.e (un_lst (ua_cons ue_int ua_nil)))))) uss_nil)
  (uss_cons (us_if (ut_cm (c_eq (cl := cl) hr.units) (ue_var (pv 4)) ue_int) (uss_one (us_ret (UN.e (un_slice (ul_var (pv 1)) (uo_some ue_int) uo_none)))) uss_nil)
  (uss_cons (us_if (ut_cm (c_eq (cl := cl) hr.units) (ue_var (pv 4)) ue_int) (uss_one (us_ret (ue_callTL call_tuple_of ca_tupL n_tuple boot_tuple (ual (ul_var (pv 1)))))) uss_nil)
  (uss_cons (us_if (ut_cm (c_eq (cl := cl) hr.units) (ue_var (pv 4)) ue_int) (uss_one (us_ret (ue_ix (UN.l (un_lst (ua_cons ue_non (ua_cons ue_int (ua_cons ue_str (ua_cons (UN.e un_dict0) (ua_cons ue_bl ua_nil))))))) (ue_mod (ue_var (pv 3)) ue_int)))) uss_nil)
  (uss_cons (us_setN (i := 5) nd rfl (by first | exact Or.inl rfl | exact Or.inr rfl) (un_callTL call_list_of ca_listL n_list boot_list (ual (ul_var (pv 1)))) (by decide))
  (uss_cons (us_if (ut_cm c_gt (ue_callBL call_len_seq ca_lenL n_len PySem.boot_len (ual (ul_var (pv 5)))) ue_int) (uss_cons (us_set (i := 6) nd rfl (by first | exact Or.inl rfl | exact Or.inr rfl) (ue_mod (ue_var (pv 3)) (ue_callBL call_len_seq ca_lenL n_len PySem.boot_len (ual (ul_var (pv 5))))) (by decide))
  (uss_cons (us_set (i := 7) nd rfl (by first | exact Or.inl rfl | exact Or.inr rfl) (ue_mod (ue_fdiv (ue_var (pv 2)) ue_int) ue_int) (by decide))
  (uss_cons (us_set (i := 8) nd rfl (by first | exact Or.inl rfl | exact Or.inr rfl) (ue_shl ue_int (ue_mod (ue_fdiv (ue_var (pv 2)) ue_int) ue_int)) (by decide))
  (uss_cons (us_set (i := 9) nd rfl (by first | exact Or.inl rfl | exact Or.inr rfl) (ue_add (UN.e (un_lc calm_cx nd (UI.weak (ui_v (ue_ix (ul_var (pv 0)) (ue_mod (ue_add (ue_var (pv 6)) ue_int) (ue_callBL call_len_seq ca_lenL n_len PySem.boot_len (ual (ul_var (pv 5)))))))) (blkOk_by (own := [((Str.ofString "_law_offer"), 11)]) (by kernel_rfl)) (by decide) (fun _ _ _ _ _ => ⟨_, (ug_name (pg_name (i := 11) nd rfl (by first | exact Or.inl rfl | exact Or.inr rfl)))⟩) (fun _ _ _ _ _ => ⟨_, uts_nil⟩) (fun _ _ _ _ _ => ⟨_, (ue_ix (ul_var (pv 11)) ue_int)⟩) rfl)) (UN.e (un_lst (ua_cons (ue_var (pv 7)) ua_nil)))) (by decide))
  (uss_cons (us_set (i := 10) nd rfl (by first | exact Or.inl rfl | exact Or.inr rfl) (UN.e (un_lst (ua_cons (ue_var (pv 7)) (ua_cons (ue_sub (ue_neg ue_int) (ue_var (pv 7))) (ua_cons ue_bl (ua_cons ue_bl (ua_cons ue_non (ua_cons ue_str (ua_cons (ue_tup (ua_cons ue_int ua_nil)) (ua_cons (UN.e (un_lst (ua_cons ue_int ua_nil))) (ua_cons (ue_bor (ue_ix (ul_var (pv 5)) (ue_var (pv 6))) (ue_var (pv 8))) (ua_cons (ue_sub (ue_ix (ul_var (pv 5)) (ue_var (pv 6))) (ue_band (ue_ix (ul_var (pv 5)) (ue_var (pv 6))) (ue_var (pv 8)))) ua_nil)))))))))))) (by decide))
  (uss_cons (us_set (i := 10) nd rfl (by first | exact Or.inl rfl | exact Or.inr rfl) (ue_add (ue_var (pv 10)) (UN.e (un_lst (ua_cons (ue_ix (ul_var (pv 9)) (ue_mod (ue_fdiv (ue_var (pv 2)) ue_int) (ue_callBL call_len_seq ca_lenL n_len PySem.boot_len (ual (ul_var (pv 9)))))) (ua_cons (ue_ix (ul_var (pv 1)) (ue_mod (ue_add (ue_var (pv 6)) ue_int) (ue_callBL call_len_seq ca_lenL n_len PySem.boot_len (ual (ul_var (pv 5)))))) ua_nil))))) (by decide))
  (uss_one (us_setitem (pv 5) (ue_var (pv 6)) (ue_ix (ul_var (pv 10)) (ue_mod (ue_fdiv (ue_var (pv 2)) ue_int) ue_int)) (ps_asg (UE.pe (cl := cl) (W := (WD E)) (ue_ix (ul_var (pv 10)) (ue_mod (ue_fdiv (ue_var (pv 2)) ue_int) ue_int))) (pg_sub (pv 5) (UE.pe (cl := cl) (W := (WD E)) (ue_var (pv 6))) set_list)))))))))) uss_nil)
  (uss_one (us_frz 5 (us_ret (ue_var (pv 5))))))))))))) : USs (cxOf (L2N.CX P w) P w K mg base [(Str.ofString "_law_offers_here"), (Str.ofString "_law_plan"), (Str.ofString "_law_cell"), (Str.ofString "_law_part"), (Str.ofString "_law_way"), (Str.ofString "_law_made"), (Str.ofString "_law_at"), (Str.ofString "_law_one"), (Str.ofString "_law_bit"), (Str.ofString "_law_beside"), (Str.ofString "_law_odd"), (Str.ofString "_law_offer")] (Str.ofString "_law_spoilt") (defScope s__law_spoilt) f cdv A outer s H E) cl (WD E) [] _ _ _ b__law_spoilt)⟩)
theorem sc_apart : FnScope [(Str.ofString "one"), (Str.ofString "other")] [(Str.ofString "one"), (Str.ofString "other")] (defScope s_apart) := ⟨rfl, rfl, rfl, by decide +kernel, rfl, by decide +kernel, by decide +kernel⟩
theorem ok_apart {f : Addr} {fd : FuncData} (F : Fun K (Str.ofString "apart") (Str.ofString "apart") s_apart f fd)  : FnOk P w K mg base (L2N.CX P w) 1 f fd [(Str.ofString "one"), (Str.ofString "other")] (spV K cl 2 m_apart) :=
  have nd := (sc_apart).nd
  def_V F sc_apart (by decide) (fun cdv A outer s H E hr => ⟨_, ((uss_one (us_ret (ue_cm (c_eq (cl := cl) hr.units) (ue_band (ue_var (pv 0)) (ue_var (pv 1))) ue_int))) : USs (cxOf (L2N.CX P w) P w K mg base [(Str.ofString "one"), (Str.ofString "other")] (Str.ofString "apart") (defScope s_apart) f cdv A outer s H E) cl (WD E) [] _ _ _ b_apart)⟩)
theorem sc_is_whole : FnScope [(Str.ofString "thing")] [(Str.ofString "thing")] (defScope s_is_whole) := ⟨rfl, rfl, rfl, by decide +kernel, rfl, by decide +kernel, by decide +kernel⟩
theorem ok_is_whole {f : Addr} {fd : FuncData} (F : Fun K (Str.ofString "is_whole") (Str.ofString "is_whole") s_is_whole f fd) (n_isinstance : mg (Str.ofString "isinstance") = none) (n_int : mg (Str.ofString "int") = none) (n_bool : mg (Str.ofString "bool") = none) : FnOk P w K mg base (L2N.CX P w) 1 f fd [(Str.ofString "thing")] (spV K cl 1 m_is_whole) :=
  have nd := (sc_is_whole).nd
  def_V F sc_is_whole (by decide) (fun cdv A outer s H E hr => ⟨_, ((uss_one (us_ret (ue_and (ue_isi .int n_isinstance n_int (ue_var (pv 0))) (ue_one (ue_not (ue_isi .bool n_isinstance n_bool (ue_var (pv 0)))))))) : USs (cxOf (L2N.CX P w) P w K mg base [(Str.ofString "thing")] (Str.ofString "is_whole") (defScope s_is_whole) f cdv A outer s H E) cl (WD E) [] _ _ _ b_is_whole)⟩)
theorem sc_is_plan : FnScope [(Str.ofString "many"), (Str.ofString "offers"), (Str.ofString "plan"), (Str.ofString "taken"), (Str.ofString "who"), (Str.ofString "bundle")] [(Str.ofString "many"), (Str.ofString "offers"), (Str.ofString "plan")] (defScope s_is_plan) := ⟨rfl, rfl, rfl, by decide +kernel, rfl, by decide +kernel, by decide +kernel⟩
theorem ok_is_plan {f : Addr} {fd : FuncData} (F : Fun K (Str.ofString "is_plan") (Str.ofString "is_plan") s_is_plan f fd) (n_isinstance : mg (Str.ofString "isinstance") = none) (n_list : mg (Str.ofString "list") = none) (n_len : mg (Str.ofString "len") = none) (n_range : mg (Str.ofString "range") = none) (c_is_whole : Cal P w K mg base 1 (Str.ofString "is_whole") [(Str.ofString "thing")] (spV K cl 1 m_is_whole)) (c_amount_at : Cal P w K mg base 1 (Str.ofString "amount_at") [(Str.ofString "listed"), (Str.ofString "bundle")] (spV K cl 2 m_amount_at)) (c_apart : Cal P w K mg base 1 (Str.ofString "apart") [(Str.ofString "one"), (Str.ofString "other")] (spV K cl 2 m_apart)) : FnOk P w K mg base (L2N.CX P w) 2 f fd [(Str.ofString "many"), (Str.ofString "offers"), (Str.ofString "plan")] (spV K cl 3 m_is_plan) :=
  have nd := (sc_is_plan).nd
  def_V F sc_is_plan (by decide) (fun cdv A outer s H E hr => ⟨_, ((uss_cons (us_if (UW.t (uw_or (ut_not (ut_val (ue_isi .list n_isinstance n_list (ue_var (pv 2))))) (uw_or1 (ut_cm (c_ne (cl := cl) hr.units) (ue_callBL call_len_seq ca_lenL n_len PySem.boot_len (ual (ul_var (pv 2)))) (ue_callBL call_len_seq ca_lenL n_len PySem.boot_len (ual (ul_var (pv 1)))))))) (uss_one (us_ret ue_bl)) uss_nil)
  (uss_cons (us_set (i := 3) nd rfl (by first | exact Or.inl rfl | exact Or.inr rfl) ue_int (by decide))
  (uss_cons (us_for [4, 5] po_cx calm_cx (ui_range1 n_range (ua_cons (ue_callBL call_len_seq ca_lenL n_len PySem.boot_len (ual (ul_var (pv 2)))) ua_nil)) (ug_name (pg_name (i := 4) nd rfl (by first | exact Or.inl rfl | exact Or.inr rfl))) (uss_W [4, 5] (uss_cons (us_set (i := 5) nd rfl (by first | exact Or.inl rfl | exact Or.inr rfl) (ue_ix (ul_var (pv 2)) (ue_var (pv 4))) (by decide))
  (uss_cons (us_if (UW.t (uw_or (ut_not (ut_val (ue_call c_is_whole (hr.mono (by decide)) tk_cx rfl (ua_cons (ue_var (pv 5)) ua_nil) (dCons_len dNil_len)))) (uw_or1 (ut_cm c_isN (ue_call c_amount_at (hr.mono (by decide)) tk_cx rfl (ua_cons (ue_ix (ul_var (pv 1)) (ue_var (pv 4))) (ua_cons (ue_var (pv 5)) ua_nil)) (dCons_len (dCons_len dNil_len))) ue_non)))) (uss_one (us_ret ue_bl)) uss_nil)
  (uss_cons (us_if (ut_not (ut_val (ue_call c_apart (hr.mono (by decide)) tk_cx rfl (ua_cons (ue_var (pv 3)) (ua_cons (ue_var (pv 5)) ua_nil)) (dCons_len (dCons_len dNil_len))))) (uss_one (us_ret ue_bl)) uss_nil)
  (uss_one (us_set (i := 3) nd rfl (by first | exact Or.inl rfl | exact Or.inr rfl) (ue_bor (ue_var (pv 3)) (ue_var (pv 5))) (by decide))))))) (by decide))
  (uss_one (us_ret (ue_cm c_lt (ue_var (pv 3)) (ue_shl ue_int (ue_var (pv 0))))))))) : USs (cxOf (L2N.CX P w) P w K mg base [(Str.ofString "many"), (Str.ofString "offers"), (Str.ofString "plan"), (Str.ofString "taken"), (Str.ofString "who"), (Str.ofString "bundle")] (Str.ofString "is_plan") (defScope s_is_plan) f cdv A outer s H E) cl (WD E) [] _ _ _ b_is_plan)⟩)
theorem sc__law_whole : FnScope [(Str.ofString "_law_found")] [(Str.ofString "_law_found")] (defScope s__law_whole) := ⟨rfl, rfl, rfl, by decide +kernel, rfl, by decide +kernel, by decide +kernel⟩
theorem ok__law_whole {f : Addr} {fd : FuncData} (F : Fun K (Str.ofString "_law_whole") (Str.ofString "_law_whole") s__law_whole f fd) (n_isinstance : mg (Str.ofString "isinstance") = none) (n_int : mg (Str.ofString "int") = none) (n_bool : mg (Str.ofString "bool") = none) : FnOk P w K mg base (L2N.CX P w) 1 f fd [(Str.ofString "_law_found")] (spV K cl 1 m__law_whole) :=
  have nd := (sc__law_whole).nd
  def_V F sc__law_whole (by decide) (fun cdv A outer s H E hr => ⟨_, ((uss_one (us_ret (ue_and (ue_isi .int n_isinstance n_int (ue_var (pv 0))) (ue_one (ue_not (ue_isi .bool n_isinstance n_bool (ue_var (pv 0)))))))) : USs (cxOf (L2N.CX P w) P w K mg base [(Str.ofString "_law_found")] (Str.ofString "_law_whole") (defScope s__law_whole) f cdv A outer s H E) cl (WD E) [] _ _ _ b__law_whole)⟩)
theorem sc__law_is_plan : FnScope [(Str.ofString "_law_offers_here"), (Str.ofString "_law_thing"), (Str.ofString "_law_taken"), (Str.ofString "_law_k"), (Str.ofString "_law_offer")] [(Str.ofString "_law_offers_here"), (Str.ofString "_law_thing")] (defScope s__law_is_plan) := ⟨rfl, rfl, rfl, by decide +kernel, rfl, by decide +kernel, by decide +kernel⟩
theorem ok__law_is_plan {f : Addr} {fd : FuncData} (F : Fun K (Str.ofString "_law_is_plan") (Str.ofString "_law_is_plan") s__law_is_plan f fd) (n_isinstance : mg (Str.ofString "isinstance") = none) (n_list : mg (Str.ofString "list") = none) (n_len : mg (Str.ofString "len") = none) (n_range : mg (Str.ofString "range") = none) (c__law_whole : Cal P w K mg base 1 (Str.ofString "_law_whole") [(Str.ofString "_law_found")] (spV K cl 1 m__law_whole)) : FnOk P w K mg base (L2N.CX P w) 2 f fd [(Str.ofString "_law_offers_here"), (Str.ofString "_law_thing")] (spV K cl 2 m__law_is_plan) :=
  have nd := (sc__law_is_plan).nd
  def_V F sc__law_is_plan (by decide) (fun cdv A outer s H E hr => ⟨_, ((uss_cons (us_if (UW.t (uw_or (ut_not (ut_val (ue_isi .list n_isinstance n_list (ue_var (pv 1))))) (uw_or1 (ut_cm (c_ne (cl := cl) hr.units) (ue_callBL call_len_seq ca_lenL n_len PySem.boot_len (ual (ul_var (pv 1)))) (ue_callBL call_len_seq ca_lenL n_len PySem.boot_len (ual (ul_var (pv 0)))))))) (uss_one (us_ret ue_bl)) uss_nil)
  (uss_cons (us_set (i := 2) nd rfl (by first | exact Or.inl rfl | exact Or.inr rfl) ue_int (by decide))
  (uss_cons (us_for [3] po_cx calm_cx (ui_range1 n_range (ua_cons (ue_callBL call_len_seq ca_lenL n_len PySem.boot_len (ual (ul_var (pv 1)))) ua_nil)) (ug_name (pg_name (i := 3) nd rfl (by first | exact Or.inl rfl | exact Or.inr rfl))) (uss_W [3] (uss_cons (us_if (UW.t (uw_or (ut_not (ut_val (ue_call c__law_whole (hr.mono (by decide)) tk_cx rfl (ua_cons (ue_ix (ul_var (pv 1)) (ue_var (pv 3))) ua_nil) (dCons_len dNil_len)))) (uw_or (ut_cm c_lt (ue_ix (ul_var (pv 1)) (ue_var (pv 3))) ue_int) (uw_or1 (ut_cm c_gt (ue_band (ue_var (pv 2)) (ue_ix (ul_var (pv 1)) (ue_var (pv 3)))) ue_int))))) (uss_one (us_ret ue_bl)) uss_nil)
  (uss_cons (us_if (ut_notin (ue_ix (ul_var (pv 1)) (ue_var (pv 3))) (UE.l (ue_add (UN.e (un_lst (ua_cons ue_int ua_nil))) (UN.e (un_lc calm_cx nd (UI.weak (ui_v (ue_ix (ul_var (pv 0)) (ue_var (pv 3))))) (blkOk_by (own := [((Str.ofString "_law_offer"), 4)]) (by kernel_rfl)) (by decide) (fun _ _ _ _ _ => ⟨_, (ug_name (pg_name (i := 4) nd rfl (by first | exact Or.inl rfl | exact Or.inr rfl)))⟩) (fun _ _ _ _ _ => ⟨_, uts_nil⟩) (fun _ _ _ _ _ => ⟨_, (ue_ix (ul_var (pv 4)) ue_int)⟩) rfl))))) (uss_one (us_ret ue_bl)) uss_nil)
  (uss_one (us_set (i := 2) nd rfl (by first | exact Or.inl rfl | exact Or.inr rfl) (ue_bor (ue_var (pv 2)) (ue_ix (ul_var (pv 1)) (ue_var (pv 3)))) (by decide)))))) (by decide))
  (uss_one (us_ret ue_bl))))) : USs (cxOf (L2N.CX P w) P w K mg base [(Str.ofString "_law_offers_here"), (Str.ofString "_law_thing"), (Str.ofString "_law_taken"), (Str.ofString "_law_k"), (Str.ofString "_law_offer")] (Str.ofString "_law_is_plan") (defScope s__law_is_plan) f cdv A outer s H E) cl (WD E) [] _ _ _ b__law_is_plan)⟩)
theorem sc_law : FnScope [(Str.ofString "_law_script"), (Str.ofString "_law_many"), (Str.ofString "_law_offers_here"), (Str.ofString "_law_plan"), (Str.ofString "_law_loose"), (Str.ofString "_law_taken"), (Str.ofString "_law_due"), (Str.ofString "_law_who"), (Str.ofString "_law_handed"), (Str.ofString "_law_given"), (Str.ofString "_law_worth"), (Str.ofString "_law_thing"), (Str.ofString "_law_kept"), (Str.ofString "_law_found"), (Str.ofString "_law_chosen")] [(Str.ofString "_law_script")] (defScope s_law) := ⟨rfl, rfl, rfl, by decide +kernel, rfl, by decide +kernel, by decide +kernel⟩
theorem ok_law {f : Addr} {fd : FuncData} (F : Fun K (Str.ofString "law") (Str.ofString "law") s_law f fd) (c__law_cell_at : Cal P w K mg base 1 (Str.ofString "_law_cell_at") [(Str.ofString "_law_script"), (Str.ofString "_law_k")] (spV K cl 2 m__law_cell_at)) (c__law_offers : Cal P w K mg base 3 (Str.ofString "_law_offers") [(Str.ofString "_law_script"), (Str.ofString "_law_at"), (Str.ofString "_law_many"), (Str.ofString "_law_bidders"), (Str.ofString "_law_most")] (spN K cl 5 m__law_offers)) (n_len : mg (Str.ofString "len") = none) (n_range : mg (Str.ofString "range") = none) (c__law_copies : Cal P w K mg base 1 (Str.ofString "_law_copies") [(Str.ofString "_law_offers_here")] (spN K cl 1 m__law_copies)) (n_list : mg (Str.ofString "list") = none) (c_plan_worth : Cal P w K mg base 2 (Str.ofString "plan_worth") [(Str.ofString "offers"), (Str.ofString "plan")] (spV K cl 2 m_plan_worth)) (c__law_whole : Cal P w K mg base 1 (Str.ofString "_law_whole") [(Str.ofString "_law_found")] (spV K cl 1 m__law_whole)) (c_is_plan : Cal P w K mg base 2 (Str.ofString "is_plan") [(Str.ofString "many"), (Str.ofString "offers"), (Str.ofString "plan")] (spV K cl 3 m_is_plan)) (c__law_spoilt : Cal P w K mg base 1 (Str.ofString "_law_spoilt") [(Str.ofString "_law_offers_here"), (Str.ofString "_law_plan"), (Str.ofString "_law_cell"), (Str.ofString "_law_part")] (spV K cl 4 m__law_spoilt)) (n_repr : mg (Str.ofString "repr") = none) (n_isinstance : mg (Str.ofString "isinstance") = none) (n_bool : mg (Str.ofString "bool") = none) (c__law_is_plan : Cal P w K mg base 2 (Str.ofString "_law_is_plan") [(Str.ofString "_law_offers_here"), (Str.ofString "_law_thing")] (spV K cl 2 m__law_is_plan)) : GOk P w K mg base (L2N.CX P w) 4 f fd [(Str.ofString "_law_script")] (spV K cl 1 m_law) :=
  have nd := (sc_law).nd
  gok_V F sc_law (by decide) (fun cdv A outer s H E hr hgd => ⟨_, ((uss_cons (us_set (i := 1) nd rfl (by first | exact Or.inl rfl | exact Or.inr rfl) (ue_mod (ue_call c__law_cell_at (hr.mono (by decide)) tk_cx rfl (ua_cons (ue_var (pv 0)) (ua_cons ue_int ua_nil)) (dCons_len (dCons_len dNil_len))) ue_int) (by decide))
  (uss_cons (us_set (i := 2) nd rfl (by first | exact Or.inl rfl | exact Or.inr rfl) (UN.e (un_call c__law_offers (hr.mono (by decide)) tk_cx rfl (ua_cons (ue_var (pv 0)) (ua_cons ue_int (ua_cons (ue_var (pv 1)) (ua_cons (ue_mod (ue_call c__law_cell_at (hr.mono (by decide)) tk_cx rfl (ua_cons (ue_var (pv 0)) (ua_cons ue_int ua_nil)) (dCons_len (dCons_len dNil_len))) ue_int) (ua_cons ue_int ua_nil))))) (dCons_len (dCons_len (dCons_len (dCons_len (dCons_len dNil_len))))))) (by decide))
  (uss_cons (us_setN (i := 3) nd rfl (by first | exact Or.inl rfl | exact Or.inr rfl) (un_lst ua_nil) (by decide))
  (uss_cons (us_setN (i := 4) nd rfl (by first | exact Or.inl rfl | exact Or.inr rfl) (un_lst ua_nil) (by decide))
  (uss_cons (us_set (i := 5) nd rfl (by first | exact Or.inl rfl | exact Or.inr rfl) ue_int (by decide))
  (uss_cons (us_set (i := 6) nd rfl (by first | exact Or.inl rfl | exact Or.inr rfl) ue_int (by decide))
  (uss_cons (us_for [7, 14] po_cx calm_cx (ui_range1 n_range (ua_cons (ue_callBL call_len_seq ca_lenL n_len PySem.boot_len (ual (ul_var (pv 2)))) ua_nil)) (ug_name (pg_name (i := 7) nd rfl (by first | exact Or.inl rfl | exact Or.inr rfl))) (uss_W [7, 14] (uss_cons (us_set (i := 14) nd rfl (by first | exact Or.inl rfl | exact Or.inr rfl) (ue_tup (ua_cons ue_int (ua_cons ue_int ua_nil))) (by decide))
  (uss_cons (us_if (UW.t (uw_and (ut_cm c_gt (ue_callB call_len ca_len n_len PySem.boot_len (ua_cons (ue_ix (ul_var (pv 2)) (ue_var (pv 7))) ua_nil)) ue_int) (uw_and1 (ut_cm c_gt (ue_mod (ue_call c__law_cell_at (hr.mono (by decide)) tk_cx rfl (ua_cons (ue_var (pv 0)) (ua_cons (ue_add ue_int (ue_var (pv 7))) ua_nil)) (dCons_len (dCons_len dNil_len))) ue_int) ue_int)))) (uss_one (us_set (i := 14) nd rfl (by first | exact Or.inl rfl | exact Or.inr rfl) (ue_ix (UE.l (ue_ix (ul_var (pv 2)) (ue_var (pv 7)))) (ue_mod (ue_fdiv (ue_call c__law_cell_at (hr.mono (by decide)) tk_cx rfl (ua_cons (ue_var (pv 0)) (ua_cons (ue_add ue_int (ue_var (pv 7))) ua_nil)) (dCons_len (dCons_len dNil_len))) ue_int) (ue_callB call_len ca_len n_len PySem.boot_len (ua_cons (ue_ix (ul_var (pv 2)) (ue_var (pv 7))) ua_nil)))) (by decide))) uss_nil)
  (uss_cons (us_append (pv 4) (UE.x (ue_ix (ul_var (pv 14)) ue_int)) dX_same (pe_bm PySem.F.plainAttrs_list PySem.F.slot_list_append PySem.F.type_list_append mt_append (pv 4) (pa_cons (UX.pe (cl := cl) (UE.x (ue_ix (ul_var (pv 14)) ue_int))) pa_nil)))
  (uss_cons (us_if (ut_cm c_gt (ue_band (ue_var (pv 5)) (ue_ix (ul_var (pv 14)) ue_int)) ue_int) (uss_one (us_set (i := 14) nd rfl (by first | exact Or.inl rfl | exact Or.inr rfl) (ue_tup (ua_cons ue_int (ua_cons ue_int ua_nil))) (by decide))) uss_nil)
  (uss_cons (us_append (pv 3) (UE.x (ue_ix (ul_var (pv 14)) ue_int)) dX_same (pe_bm PySem.F.plainAttrs_list PySem.F.slot_list_append PySem.F.type_list_append mt_append (pv 3) (pa_cons (UX.pe (cl := cl) (UE.x (ue_ix (ul_var (pv 14)) ue_int))) pa_nil)))
  (uss_cons (us_set (i := 5) nd rfl (by first | exact Or.inl rfl | exact Or.inr rfl) (ue_bor (ue_var (pv 5)) (ue_ix (ul_var (pv 14)) ue_int)) (by decide))
  (uss_one (us_set (i := 6) nd rfl (by first | exact Or.inl rfl | exact Or.inr rfl) (ue_add (ue_var (pv 6)) (ue_ix (ul_var (pv 14)) ue_int)) (by decide)))))))))) (by decide))
  (uss_cons (us_set (i := 8) nd rfl (by first | exact Or.inl rfl | exact Or.inr rfl) (UN.e (un_call c__law_copies (hr.mono (by decide)) tk_cx rfl (ua_cons (ue_var (pv 2)) ua_nil) (dCons_len dNil_len))) (by decide))
  (uss_cons (us_set (i := 9) nd rfl (by first | exact Or.inl rfl | exact Or.inr rfl) (UN.e (un_callTL call_list_of ca_listL n_list boot_list (ual (ul_var (pv 3))))) (by decide))
  (uss_cons (us_set (i := 10) nd rfl (by first | exact Or.inl rfl | exact Or.inr rfl) (ue_call c_plan_worth (hr.mono (by decide)) tk_cx rfl (ua_cons (ue_var (pv 8)) (ua_cons (ue_var (pv 9)) ua_nil)) (dCons_len (dCons_len dNil_len))) (by decide))
  (uss_cons (us_frz 3 (us_if (UW.t (uw_or (ut_not (ut_val (ue_call c__law_whole (hr.mono (by decide)) tk_cx rfl (ua_cons (ue_var (pv 10)) ua_nil) (dCons_len dNil_len)))) (uw_or (ut_cm (c_ne (cl := cl) hr.units) (ue_var (pv 10)) (ue_var (pv 6))) (uw_or (ut_cm c_notB (ue_call c_is_plan (hr.mono (by decide)) tk_cx rfl (ua_cons (ue_var (pv 1)) (ua_cons (ue_var (pv 8)) (ua_cons (ue_var (pv 9)) ua_nil))) (dCons_len (dCons_len (dCons_len dNil_len)))) ue_bl) (uw_or1 (ut_cm (c_ne (cl := cl) hr.units) (ue_var (pv 9)) (ue_var (pv 3)))))))) (uss_one (us_ret ue_bl)) uss_nil))
  (uss_cons (us_frz 4 (us_set (i := 11) nd rfl (by first | exact Or.inl rfl | exact Or.inr rfl) (ue_call c__law_spoilt (hr.mono (by decide)) tk_cx rfl (ua_cons (ue_var (pv 2)) (ua_cons (ue_var (pv 4)) (ua_cons (ue_call c__law_cell_at (hr.mono (by decide)) tk_cx rfl (ua_cons (ue_var (pv 0)) (ua_cons ue_int ua_nil)) (dCons_len (dCons_len dNil_len))) (ua_cons (ue_call c__law_cell_at (hr.mono (by decide)) tk_cx rfl (ua_cons (ue_var (pv 0)) (ua_cons ue_int ua_nil)) (dCons_len (dCons_len dNil_len))) ua_nil)))) (dCons_len (dCons_len (dCons_len (dCons_len dNil_len))))) (by decide)))
  (uss_cons (us_set (i := 12) nd rfl (by first | exact Or.inl rfl | exact Or.inr rfl) (ue_callB (call_rep hgd hr.units) ca_rep n_repr bootS_repr (ua_cons (ue_var (pv 11)) ua_nil)) (by decide))
  (uss_cons (us_set (i := 13) nd rfl (by first | exact Or.inl rfl | exact Or.inr rfl) (ue_call c_is_plan (hr.mono (by decide)) tk_cx rfl (ua_cons (ue_var (pv 1)) (ua_cons (ue_var (pv 8)) (ua_cons (ue_var (pv 11)) ua_nil))) (dCons_len (dCons_len (dCons_len dNil_len)))) (by decide))
  (uss_cons (us_if (UW.t (uw_or (ut_cm (c_ne (cl := cl) hr.units) (ue_var (pv 8)) (ue_var (pv 2))) (uw_or1 (ut_cm (c_ne (cl := cl) hr.units) (ue_callB (call_rep hgd hr.units) ca_rep n_repr bootS_repr (ua_cons (ue_var (pv 11)) ua_nil)) (ue_var (pv 12)))))) (uss_one (us_ret ue_bl)) uss_nil)
  (uss_one (us_ret (ue_and (ue_isi .bool n_isinstance n_bool (ue_var (pv 13))) (ue_one (ue_cm (c_eq (cl := cl) hr.units) (ue_var (pv 13)) (ue_call c__law_is_plan (hr.mono (by decide)) tk_cx rfl (ua_cons (ue_var (pv 2)) (ua_cons (ue_var (pv 11)) ua_nil)) (dCons_len (dCons_len dNil_len))))))))))))))))))))))) : USs (cxOf (L2N.CX P w) P w K mg base [(Str.ofString "_law_script"), (Str.ofString "_law_many"), (Str.ofString "_law_offers_here"), (Str.ofString "_law_plan"), (Str.ofString "_law_loose"), (Str.ofString "_law_taken"), (Str.ofString "_law_due"), (Str.ofString "_law_who"), (Str.ofString "_law_handed"), (Str.ofString "_law_given"), (Str.ofString "_law_worth"), (Str.ofString "_law_thing"), (Str.ofString "_law_kept"), (Str.ofString "_law_found"), (Str.ofString "_law_chosen")] (Str.ofString "law") (defScope s_law) f cdv A outer s H E) cl (WD E) [] _ _ _ b_law)⟩)
end
set_option maxHeartbeats 0 in
theorem all_mk {P : Program} {w : World} {K : PySem.W.Frag} {h : Heap} {mg : Str → Option Value} {fa : Addr} (X : K.In h) (G : h.Ns mainGlobals mg) (hfa : mg (Str.ofString "law") = some (.ref fa))
  {f0 : Addr} {od0 an0 : Option Addr} {sl0 : Array (Option Value)} {oc0 kV0 dc0 pm0 cd0 ct0 : Value}
  (a0 : PySem.W.nsIn K mainGlobals (Str.ofString "_law_scale") = some (some (.ref f0)))
  (l0 : K.lookup f0 = some ⟨oc0, od0, .func (PySem.W.fnOf (Str.ofString "_law_scale") (Str.ofString "_law_scale") (defArgs s__law_scale) (defBody s__law_scale) (defScope s__law_scale) .none kV0 dc0 pm0 an0 cd0 ct0), sl0⟩)
  (c0 : PySem.W.codeIn K cd0 (Str.ofString "_law_scale") = true) (k0 : PySem.W.keepIn K (.ref f0) = true)
  {f1 : Addr} {od1 an1 : Option Addr} {sl1 : Array (Option Value)} {oc1 kV1 dc1 pm1 cd1 ct1 : Value}
  (a1 : PySem.W.nsIn K mainGlobals (Str.ofString "_law_cell_at") = some (some (.ref f1)))
  (l1 : K.lookup f1 = some ⟨oc1, od1, .func (PySem.W.fnOf (Str.ofString "_law_cell_at") (Str.ofString "_law_cell_at") (defArgs s__law_cell_at) (defBody s__law_cell_at) (defScope s__law_cell_at) .none kV1 dc1 pm1 an1 cd1 ct1), sl1⟩)
  (c1 : PySem.W.codeIn K cd1 (Str.ofString "_law_cell_at") = true) (k1 : PySem.W.keepIn K (.ref f1) = true)
  {f2 : Addr} {od2 an2 : Option Addr} {sl2 : Array (Option Value)} {oc2 kV2 dc2 pm2 cd2 ct2 : Value}
  (a2 : PySem.W.nsIn K mainGlobals (Str.ofString "_law_offer_by") = some (some (.ref f2)))
  (l2 : K.lookup f2 = some ⟨oc2, od2, .func (PySem.W.fnOf (Str.ofString "_law_offer_by") (Str.ofString "_law_offer_by") (defArgs s__law_offer_by) (defBody s__law_offer_by) (defScope s__law_offer_by) .none kV2 dc2 pm2 an2 cd2 ct2), sl2⟩)
  (c2 : PySem.W.codeIn K cd2 (Str.ofString "_law_offer_by") = true) (k2 : PySem.W.keepIn K (.ref f2) = true)
  {f3 : Addr} {od3 an3 : Option Addr} {sl3 : Array (Option Value)} {oc3 kV3 dc3 pm3 cd3 ct3 : Value}
  (a3 : PySem.W.nsIn K mainGlobals (Str.ofString "_law_listed") = some (some (.ref f3)))
  (l3 : K.lookup f3 = some ⟨oc3, od3, .func (PySem.W.fnOf (Str.ofString "_law_listed") (Str.ofString "_law_listed") (defArgs s__law_listed) (defBody s__law_listed) (defScope s__law_listed) .none kV3 dc3 pm3 an3 cd3 ct3), sl3⟩)
  (c3 : PySem.W.codeIn K cd3 (Str.ofString "_law_listed") = true) (k3 : PySem.W.keepIn K (.ref f3) = true)
  {f4 : Addr} {od4 an4 : Option Addr} {sl4 : Array (Option Value)} {oc4 kV4 dc4 pm4 cd4 ct4 : Value}
  (a4 : PySem.W.nsIn K mainGlobals (Str.ofString "_law_offers") = some (some (.ref f4)))
  (l4 : K.lookup f4 = some ⟨oc4, od4, .func (PySem.W.fnOf (Str.ofString "_law_offers") (Str.ofString "_law_offers") (defArgs s__law_offers) (defBody s__law_offers) (defScope s__law_offers) .none kV4 dc4 pm4 an4 cd4 ct4), sl4⟩)
  (c4 : PySem.W.codeIn K cd4 (Str.ofString "_law_offers") = true) (k4 : PySem.W.keepIn K (.ref f4) = true)
  {f5 : Addr} {od5 an5 : Option Addr} {sl5 : Array (Option Value)} {oc5 kV5 dc5 pm5 cd5 ct5 : Value}
  (a5 : PySem.W.nsIn K mainGlobals (Str.ofString "_law_copies") = some (some (.ref f5)))
  (l5 : K.lookup f5 = some ⟨oc5, od5, .func (PySem.W.fnOf (Str.ofString "_law_copies") (Str.ofString "_law_copies") (defArgs s__law_copies) (defBody s__law_copies) (defScope s__law_copies) .none kV5 dc5 pm5 an5 cd5 ct5), sl5⟩)
  (c5 : PySem.W.codeIn K cd5 (Str.ofString "_law_copies") = true) (k5 : PySem.W.keepIn K (.ref f5) = true)
  {f6 : Addr} {od6 an6 : Option Addr} {sl6 : Array (Option Value)} {oc6 kV6 dc6 pm6 cd6 ct6 : Value}
  (a6 : PySem.W.nsIn K mainGlobals (Str.ofString "amount_at") = some (some (.ref f6)))
  (l6 : K.lookup f6 = some ⟨oc6, od6, .func (PySem.W.fnOf (Str.ofString "amount_at") (Str.ofString "amount_at") (defArgs s_amount_at) (defBody s_amount_at) (defScope s_amount_at) .none kV6 dc6 pm6 an6 cd6 ct6), sl6⟩)
  (c6 : PySem.W.codeIn K cd6 (Str.ofString "amount_at") = true) (k6 : PySem.W.keepIn K (.ref f6) = true)
  {f7 : Addr} {od7 an7 : Option Addr} {sl7 : Array (Option Value)} {oc7 kV7 dc7 pm7 cd7 ct7 : Value}
  (a7 : PySem.W.nsIn K mainGlobals (Str.ofString "plan_worth") = some (some (.ref f7)))
  (l7 : K.lookup f7 = some ⟨oc7, od7, .func (PySem.W.fnOf (Str.ofString "plan_worth") (Str.ofString "plan_worth") (defArgs s_plan_worth) (defBody s_plan_worth) (defScope s_plan_worth) .none kV7 dc7 pm7 an7 cd7 ct7), sl7⟩)
  (c7 : PySem.W.codeIn K cd7 (Str.ofString "plan_worth") = true) (k7 : PySem.W.keepIn K (.ref f7) = true)
  {f8 : Addr} {od8 an8 : Option Addr} {sl8 : Array (Option Value)} {oc8 kV8 dc8 pm8 cd8 ct8 : Value}
  (a8 : PySem.W.nsIn K mainGlobals (Str.ofString "_law_spoilt") = some (some (.ref f8)))
  (l8 : K.lookup f8 = some ⟨oc8, od8, .func (PySem.W.fnOf (Str.ofString "_law_spoilt") (Str.ofString "_law_spoilt") (defArgs s__law_spoilt) (defBody s__law_spoilt) (defScope s__law_spoilt) .none kV8 dc8 pm8 an8 cd8 ct8), sl8⟩)
  (c8 : PySem.W.codeIn K cd8 (Str.ofString "_law_spoilt") = true) (k8 : PySem.W.keepIn K (.ref f8) = true)
  {f9 : Addr} {od9 an9 : Option Addr} {sl9 : Array (Option Value)} {oc9 kV9 dc9 pm9 cd9 ct9 : Value}
  (a9 : PySem.W.nsIn K mainGlobals (Str.ofString "apart") = some (some (.ref f9)))
  (l9 : K.lookup f9 = some ⟨oc9, od9, .func (PySem.W.fnOf (Str.ofString "apart") (Str.ofString "apart") (defArgs s_apart) (defBody s_apart) (defScope s_apart) .none kV9 dc9 pm9 an9 cd9 ct9), sl9⟩)
  (c9 : PySem.W.codeIn K cd9 (Str.ofString "apart") = true) (k9 : PySem.W.keepIn K (.ref f9) = true)
  {f10 : Addr} {od10 an10 : Option Addr} {sl10 : Array (Option Value)} {oc10 kV10 dc10 pm10 cd10 ct10 : Value}
  (a10 : PySem.W.nsIn K mainGlobals (Str.ofString "is_whole") = some (some (.ref f10)))
  (l10 : K.lookup f10 = some ⟨oc10, od10, .func (PySem.W.fnOf (Str.ofString "is_whole") (Str.ofString "is_whole") (defArgs s_is_whole) (defBody s_is_whole) (defScope s_is_whole) .none kV10 dc10 pm10 an10 cd10 ct10), sl10⟩)
  (c10 : PySem.W.codeIn K cd10 (Str.ofString "is_whole") = true) (k10 : PySem.W.keepIn K (.ref f10) = true)
  {f11 : Addr} {od11 an11 : Option Addr} {sl11 : Array (Option Value)} {oc11 kV11 dc11 pm11 cd11 ct11 : Value}
  (a11 : PySem.W.nsIn K mainGlobals (Str.ofString "is_plan") = some (some (.ref f11)))
  (l11 : K.lookup f11 = some ⟨oc11, od11, .func (PySem.W.fnOf (Str.ofString "is_plan") (Str.ofString "is_plan") (defArgs s_is_plan) (defBody s_is_plan) (defScope s_is_plan) .none kV11 dc11 pm11 an11 cd11 ct11), sl11⟩)
  (c11 : PySem.W.codeIn K cd11 (Str.ofString "is_plan") = true) (k11 : PySem.W.keepIn K (.ref f11) = true)
  {f12 : Addr} {od12 an12 : Option Addr} {sl12 : Array (Option Value)} {oc12 kV12 dc12 pm12 cd12 ct12 : Value}
  (a12 : PySem.W.nsIn K mainGlobals (Str.ofString "_law_whole") = some (some (.ref f12)))
  (l12 : K.lookup f12 = some ⟨oc12, od12, .func (PySem.W.fnOf (Str.ofString "_law_whole") (Str.ofString "_law_whole") (defArgs s__law_whole) (defBody s__law_whole) (defScope s__law_whole) .none kV12 dc12 pm12 an12 cd12 ct12), sl12⟩)
  (c12 : PySem.W.codeIn K cd12 (Str.ofString "_law_whole") = true) (k12 : PySem.W.keepIn K (.ref f12) = true)
  {f13 : Addr} {od13 an13 : Option Addr} {sl13 : Array (Option Value)} {oc13 kV13 dc13 pm13 cd13 ct13 : Value}
  (a13 : PySem.W.nsIn K mainGlobals (Str.ofString "_law_is_plan") = some (some (.ref f13)))
  (l13 : K.lookup f13 = some ⟨oc13, od13, .func (PySem.W.fnOf (Str.ofString "_law_is_plan") (Str.ofString "_law_is_plan") (defArgs s__law_is_plan) (defBody s__law_is_plan) (defScope s__law_is_plan) .none kV13 dc13 pm13 an13 cd13 ct13), sl13⟩)
  (c13 : PySem.W.codeIn K cd13 (Str.ofString "_law_is_plan") = true) (k13 : PySem.W.keepIn K (.ref f13) = true)
  {f14 : Addr} {od14 an14 : Option Addr} {sl14 : Array (Option Value)} {oc14 kV14 dc14 pm14 cd14 ct14 : Value}
  (a14 : PySem.W.nsIn K mainGlobals (Str.ofString "law") = some (some (.ref f14)))
  (l14 : K.lookup f14 = some ⟨oc14, od14, .func (PySem.W.fnOf (Str.ofString "law") (Str.ofString "law") (defArgs s_law) (defBody s_law) (defScope s_law) .none kV14 dc14 pm14 an14 cd14 ct14), sl14⟩)
  (c14 : PySem.W.codeIn K cd14 (Str.ofString "law") = true) (k14 : PySem.W.keepIn K (.ref f14) = true)
  (n_len : PySem.W.nsIn K mainGlobals (Str.ofString "len") = some none)
  (n_range : PySem.W.nsIn K mainGlobals (Str.ofString "range") = some none)
  (n_sum : PySem.W.nsIn K mainGlobals (Str.ofString "sum") = some none)
  (n_sorted : PySem.W.nsIn K mainGlobals (Str.ofString "sorted") = some none)
  (n_list : PySem.W.nsIn K mainGlobals (Str.ofString "list") = some none)
  (n_zip : PySem.W.nsIn K mainGlobals (Str.ofString "zip") = some none)
  (n_tuple : PySem.W.nsIn K mainGlobals (Str.ofString "tuple") = some none)
  (n_isinstance : PySem.W.nsIn K mainGlobals (Str.ofString "isinstance") = some none)
  (n_int : PySem.W.nsIn K mainGlobals (Str.ofString "int") = some none)
  (n_bool : PySem.W.nsIn K mainGlobals (Str.ofString "bool") = some none)
  (n_repr : PySem.W.nsIn K mainGlobals (Str.ofString "repr") = some none) :
    ∃ fd : FuncData, (∀ (s : Shared) (v : Value), BindsTo s fd ⟨[v], []⟩ [((Str.ofString "_law_script"), v)]) ∧ ∀ base : Heap, K.In base → base.Ns mainGlobals mg → GOk P w K mg base (L2N.CX P w) 4 fa fd [(Str.ofString "_law_script")] (spLw K m_law) := by
  have e := hfa.symm.trans (PySem.W.mg_of X G a14)
  cases e
  have F0 := fun_mk (st := s__law_scale) l0 c0 k0
  have F1 := fun_mk (st := s__law_cell_at) l1 c1 k1
  have F2 := fun_mk (st := s__law_offer_by) l2 c2 k2
  have F3 := fun_mk (st := s__law_listed) l3 c3 k3
  have F4 := fun_mk (st := s__law_offers) l4 c4 k4
  have F5 := fun_mk (st := s__law_copies) l5 c5 k5
  have F6 := fun_mk (st := s_amount_at) l6 c6 k6
  have F7 := fun_mk (st := s_plan_worth) l7 c7 k7
  have F8 := fun_mk (st := s__law_spoilt) l8 c8 k8
  have F9 := fun_mk (st := s_apart) l9 c9 k9
  have F10 := fun_mk (st := s_is_whole) l10 c10 k10
  have F11 := fun_mk (st := s_is_plan) l11 c11 k11
  have F12 := fun_mk (st := s__law_whole) l12 c12 k12
  have F13 := fun_mk (st := s__law_is_plan) l13 c13 k13
  have F14 := fun_mk (st := s_law) l14 c14 k14
  have n_len := PySem.W.mg_none_of X G n_len
  have n_range := PySem.W.mg_none_of X G n_range
  have n_sum := PySem.W.mg_none_of X G n_sum
  have n_sorted := PySem.W.mg_none_of X G n_sorted
  have n_list := PySem.W.mg_none_of X G n_list
  have n_zip := PySem.W.mg_none_of X G n_zip
  have n_tuple := PySem.W.mg_none_of X G n_tuple
  have n_isinstance := PySem.W.mg_none_of X G n_isinstance
  have n_int := PySem.W.mg_none_of X G n_int
  have n_bool := PySem.W.mg_none_of X G n_bool
  have n_repr := PySem.W.mg_none_of X G n_repr
  refine ⟨PySem.W.fnOf (Str.ofString "law") (Str.ofString "law") (defArgs s_law) (defBody s_law) (defScope s_law) .none kV14 dc14 pm14 an14 cd14 ct14, fun s v => .of_eq rfl, fun base _ _ => ?_⟩
  have o0 : FnOk P w K mg base (L2N.CX P w) 1 f0 _ [(Str.ofString "_law_cell")] (spV K (fun _ => none) 1 m__law_scale) := ok__law_scale F0 
  have c__law_scale : Cal P w K mg base 1 (Str.ofString "_law_scale") [(Str.ofString "_law_cell")] (spV K (fun _ => none) 1 m__law_scale) := ⟨f0, _, o0, PySem.W.mg_of X G a0, k0, F0.binds (ps := [(Str.ofString "_law_cell")]) fun _ _ _ _ _ _ us hl => match us, hl with | [_], _ => rfl⟩
  have o1 : FnOk P w K mg base (L2N.CX P w) 1 f1 _ [(Str.ofString "_law_script"), (Str.ofString "_law_k")] (spV K (fun _ => none) 2 m__law_cell_at) := ok__law_cell_at F1 n_len
  have c__law_cell_at : Cal P w K mg base 1 (Str.ofString "_law_cell_at") [(Str.ofString "_law_script"), (Str.ofString "_law_k")] (spV K (fun _ => none) 2 m__law_cell_at) := ⟨f1, _, o1, PySem.W.mg_of X G a1, k1, F1.binds (ps := [(Str.ofString "_law_script"), (Str.ofString "_law_k")]) fun _ _ _ _ _ _ us hl => match us, hl with | [_, _], _ => rfl⟩
  have o2 : FnOk P w K mg base (L2N.CX P w) 1 f2 _ [(Str.ofString "_law_cell"), (Str.ofString "_law_many"), (Str.ofString "_law_scale_here")] (spV K (fun _ => none) 3 m__law_offer_by) := ok__law_offer_by F2 n_range n_sum
  have c__law_offer_by : Cal P w K mg base 1 (Str.ofString "_law_offer_by") [(Str.ofString "_law_cell"), (Str.ofString "_law_many"), (Str.ofString "_law_scale_here")] (spV K (fun _ => none) 3 m__law_offer_by) := ⟨f2, _, o2, PySem.W.mg_of X G a2, k2, F2.binds (ps := [(Str.ofString "_law_cell"), (Str.ofString "_law_many"), (Str.ofString "_law_scale_here")]) fun _ _ _ _ _ _ us hl => match us, hl with | [_, _, _], _ => rfl⟩
  have o3 : FnOk P w K mg base (L2N.CX P w) 2 f3 _ [(Str.ofString "_law_cells"), (Str.ofString "_law_many"), (Str.ofString "_law_scale_here")] (spV K (fun _ => none) 3 m__law_listed) := ok__law_listed F3 c__law_offer_by n_sorted
  have c__law_listed : Cal P w K mg base 2 (Str.ofString "_law_listed") [(Str.ofString "_law_cells"), (Str.ofString "_law_many"), (Str.ofString "_law_scale_here")] (spV K (fun _ => none) 3 m__law_listed) := ⟨f3, _, o3, PySem.W.mg_of X G a3, k3, F3.binds (ps := [(Str.ofString "_law_cells"), (Str.ofString "_law_many"), (Str.ofString "_law_scale_here")]) fun _ _ _ _ _ _ us hl => match us, hl with | [_, _, _], _ => rfl⟩
  have o4 : FnOk P w K mg base (L2N.CX P w) 3 f4 _ [(Str.ofString "_law_script"), (Str.ofString "_law_at"), (Str.ofString "_law_many"), (Str.ofString "_law_bidders"), (Str.ofString "_law_most")] (spN K (fun _ => none) 5 m__law_offers) := ok__law_offers F4 c__law_scale c__law_cell_at n_range c__law_listed
  have c__law_offers : Cal P w K mg base 3 (Str.ofString "_law_offers") [(Str.ofString "_law_script"), (Str.ofString "_law_at"), (Str.ofString "_law_many"), (Str.ofString "_law_bidders"), (Str.ofString "_law_most")] (spN K (fun _ => none) 5 m__law_offers) := ⟨f4, _, o4, PySem.W.mg_of X G a4, k4, F4.binds (ps := [(Str.ofString "_law_script"), (Str.ofString "_law_at"), (Str.ofString "_law_many"), (Str.ofString "_law_bidders"), (Str.ofString "_law_most")]) fun _ _ _ _ _ _ us hl => match us, hl with | [_, _, _, _, _], _ => rfl⟩
  have o5 : FnOk P w K mg base (L2N.CX P w) 1 f5 _ [(Str.ofString "_law_offers_here")] (spN K (fun _ => none) 1 m__law_copies) := ok__law_copies F5 n_list
  have c__law_copies : Cal P w K mg base 1 (Str.ofString "_law_copies") [(Str.ofString "_law_offers_here")] (spN K (fun _ => none) 1 m__law_copies) := ⟨f5, _, o5, PySem.W.mg_of X G a5, k5, F5.binds (ps := [(Str.ofString "_law_offers_here")]) fun _ _ _ _ _ _ us hl => match us, hl with | [_], _ => rfl⟩
  have o6 : FnOk P w K mg base (L2N.CX P w) 1 f6 _ [(Str.ofString "listed"), (Str.ofString "bundle")] (spV K (fun _ => none) 2 m_amount_at) := ok_amount_at F6 
  have c_amount_at : Cal P w K mg base 1 (Str.ofString "amount_at") [(Str.ofString "listed"), (Str.ofString "bundle")] (spV K (fun _ => none) 2 m_amount_at) := ⟨f6, _, o6, PySem.W.mg_of X G a6, k6, F6.binds (ps := [(Str.ofString "listed"), (Str.ofString "bundle")]) fun _ _ _ _ _ _ us hl => match us, hl with | [_, _], _ => rfl⟩
  have o7 : FnOk P w K mg base (L2N.CX P w) 2 f7 _ [(Str.ofString "offers"), (Str.ofString "plan")] (spV K (fun _ => none) 2 m_plan_worth) := ok_plan_worth F7 n_zip c_amount_at
  have c_plan_worth : Cal P w K mg base 2 (Str.ofString "plan_worth") [(Str.ofString "offers"), (Str.ofString "plan")] (spV K (fun _ => none) 2 m_plan_worth) := ⟨f7, _, o7, PySem.W.mg_of X G a7, k7, F7.binds (ps := [(Str.ofString "offers"), (Str.ofString "plan")]) fun _ _ _ _ _ _ us hl => match us, hl with | [_, _], _ => rfl⟩
  have o8 : FnOk P w K mg base (L2N.CX P w) 1 f8 _ [(Str.ofString "_law_offers_here"), (Str.ofString "_law_plan"), (Str.ofString "_law_cell"), (Str.ofString "_law_part")] (spV K (fun _ => none) 4 m__law_spoilt) := ok__law_spoilt F8 n_tuple n_list n_len
  have c__law_spoilt : Cal P w K mg base 1 (Str.ofString "_law_spoilt") [(Str.ofString "_law_offers_here"), (Str.ofString "_law_plan"), (Str.ofString "_law_cell"), (Str.ofString "_law_part")] (spV K (fun _ => none) 4 m__law_spoilt) := ⟨f8, _, o8, PySem.W.mg_of X G a8, k8, F8.binds (ps := [(Str.ofString "_law_offers_here"), (Str.ofString "_law_plan"), (Str.ofString "_law_cell"), (Str.ofString "_law_part")]) fun _ _ _ _ _ _ us hl => match us, hl with | [_, _, _, _], _ => rfl⟩
  have o9 : FnOk P w K mg base (L2N.CX P w) 1 f9 _ [(Str.ofString "one"), (Str.ofString "other")] (spV K (fun _ => none) 2 m_apart) := ok_apart F9 
  have c_apart : Cal P w K mg base 1 (Str.ofString "apart") [(Str.ofString "one"), (Str.ofString "other")] (spV K (fun _ => none) 2 m_apart) := ⟨f9, _, o9, PySem.W.mg_of X G a9, k9, F9.binds (ps := [(Str.ofString "one"), (Str.ofString "other")]) fun _ _ _ _ _ _ us hl => match us, hl with | [_, _], _ => rfl⟩
  have o10 : FnOk P w K mg base (L2N.CX P w) 1 f10 _ [(Str.ofString "thing")] (spV K (fun _ => none) 1 m_is_whole) := ok_is_whole F10 n_isinstance n_int n_bool
  have c_is_whole : Cal P w K mg base 1 (Str.ofString "is_whole") [(Str.ofString "thing")] (spV K (fun _ => none) 1 m_is_whole) := ⟨f10, _, o10, PySem.W.mg_of X G a10, k10, F10.binds (ps := [(Str.ofString "thing")]) fun _ _ _ _ _ _ us hl => match us, hl with | [_], _ => rfl⟩
  have o11 : FnOk P w K mg base (L2N.CX P w) 2 f11 _ [(Str.ofString "many"), (Str.ofString "offers"), (Str.ofString "plan")] (spV K (fun _ => none) 3 m_is_plan) := ok_is_plan F11 n_isinstance n_list n_len n_range c_is_whole c_amount_at c_apart
  have c_is_plan : Cal P w K mg base 2 (Str.ofString "is_plan") [(Str.ofString "many"), (Str.ofString "offers"), (Str.ofString "plan")] (spV K (fun _ => none) 3 m_is_plan) := ⟨f11, _, o11, PySem.W.mg_of X G a11, k11, F11.binds (ps := [(Str.ofString "many"), (Str.ofString "offers"), (Str.ofString "plan")]) fun _ _ _ _ _ _ us hl => match us, hl with | [_, _, _], _ => rfl⟩
  have o12 : FnOk P w K mg base (L2N.CX P w) 1 f12 _ [(Str.ofString "_law_found")] (spV K (fun _ => none) 1 m__law_whole) := ok__law_whole F12 n_isinstance n_int n_bool
  have c__law_whole : Cal P w K mg base 1 (Str.ofString "_law_whole") [(Str.ofString "_law_found")] (spV K (fun _ => none) 1 m__law_whole) := ⟨f12, _, o12, PySem.W.mg_of X G a12, k12, F12.binds (ps := [(Str.ofString "_law_found")]) fun _ _ _ _ _ _ us hl => match us, hl with | [_], _ => rfl⟩
  have o13 : FnOk P w K mg base (L2N.CX P w) 2 f13 _ [(Str.ofString "_law_offers_here"), (Str.ofString "_law_thing")] (spV K (fun _ => none) 2 m__law_is_plan) := ok__law_is_plan F13 n_isinstance n_list n_len n_range c__law_whole
  have c__law_is_plan : Cal P w K mg base 2 (Str.ofString "_law_is_plan") [(Str.ofString "_law_offers_here"), (Str.ofString "_law_thing")] (spV K (fun _ => none) 2 m__law_is_plan) := ⟨f13, _, o13, PySem.W.mg_of X G a13, k13, F13.binds (ps := [(Str.ofString "_law_offers_here"), (Str.ofString "_law_thing")]) fun _ _ _ _ _ _ us hl => match us, hl with | [_, _], _ => rfl⟩
  have o14 : GOk P w K mg base (L2N.CX P w) 4 fa _ [(Str.ofString "_law_script")] (spV K (fun _ => none) 1 m_law) := ok_law F14 c__law_cell_at c__law_offers n_len n_range c__law_copies n_list c_plan_worth c__law_whole c_is_plan c__law_spoilt n_repr n_isinstance n_bool c__law_is_plan
  exact gok_mono o14 fun _ _ _ _ hz => hz _
theorem walk {l : PySem.W.OpenLaw} {q : Program} {loose : List Str} {XP : (Str → Option Value) → Heap → Prop} {YP : World → Heap → Prop} {d : DefRec} {K : Params → PySem.W.Frag} (hn : l.most = some 63) (hdf : d.params.defaults = [])
    (hY : ∀ (w : World) (h : Heap), YP w h → (K w.params).In h) (hm : ∀ ns : List Int, ns.length ≤ 63 → m_law [.lst (ns.map .int)] = .ok (.bl true))
    (F : ∀ (w : World) (mg : Str → Option Value) (fa : Addr) (h : Heap), (K w.params).In h → h.Ns mainGlobals mg → mg d.name = some (.ref fa) →
      ∃ fd : FuncData, (∀ (s : Shared) (u : Value), BindsTo s fd ⟨[u], []⟩ [((Str.ofString "_law_script"), u)]) ∧ ∀ base : Heap, (K w.params).In base → base.Ns mainGlobals mg → GOk l.prog w (K w.params) mg base (L2N.CX l.prog w) 4 fa fd [(Str.ofString "_law_script")] (spLw (K w.params) m_law)) :
    PySem.W.WalkO q loose XP YP l.row.toRowW d [] (fun f vs => PySem.call f vs) :=
  walk_g (n := 63) (k := 4) (x := (Str.ofString "_law_script")) (CX := fun w => L2N.CX l.prog w) (sp := fun w => spLw (K w.params) m_law) hn (by decide) hdf ⟨rfl, by decide, by decide⟩ hY F (fun _ H a ns hl hS cl => law_sp (cl := cl) hm H a ns hl hS) fun _ _ _ _ _ z => no_ex z
end Lw
open PySem PySem.W PyProof.Rows
set_option maxRecDepth 100000 in
set_option maxHeartbeats 0 in
theorem PySem.Challenge.cw_gavelhall_k41_plans_holds : PySem.Challenge.rw_gavelhall_k41_plans.Holds := by
  w_on; o_law; k_head; (case hw => w_witness2)
  k_fill
  refine Lw.walk (l := PySem.Challenge.rw_gavelhall_k41_plans) rfl rfl (fun w h Y => PySem.W.kIn_of Y) Lw.plain ?F
  case F =>
    intro w mg fa h KX G hmg
    refine' Lw.all_mk KX G hmg ?a0 ?l0 ?c0 ?k0 ?a1 ?l1 ?c1 ?k1 ?a2 ?l2 ?c2 ?k2 ?a3 ?l3 ?c3 ?k3 ?a4 ?l4 ?c4 ?k4 ?a5 ?l5 ?c5 ?k5 ?a6 ?l6 ?c6 ?k6 ?a7 ?l7 ?c7 ?k7 ?a8 ?l8 ?c8 ?k8 ?a9 ?l9 ?c9 ?k9 ?a10 ?l10 ?c10 ?k10 ?a11 ?l11 ?c11 ?k11 ?a12 ?l12 ?c12 ?k12 ?a13 ?l13 ?c13 ?k13 ?a14 ?l14 ?c14 ?k14 ?n_len ?n_range ?n_sum ?n_sorted ?n_list ?n_zip ?n_tuple ?n_isinstance ?n_int ?n_bool ?n_repr
    (case a0 => k_is)
    (case l0 => k_is)
    (case c0 => k_is)
    (case k0 => k_is)
    (case a1 => k_is)
    (case l1 => k_is)
    (case c1 => k_is)
    (case k1 => k_is)
    (case a2 => k_is)
    (case l2 => k_is)
    (case c2 => k_is)
    (case k2 => k_is)
    (case a3 => k_is)
    (case l3 => k_is)
    (case c3 => k_is)
    (case k3 => k_is)
    (case a4 => k_is)
    (case l4 => k_is)
    (case c4 => k_is)
    (case k4 => k_is)
    (case a5 => k_is)
    (case l5 => k_is)
    (case c5 => k_is)
    (case k5 => k_is)
    (case a6 => k_is)
    (case l6 => k_is)
    (case c6 => k_is)
    (case k6 => k_is)
    (case a7 => k_is)
    (case l7 => k_is)
    (case c7 => k_is)
    (case k7 => k_is)
    (case a8 => k_is)
    (case l8 => k_is)
    (case c8 => k_is)
    (case k8 => k_is)
    (case a9 => k_is)
    (case l9 => k_is)
    (case c9 => k_is)
    (case k9 => k_is)
    (case a10 => k_is)
    (case l10 => k_is)
    (case c10 => k_is)
    (case k10 => k_is)
    (case a11 => k_is)
    (case l11 => k_is)
    (case c11 => k_is)
    (case k11 => k_is)
    (case a12 => k_is)
    (case l12 => k_is)
    (case c12 => k_is)
    (case k12 => k_is)
    (case a13 => k_is)
    (case l13 => k_is)
    (case c13 => k_is)
    (case k13 => k_is)
    (case a14 => k_is)
    (case l14 => k_is)
    (case c14 => k_is)
    (case k14 => k_is)
    (case n_len => k_is)
    (case n_range => k_is)
    (case n_sum => k_is)
    (case n_sorted => k_is)
    (case n_list => k_is)
    (case n_zip => k_is)
    (case n_tuple => k_is)
    (case n_isinstance => k_is)
    (case n_int => k_is)
    (case n_bool => k_is)
    (case n_repr => k_is)
    all_goals exact (0 : Nat)

