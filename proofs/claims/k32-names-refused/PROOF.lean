import PyProof.Rows.All
import Wide.All
import OpenK.AllK
import Wide.FinOn
import PySem.Challenge.RW_gavelhall_k32_names_refused
import HandS.ForExc
import HandS.ForMost
import HandS.Wide
import HandS.HotCalls
import HandS.ExcIs
import HandS.ExcCtx
import HandS.ExcField
import HandS.ExcInit
import HandS.ExcInitHot
import HandS.RaiseFrom
import HandS.SuiteRaise
import HandS.TryElse
import HandS.NestedHot
import HandS.IsInst
import HandS.CallSlots
import HandS.More
import HandS.TupLe
import HandS.Defaults
import HandS.Rev
import HandS.RevTup
import HandS.FStr
import HandS.WideBits
import HandS.RaiseMore
import HandS.Dict
import HandS.SortRule
import HandS.SortInts
import KE.DataMinMax
import KE.SortData
import HandS.SortKw
import HandS.Sort
import HandS.SortOrd
import KE.KDictList
import HandS.Deep
import KE.DataFind
import HandS.MakeKw
import KE.KExcIs
import HandS.ExcBuiltin
import HandS.Conv
import KE.KDictCopyH
import HandS.ListItems
import HandS.Hot
import KE.GoesZip
set_option Elab.async false
set_option linter.all false
set_option maxRecDepth 100000
namespace UP
open PySem L2

/-! ### data -/
inductive D where
  | non | bl (b : Bool) | int (i : Int) | str (x : Str) | ty (n : String)
  | lst (xs : List D) | tup (xs : List D)
  | dk (ks : List Key) (xs : List D)
  | obj (c : Str) (ns : List Str) (xs : List D)
  | exc (q : Addr × Addr) (ns : List Str) (xs : List D)
instance : Inhabited D := ⟨.non⟩

/-- what the text's classes are: their places -/
structure Cl where
  at_ : Str → Option Addr
variable {K : PySem.W.Frag}

mutual
def Rp (K : PySem.W.Frag) (cl : Str → Option Addr) (F : Hp) : V → D → Prop
  | v, .non => v = .non
  | v, .bl b => v = .bl b
  | v, .int i => v = .int i
  | v, .str x => v = .str x
  | v, .ty n => v = .ty n
  | v, .exc q ns xs => v = .ref q.1 ∧ (ns = [] ∨ ∃ vs, F q.2 = some (.xd (ns.zip vs)) ∧ ns.length = vs.length ∧ Rps K cl F vs xs)
  | v, .lst xs => ∃ a vs, v = .ref a ∧ SqL K F a vs ∧ Rps K cl F vs xs
  | v, .tup xs => ∃ a vs, v = .ref a ∧ F a = some (.tup vs) ∧ Rps K cl F vs xs
  | v, .dk ks xs => ∃ a vs, v = .ref a ∧ F a = some (.dK (ks.zip vs)) ∧ ks.length = vs.length ∧ Rps K cl F vs xs
  | v, .obj c ns xs => ∃ a C dx vs, v = .ref a ∧ cl c = some C ∧ F a = some (.ins C dx (ns.zip vs)) ∧ ns.length = vs.length ∧ Rps K cl F vs xs
def Rps (K : PySem.W.Frag) (cl : Str → Option Addr) (F : Hp) : List V → List D → Prop
  | vs, [] => vs = []
  | vs, x :: xs => ∃ v r, vs = v :: r ∧ Rp K cl F v x ∧ Rps K cl F r xs
end

def Ex (H H' : Hp) : Prop := ∀ a o, H a = some o → H' a = some o
theorem Ex.refl (H : Hp) : Ex H H := fun _ _ h => h
theorem Ex.trans {H H1 H2 : Hp} (a : Ex H H1) (b : Ex H1 H2) : Ex H H2 := fun x o h => b x o (a x o h)
theorem Ex.new {H : Hp} {p : Addr} {o : HO} (h : H p = none) : Ex H (upd H p o) := fun a u e => by
  rw [upd_ne (ne_of_none e h)]; exact e
theorem ex_rd {H H' : Hp} {a : Addr} {u : HO} (e : Ex H H') (h : Rd H a u) : Rd H' a u := by
  rcases h with h | ⟨o, h⟩
  · exact Or.inl (e a _ h)
  · exact Or.inr ⟨o, e a _ h⟩
theorem ex_l {K : PySem.W.Frag} {H H' : Hp} {a : Addr} {xs : List V} (e : Ex H H') (h : SqL K H a xs) : SqL K H' a xs := by
  rcases h with h | h
  · exact Or.inl (ex_rd e h)
  · exact Or.inr h
theorem ex_t {K : PySem.W.Frag} {H H' : Hp} {a : Addr} {xs : List V} (e : Ex H H') (h : SqT K H a xs) : SqT K H' a xs := by
  rcases h with h | h
  · exact Or.inl (ex_rd e h)
  · exact Or.inr h
section
variable {cl : Str → Option Addr}
mutual
theorem Rp.mono {F F' : Hp} (e : Ex F F') : ∀ {v : V} {d : D}, Rp K cl F v d → Rp K cl F' v d
  | v, .non, h => by unfold Rp at h ⊢; exact h
  | v, .bl _, h => by unfold Rp at h ⊢; exact h
  | v, .int _, h => by unfold Rp at h ⊢; exact h
  | v, .str _, h => by unfold Rp at h ⊢; exact h
  | v, .ty _, h => by unfold Rp at h ⊢; exact h
  | v, .exc q ns xs, h => by
    unfold Rp at h ⊢
    obtain ⟨rfl, h⟩ := h
    rcases h with h | ⟨vs, h1, h2, h3⟩
    · exact ⟨rfl, .inl h⟩
    · exact ⟨rfl, .inr ⟨vs, e _ _ h1, h2, Rps.mono e h3⟩⟩
  | v, .lst xs, h => by
    unfold Rp at h ⊢
    obtain ⟨a, vs, rfl, h1, h2⟩ := h
    exact ⟨a, vs, rfl, ex_l e h1, Rps.mono e h2⟩
  | v, .tup xs, h => by
    unfold Rp at h ⊢
    obtain ⟨a, vs, rfl, h1, h2⟩ := h
    exact ⟨a, vs, rfl, e _ _ h1, Rps.mono e h2⟩
  | v, .dk ks xs, h => by
    unfold Rp at h ⊢
    obtain ⟨a, vs, rfl, h1, h2, h3⟩ := h
    exact ⟨a, vs, rfl, e _ _ h1, h2, Rps.mono e h3⟩
  | v, .obj c ns xs, h => by
    unfold Rp at h ⊢
    obtain ⟨a, C, dx, vs, rfl, h1, h2, h3, h4⟩ := h
    exact ⟨a, C, dx, vs, rfl, h1, e _ _ h2, h3, Rps.mono e h4⟩
theorem Rps.mono {F F' : Hp} (e : Ex F F') : ∀ {vs : List V} {ds : List D}, Rps K cl F vs ds → Rps K cl F' vs ds
  | vs, [], h => by unfold Rps at h ⊢; exact h
  | vs, x :: xs, h => by
    unfold Rps at h ⊢
    obtain ⟨v, r, rfl, h1, h2⟩ := h
    exact ⟨v, r, rfl, Rp.mono e h1, Rps.mono e h2⟩
end
theorem Rps.nil {F : Hp} : Rps K cl F [] [] := by unfold Rps; rfl
theorem Rps.cons {F : Hp} {v : V} {d : D} {vs : List V} {ds : List D} (h : Rp K cl F v d) (r : Rps K cl F vs ds) : Rps K cl F (v :: vs) (d :: ds) := by
  unfold Rps; exact ⟨v, vs, rfl, h, r⟩
theorem Rps.cons_inv {F : Hp} {vs : List V} {d : D} {ds : List D} (h : Rps K cl F vs (d :: ds)) : ∃ v r, vs = v :: r ∧ Rp K cl F v d ∧ Rps K cl F r ds := by
  unfold Rps at h; exact h
theorem Rps.nil_inv {F : Hp} {vs : List V} (h : Rps K cl F vs []) : vs = [] := by
  unfold Rps at h; exact h
theorem Rps.length {F : Hp} : ∀ {vs : List V} {ds : List D}, Rps K cl F vs ds → vs.length = ds.length
  | _, [], h => by rw [h.nil_inv]; rfl
  | _, d :: ds, h => by
    obtain ⟨v, r, rfl, _, h2⟩ := h.cons_inv
    rw [List.length_cons, List.length_cons, Rps.length h2]
theorem Rps.get {F : Hp} : ∀ {vs : List V} {ds : List D} {i : Nat} {d : D}, Rps K cl F vs ds → ds[i]? = some d → ∃ v, vs[i]? = some v ∧ Rp K cl F v d
  | _, [], i, d, h, e => by simp at e
  | _, d0 :: ds, 0, d, h, e => by
    obtain ⟨v, r, rfl, h1, h2⟩ := h.cons_inv
    simp at e; subst e
    exact ⟨v, rfl, h1⟩
  | _, d0 :: ds, i + 1, d, h, e => by
    obtain ⟨v, r, rfl, h1, h2⟩ := h.cons_inv
    have e' : ds[i]? = some d := by simpa using e
    obtain ⟨w, q1, q2⟩ := Rps.get h2 e'
    exact ⟨w, by simpa using q1, q2⟩
theorem Rps.get' {F : Hp} {vs : List V} {ds : List D} {i : Nat} {v : V} (h : Rps K cl F vs ds) (e : vs[i]? = some v) : ∃ d, ds[i]? = some d ∧ Rp K cl F v d := by
  have hl := h.length
  have hi := (List.getElem?_eq_some_iff.mp e).1
  have e2 : ds[i]? = some ds[i] := List.getElem?_eq_getElem (by omega)
  obtain ⟨w, q1, q2⟩ := h.get e2
  rw [e] at q1; cases q1
  exact ⟨_, e2, q2⟩
theorem Rps.append {F : Hp} : ∀ {vs ws : List V} {ds es : List D}, Rps K cl F vs ds → Rps K cl F ws es → Rps K cl F (vs ++ ws) (ds ++ es)
  | _, _, [], _, h, q => by rw [h.nil_inv]; exact q
  | _, _, d :: ds, _, h, q => by
    obtain ⟨v, r, rfl, h1, h2⟩ := h.cons_inv
    exact Rps.cons h1 (Rps.append h2 q)
theorem Rps.take {F : Hp} : ∀ {vs : List V} {ds : List D} (n : Nat), Rps K cl F vs ds → Rps K cl F (vs.take n) (ds.take n)
  | _, _, 0, h => by simp; exact Rps.nil
  | _, [], n + 1, h => by rw [h.nil_inv]; exact Rps.nil
  | _, d :: ds, n + 1, h => by
    obtain ⟨v, r, rfl, h1, h2⟩ := h.cons_inv
    exact Rps.cons h1 (Rps.take n h2)
theorem Rps.drop {F : Hp} : ∀ {vs : List V} {ds : List D} (n : Nat), Rps K cl F vs ds → Rps K cl F (vs.drop n) (ds.drop n)
  | _, _, 0, h => by simpa using h
  | _, [], n + 1, h => by rw [h.nil_inv]; exact Rps.nil
  | _, d :: ds, n + 1, h => by
    obtain ⟨v, r, rfl, h1, h2⟩ := h.cons_inv
    exact Rps.drop n h2
theorem Rps.set {F : Hp} : ∀ {vs : List V} {ds : List D} (n : Nat) {v : V} {d : D}, Rps K cl F vs ds → Rp K cl F v d → Rps K cl F (vs.set n v) (ds.set n d)
  | _, [], n, _, _, h, _ => by rw [h.nil_inv]; exact Rps.nil
  | _, d0 :: ds, 0, _, _, h, q => by
    obtain ⟨v, r, rfl, h1, h2⟩ := h.cons_inv
    exact Rps.cons q h2
  | _, d0 :: ds, n + 1, _, _, h, q => by
    obtain ⟨v, r, rfl, h1, h2⟩ := h.cons_inv
    exact Rps.cons h1 (Rps.set n h2 q)
theorem Rps.eraseIdx {F : Hp} : ∀ {vs : List V} {ds : List D} (n : Nat), Rps K cl F vs ds → Rps K cl F (vs.eraseIdx n) (ds.eraseIdx n)
  | _, [], n, h => by rw [h.nil_inv]; exact Rps.nil
  | _, d0 :: ds, 0, h => by
    obtain ⟨v, r, rfl, h1, h2⟩ := h.cons_inv
    exact h2
  | _, d0 :: ds, n + 1, h => by
    obtain ⟨v, r, rfl, h1, h2⟩ := h.cons_inv
    exact Rps.cons h1 (Rps.eraseIdx n h2)
theorem Rps.reverse {F : Hp} : ∀ {vs : List V} {ds : List D}, Rps K cl F vs ds → Rps K cl F vs.reverse ds.reverse
  | _, [], h => by rw [h.nil_inv]; exact Rps.nil
  | _, d0 :: ds, h => by
    obtain ⟨v, r, rfl, h1, h2⟩ := h.cons_inv
    rw [List.reverse_cons, List.reverse_cons]
    exact Rps.append (Rps.reverse h2) (Rps.cons h1 Rps.nil)
theorem Rps.ints {F : Hp} : ∀ {ns : List Int}, Rps K cl F (ns.map V.int) (ns.map D.int)
  | [] => Rps.nil
  | n :: ns => Rps.cons (by unfold Rp; rfl) Rps.ints
end

/-! ### states: an environment of slots -/
inductive DO where
  | lst (xs : List D)
  | dK (ks : List Key) (xs : List D)
  | dT (ks : List (List Key)) (xs : List D)
  | ins (c : Str) (ns : List Str) (xs : List D)
/-- trees of objects of ours -/
inductive DT where
  | fz (d : D) | lst (ts : List DT) | tup (ts : List DT) | dk (ks : List Key) (ts : List DT) | ob (c : Str) (ns : List Str) (ts : List DT)
inductive Sl where
  | un | val (d : D) | own (o : DO) | tr (t : DT)
abbrev En := List Sl
structure Exc where
  cls : Str
  ns : List Str
  xs : List D
inductive R (α : Type) where
  | ok (a : α) | er (x : Exc) | st
def R.bind {α β : Type} : R α → (α → R β) → R β
  | .ok a, f => f a
  | .er x, _ => .er x
  | .st, _ => .st
instance : Monad R where
  pure := .ok
  bind := R.bind
@[simp] theorem R.bind_ok {α β : Type} (a : α) (f : α → R β) : R.bind (.ok a) f = f a := id rfl
@[simp] theorem R.bind_er {α β : Type} (x : Exc) (f : α → R β) : R.bind (.er x) f = .er x := id rfl
@[simp] theorem R.bind_st {α β : Type} (f : α → R β) : R.bind .st f = .st := id rfl

def HR (K : PySem.W.Frag) (cl : Str → Option Addr) (F : Hp) : HO → DO → Prop
  | ho, .lst xs => ∃ vs, ho = .lst vs ∧ Rps K cl F vs xs
  | ho, .dK ks xs => ∃ vs, ho = .dK (ks.zip vs) ∧ ks.length = vs.length ∧ Rps K cl F vs xs
  | ho, .dT ks xs => ∃ vs, ho = .dT (ks.zip vs) ∧ ks.length = vs.length ∧ Rps K cl F vs xs
  | ho, .ins c ns xs => ∃ C dx vs, cl c = some C ∧ ho = .ins C dx (ns.zip vs) ∧ ns.length = vs.length ∧ Rps K cl F vs xs
theorem HR.mono {cl : Str → Option Addr} {F F' : Hp} (e : Ex F F') : ∀ {ho : HO} {o : DO}, HR K cl F ho o → HR K cl F' ho o
  | _, .lst xs, ⟨vs, h1, h2⟩ => ⟨vs, h1, h2.mono e⟩
  | _, .dK ks xs, ⟨vs, h1, h2, h3⟩ => ⟨vs, h1, h2, h3.mono e⟩
  | _, .dT ks xs, ⟨vs, h1, h2, h3⟩ => ⟨vs, h1, h2, h3.mono e⟩
  | _, .ins c ns xs, ⟨C, dx, vs, h0, h1, h2, h3⟩ => ⟨C, dx, vs, h0, h1, h2, h3.mono e⟩

/-- the heap grows: F the frozen part of H -/
structure Grow (F H F' H' : Hp) : Prop where
  f : Ex F F'
  s : Ex F' H'
  h : Ex H H'
  n : ∀ p o, H p = some o → F p = none → F' p = none
theorem Grow.refl {F H : Hp} (e : Ex F H) : Grow F H F H := ⟨Ex.refl _, e, Ex.refl _, fun _ _ _ h => h⟩
theorem Grow.trans {F H F1 H1 F2 H2 : Hp} (a : Grow F H F1 H1) (b : Grow F1 H1 F2 H2) : Grow F H F2 H2 :=
  ⟨a.f.trans b.f, b.s, a.h.trans b.h, fun p o e z => b.n p o (a.h p o e) (a.n p o e z)⟩

/-! ### trees of objects of ours: at these places -/
mutual
def Tr (K : PySem.W.Frag) (cl : Str → Option Addr) (F H : Hp) : V → DT → List Addr → Prop
  | v, .fz d, fp => fp = [] ∧ Rp K cl F v d
  | v, .lst ts, fp => ∃ a vs fq, v = .ref a ∧ H a = some (.lst vs) ∧ fp = a :: fq ∧ Trs K cl F H vs ts fq
  | v, .tup ts, fp => ∃ a vs fq, v = .ref a ∧ H a = some (.tup vs) ∧ fp = a :: fq ∧ Trs K cl F H vs ts fq
  | v, .dk ks ts, fp => ∃ a vs fq, v = .ref a ∧ H a = some (.dK (ks.zip vs)) ∧ ks.length = vs.length ∧ fp = a :: fq ∧ Trs K cl F H vs ts fq
  | v, .ob c ns ts, fp => ∃ a C dx vs fq, v = .ref a ∧ cl c = some C ∧ H a = some (.ins C dx (ns.zip vs)) ∧ ns.length = vs.length ∧ fp = a :: fq ∧ Trs K cl F H vs ts fq
def Trs (K : PySem.W.Frag) (cl : Str → Option Addr) (F H : Hp) : List V → List DT → List Addr → Prop
  | vs, [], fp => vs = [] ∧ fp = []
  | vs, t :: ts, fp => ∃ v r f1 f2, vs = v :: r ∧ fp = f1 ++ f2 ∧ Tr K cl F H v t f1 ∧ Trs K cl F H r ts f2
end
section
variable {cl : Str → Option Addr} {F H F' H' : Hp}
mutual
theorem Tr.mono (e : Ex F F') : ∀ {v : V} {t : DT} {fp : List Addr}, Tr K cl F H v t fp → (∀ a ∈ fp, H' a = H a) → Tr K cl F' H' v t fp
  | v, .fz d, fp, h, _ => by unfold Tr at h ⊢; exact ⟨h.1, h.2.mono e⟩
  | v, .lst ts, fp, h, q => by
    unfold Tr at h ⊢
    obtain ⟨a, vs, fq, rfl, h1, rfl, h2⟩ := h
    exact ⟨a, vs, fq, rfl, by rw [q a (by simp)]; exact h1, rfl, Trs.mono e h2 fun b hb => q b (by simp [hb])⟩
  | v, .tup ts, fp, h, q => by
    unfold Tr at h ⊢
    obtain ⟨a, vs, fq, rfl, h1, rfl, h2⟩ := h
    exact ⟨a, vs, fq, rfl, by rw [q a (by simp)]; exact h1, rfl, Trs.mono e h2 fun b hb => q b (by simp [hb])⟩
  | v, .dk ks ts, fp, h, q => by
    unfold Tr at h ⊢
    obtain ⟨a, vs, fq, rfl, h1, hl, rfl, h2⟩ := h
    exact ⟨a, vs, fq, rfl, by rw [q a (by simp)]; exact h1, hl, rfl, Trs.mono e h2 fun b hb => q b (by simp [hb])⟩
  | v, .ob c ns ts, fp, h, q => by
    unfold Tr at h ⊢
    obtain ⟨a, C, dx, vs, fq, rfl, h0, h1, hl, rfl, h2⟩ := h
    exact ⟨a, C, dx, vs, fq, rfl, h0, by rw [q a (by simp)]; exact h1, hl, rfl, Trs.mono e h2 fun b hb => q b (by simp [hb])⟩
theorem Trs.mono (e : Ex F F') : ∀ {vs : List V} {ts : List DT} {fp : List Addr}, Trs K cl F H vs ts fp → (∀ a ∈ fp, H' a = H a) → Trs K cl F' H' vs ts fp
  | vs, [], fp, h, _ => by unfold Trs at h ⊢; exact h
  | vs, t :: ts, fp, h, q => by
    unfold Trs at h ⊢
    obtain ⟨v, r, f1, f2, rfl, rfl, h1, h2⟩ := h
    exact ⟨v, r, f1, f2, rfl, rfl, Tr.mono e h1 fun a ha => q a (by simp [ha]), Trs.mono e h2 fun a ha => q a (by simp [ha])⟩
end
mutual
theorem Tr.here : ∀ {v : V} {t : DT} {fp : List Addr}, Tr K cl F H v t fp → ∀ a ∈ fp, ∃ o, H a = some o
  | v, .fz d, fp, h, a, ha => by unfold Tr at h; rw [h.1] at ha; cases ha
  | v, .lst ts, fp, h, b, hb => by
    unfold Tr at h
    obtain ⟨a, vs, fq, rfl, h1, rfl, h2⟩ := h
    rcases List.mem_cons.mp hb with e | e
    · exact ⟨_, e ▸ h1⟩
    · exact Trs.here h2 b e
  | v, .tup ts, fp, h, b, hb => by
    unfold Tr at h
    obtain ⟨a, vs, fq, rfl, h1, rfl, h2⟩ := h
    rcases List.mem_cons.mp hb with e | e
    · exact ⟨_, e ▸ h1⟩
    · exact Trs.here h2 b e
  | v, .dk ks ts, fp, h, b, hb => by
    unfold Tr at h
    obtain ⟨a, vs, fq, rfl, h1, hl, rfl, h2⟩ := h
    rcases List.mem_cons.mp hb with e | e
    · exact ⟨_, e ▸ h1⟩
    · exact Trs.here h2 b e
  | v, .ob c ns ts, fp, h, b, hb => by
    unfold Tr at h
    obtain ⟨a, C, dx, vs, fq, rfl, h0, h1, hl, rfl, h2⟩ := h
    rcases List.mem_cons.mp hb with e | e
    · exact ⟨_, e ▸ h1⟩
    · exact Trs.here h2 b e
theorem Trs.here : ∀ {vs : List V} {ts : List DT} {fp : List Addr}, Trs K cl F H vs ts fp → ∀ a ∈ fp, ∃ o, H a = some o
  | vs, [], fp, h, a, ha => by unfold Trs at h; rw [h.2] at ha; cases ha
  | vs, t :: ts, fp, h, a, ha => by
    unfold Trs at h
    obtain ⟨v, r, f1, f2, rfl, rfl, h1, h2⟩ := h
    rcases List.mem_append.mp ha with e | e
    · exact Tr.here h1 a e
    · exact Trs.here h2 a e
end
mutual
theorem Tr.fn : ∀ {v : V} {t : DT} {fp fq : List Addr}, Tr K cl F H v t fp → Tr K cl F H v t fq → fp = fq
  | v, .fz d, fp, fq, h, k => by unfold Tr at h k; rw [h.1, k.1]
  | v, .lst ts, fp, fq, h, k => by
    unfold Tr at h k
    obtain ⟨a, vs, f1, rfl, h1, rfl, h2⟩ := h
    obtain ⟨b, us, f2, e, k1, rfl, k2⟩ := k
    cases e
    rw [h1] at k1; cases k1
    rw [Trs.fn h2 k2]
  | v, .tup ts, fp, fq, h, k => by
    unfold Tr at h k
    obtain ⟨a, vs, f1, rfl, h1, rfl, h2⟩ := h
    obtain ⟨b, us, f2, e, k1, rfl, k2⟩ := k
    cases e
    rw [h1] at k1; cases k1
    rw [Trs.fn h2 k2]
  | v, .dk ks ts, fp, fq, h, k => by
    unfold Tr at h k
    obtain ⟨a, vs, f1, rfl, h1, hl, rfl, h2⟩ := h
    obtain ⟨b, us, f2, e, k1, kl, rfl, k2⟩ := k
    cases e
    rw [h1] at k1
    have k1 : ks.zip vs = ks.zip us := by injection k1 with k1; injection k1
    have z1 : (ks.zip vs).map (·.2) = vs := List.map_snd_zip (by omega)
    have z2 : (ks.zip us).map (·.2) = us := List.map_snd_zip (by omega)
    have : vs = us := by rw [← z1, k1, z2]
    subst this
    rw [Trs.fn h2 k2]
  | v, .ob c ns ts, fp, fq, h, k => by
    unfold Tr at h k
    obtain ⟨a, C, dx, vs, f1, rfl, h0, h1, hl, rfl, h2⟩ := h
    obtain ⟨b, C', dx', us, f2, e, k0, k1, kl, rfl, k2⟩ := k
    cases e
    rw [h1] at k1
    have k1 : ns.zip vs = ns.zip us := by injection k1 with k1; injection k1
    have z1 : (ns.zip vs).map (·.2) = vs := List.map_snd_zip (by omega)
    have z2 : (ns.zip us).map (·.2) = us := List.map_snd_zip (by omega)
    have : vs = us := by rw [← z1, k1, z2]
    subst this
    rw [Trs.fn h2 k2]
theorem Trs.fn : ∀ {vs : List V} {ts : List DT} {fp fq : List Addr}, Trs K cl F H vs ts fp → Trs K cl F H vs ts fq → fp = fq
  | vs, [], fp, fq, h, k => by unfold Trs at h k; rw [h.2, k.2]
  | vs, t :: ts, fp, fq, h, k => by
    unfold Trs at h k
    obtain ⟨v, r, f1, f2, rfl, rfl, h1, h2⟩ := h
    obtain ⟨v', r', g1, g2, e, rfl, k1, k2⟩ := k
    cases e
    rw [Tr.fn h1 k1, Trs.fn h2 k2]
end
end
/-- the slots of trees: each at places of its own -/
def TrOk (K : PySem.W.Frag) (cl : Str → Option Addr) (H0 F H : Hp) (σ : L2.St) (ρ : En) : Prop := ∃ ω : Nat → List Addr,
  (∀ (i : Nat) (t : DT), ρ[i]? = some (.tr t) → ∃ v, σ[i]? = some (some v) ∧ Tr K cl F H v t (ω i) ∧ (ω i).Nodup ∧ ∀ a ∈ ω i, F a = none ∧ H0 a = none) ∧
  (∀ (i j : Nat) (t t' : DT) (a : Addr), ρ[i]? = some (.tr t) → ρ[j]? = some (.tr t') → a ∈ ω i → a ∈ ω j → i = j) ∧
  (∀ (i j : Nat) (t : DT) (o : DO) (p : Addr), ρ[i]? = some (.tr t) → ρ[j]? = some (.own o) → σ[j]? = some (some (.ref p)) → p ∉ ω i)
theorem trOk_none {cl : Str → Option Addr} {H0 F H : Hp} {σ : L2.St} {ρ : En} (h : ∀ (i : Nat) (t : DT), ρ[i]? ≠ some (.tr t)) : TrOk K cl H0 F H σ ρ :=
  ⟨fun _ => [], fun i t e => absurd e (h i t), fun i _ t _ _ e => absurd e (h i t), fun i _ t _ _ e => absurd e (h i t)⟩
theorem TrOk.to {cl : Str → Option Addr} {H0 F H F' H' : Hp} {σ σ' : L2.St} {ρ ρ' : En} (T : TrOk K cl H0 F H σ ρ)
    (hρ : ∀ (i : Nat) (t : DT), ρ'[i]? = some (.tr t) → ρ[i]? = some (.tr t) ∧ σ'[i]? = σ[i]?)
    (ho : ∀ (j : Nat) (o : DO) (p : Addr), ρ'[j]? = some (.own o) → σ'[j]? = some (some (.ref p)) → (∃ o', ρ[j]? = some (.own o') ∧ σ[j]? = some (some (.ref p))) ∨ ∀ (i : Nat) (t : DT) (v : V) (fp : List Addr), ρ[i]? = some (.tr t) → σ[i]? = some (some v) → Tr K cl F H v t fp → p ∉ fp)
    (hF : Ex F F')
    (hH : ∀ (a : Addr) (u : HO), H a = some u → F a = none → H0 a = none → (∀ (j : Nat) (o : DO) (p : Addr), ρ[j]? = some (.own o) → σ[j]? = some (some (.ref p)) → a ≠ p) → H' a = H a ∧ F' a = none) : TrOk K cl H0 F' H' σ' ρ' := by
  obtain ⟨ω, h1, h2, h3⟩ := T
  refine ⟨ω, fun i t e => ?_, fun i j t t' a e1 e2 => h2 i j t t' a (hρ i t e1).1 (hρ j t' e2).1, fun i j t o p e1 e2 e3 hp => ?_⟩
  · obtain ⟨e1, e2⟩ := hρ i t e
    obtain ⟨v, q1, q2, q3, q4⟩ := h1 i t e1
    have at_ : ∀ a ∈ ω i, H' a = H a ∧ F' a = .none := fun a ha => by
      obtain ⟨u, hu⟩ := q2.here a ha
      obtain ⟨z1, z2⟩ := q4 a ha
      exact hH a u hu z1 z2 fun j o p w1 w2 w3 => h3 i j t o p e1 w1 w2 (w3 ▸ ha)
    exact ⟨v, by rw [e2]; exact q1, q2.mono hF fun a ha => (at_ a ha).1, q3, fun a ha => ⟨(at_ a ha).2, (q4 a ha).2⟩⟩
  · obtain ⟨w1, w2⟩ := hρ i t e1
    rcases ho j o p e2 e3 with ⟨o', z1, z2⟩ | z
    · exact h3 i j t o' p w1 z1 z2 hp
    · obtain ⟨v, q1, q2, _⟩ := h1 i t w1
      exact z i t v _ w1 q1 q2 hp

/-- the code of a context stands at (σ, H): ρ says what the slots hold; F is the frozen part; F0, H0 the entry -/
structure Sr (K : PySem.W.Frag) (cl : Str → Option Addr) (F0 H0 F H : Hp) (σ : L2.St) (ρ : En) : Prop where
  grow : Grow F0 H0 F H
  len : σ.length = ρ.length
  val : ∀ (i : Nat) (d : D), ρ[i]? = some (.val d) → ∃ v, σ[i]? = some (some v) ∧ Rp K cl F v d
  own : ∀ (i : Nat) (o : DO), ρ[i]? = some (.own o) → ∃ p ho, σ[i]? = some (some (.ref p)) ∧ F p = none ∧ H p = some ho ∧ HR K cl F ho o ∧ H0 p = none
  dis : ∀ (i j : Nat) (o o' : DO) (p : Addr), ρ[i]? = some (.own o) → ρ[j]? = some (.own o') → σ[i]? = some (some (.ref p)) → σ[j]? = some (some (.ref p)) → i = j
  tr : TrOk K cl H0 F H σ ρ
section
variable {cl : Str → Option Addr} {F0 H0 F H F' H' : Hp} {σ : L2.St} {ρ : En}
theorem Sr.ex (S : Sr K cl F0 H0 F H σ ρ) : Ex F H := S.grow.s
theorem Sr.mono (S : Sr K cl F0 H0 F H σ ρ) (g : Grow F H F' H') : Sr K cl F0 H0 F' H' σ ρ :=
  ⟨S.grow.trans g, S.len, fun i d e => let ⟨v, h1, h2⟩ := S.val i d e; ⟨v, h1, h2.mono g.f⟩,
    fun i o e => let ⟨p, ho, h1, h2, h3, h4, h5⟩ := S.own i o e; ⟨p, ho, h1, g.n p ho h3 h2, g.h _ _ h3, h4.mono g.f, h5⟩, S.dis,
    S.tr.to (fun _ _ e => ⟨e, rfl⟩) (fun j o p e1 e2 => .inl ⟨o, e1, e2⟩) g.f fun a u hu hf _ _ => ⟨(g.h a u hu).trans hu.symm, g.n a u hu hf⟩⟩
end
/-! ### exceptions whose context is None -/
open PyProof.Rows
/-- nothing is let out -/
theorem takesN0 {X : Cx} : L2N.Takes X (fun _ _ _ _ => False) := fun _ _ ⟨_, _, _, _, _, _, _, _, _, _, _, _, _, _, _, _, z⟩ => z.elim
/-- a def that may raise, whatever it may let out -/
theorem okXN {CX : CXT} {P : Program} {w : World} {K : PySem.W.Frag} {mg : Str → Option Value} {base : Heap} {x qual : Str} {st : Stmt} {f : Addr} {fd : FuncData} {N ps : List Str} {k : Nat} {sp : Sp} (F : Fun K x qual st f fd) (S : FnScope N ps (defScope st))
    (hl : ∀ vs H Q E, sp vs H Q E → vs.length = ps.length)
    (hb : ∀ (cdv : Value) (A : Around) (outer : List Env) (s : Shared) (H : Hp) (vs : List V) (Q : VK) (E : XK), Room k (A.deeper (envOfC qual (defScope st) s.heap.objs.size f cdv)) → sp vs H Q E →
      ∃ t, PSs (cxOf CX P w K mg base N qual (defScope st) f cdv A outer s H E) (defBody st) t ∧ t { nx := fun _ H' => Q .non H', rt := Q } (L2.start N vs) H) : FnOk P w K mg base CX (k + 1) f fd ps sp := by
  obtain ⟨_, _, _, _, _, _, cdv, _, _, e, q1, q2⟩ := F.ex
  subst e
  exact fn_of q1 q2 S hl (hb cdv)
end UP
namespace UP
open PySem L2 PyProof.Rows

/-! ### what is wanted of an expression -/
def ExR (K : PySem.W.Frag) (cl : Str → Option Addr) (F : Hp) (x : Exc) (cls : Value) (dd : Option Addr) : Prop :=
  ∃ C, cl x.cls = some C ∧ cls = .ref C ∧ ((x.ns = [] ∧ dd = none) ∨ (x.ns ≠ [] ∧ ∃ d vs, dd = some d ∧ F d = some (.xd (x.ns.zip vs)) ∧ x.ns.length = vs.length ∧ Rps K cl F vs x.xs))
theorem ExR.mono {K : PySem.W.Frag} {cl : Str → Option Addr} {F F' : Hp} {x : Exc} {cls : Value} {dd : Option Addr} (e : Ex F F') (h : ExR K cl F x cls dd) : ExR K cl F' x cls dd := by
  obtain ⟨C, h1, h2, h3⟩ := h
  refine ⟨C, h1, h2, ?_⟩
  rcases h3 with h3 | ⟨hn, d, vs, a, b, c, r⟩
  · exact .inl h3
  · exact .inr ⟨hn, d, vs, a, e _ _ b, c, r.mono e⟩
def Post (K : PySem.W.Frag) (cl : Str → Option Addr) (W : WX) (σ : L2.St) (F H : Hp) (Q : VK) : R D → Prop
  | .ok d => ∀ v F' H', Grow F H F' H' → Rp K cl F' v d → Q v H'
  | .er x => ∀ cls dd F' H', Grow F H F' H' → ExR K cl F' x cls dd → W cls dd σ H'
  | .st => False
def PostA (K : PySem.W.Frag) (cl : Str → Option Addr) (W : WX) (σ : L2.St) (F H : Hp) (Q : List V → Hp → Prop) : R (List D) → Prop
  | .ok ds => ∀ vs F' H', Grow F H F' H' → Rps K cl F' vs ds → Q vs H'
  | .er x => ∀ cls dd F' H', Grow F H F' H' → ExR K cl F' x cls dd → W cls dd σ H'
  | .st => False
def PostT (K : PySem.W.Frag) (cl : Str → Option Addr) (W : WX) (σ : L2.St) (F H : Hp) (Q : Bool → Hp → Prop) : R Bool → Prop
  | .ok b => ∀ F' H', Grow F H F' H' → Q b H'
  | .er x => ∀ cls dd F' H', Grow F H F' H' → ExR K cl F' x cls dd → W cls dd σ H'
  | .st => False
def SqB (K : PySem.W.Frag) (b : Bool) (H : Hp) (a : Addr) (vs : List V) : Prop := if b = true then SqL K H a vs else SqT K H a vs
theorem SqB.mono {K : PySem.W.Frag} {b : Bool} {H H' : Hp} {a : Addr} {vs : List V} (e : Ex H H') (h : SqB K b H a vs) : SqB K b H' a vs := by
  cases b with
  | true => exact ex_l e h
  | false => exact ex_t e h
theorem SqB.or {K : PySem.W.Frag} {b : Bool} {H : Hp} {a : Addr} {vs : List V} (h : SqB K b H a vs) : SqL K H a vs ∨ SqT K H a vs := by
  cases b with
  | true => exact .inl h
  | false => exact .inr h
def PostL (K : PySem.W.Frag) (cl : Str → Option Addr) (W : WX) (σ : L2.St) (F H : Hp) (Q : VK) : R (Bool × List D) → Prop
  | .ok (b, xs) => ∀ a vs F' H', Grow F H F' H' → SqB K b H' a vs → Rps K cl F' vs xs → Q (.ref a) H'
  | .er x => ∀ cls dd F' H', Grow F H F' H' → ExR K cl F' x cls dd → W cls dd σ H'
  | .st => False
def PostN (K : PySem.W.Frag) (cl : Str → Option Addr) (W : WX) (σ : L2.St) (F H : Hp) (Q : VK) : R DO → Prop
  | .ok o => ∀ p ho F' H', Grow F H F' H' → H p = none → F' p = none → H' p = some ho → HR K cl F' ho o → Q (.ref p) H'
  | .er x => ∀ cls dd F' H', Grow F H F' H' → ExR K cl F' x cls dd → W cls dd σ H'
  | .st => False

structure UE (X : Cx) (cl : Str → Option Addr) (W : WX) (e : Expr) (te : TE) (me : En → R D) : Prop where
  pe : PE X e te
  es : ∀ F0 H0 F H σ ρ Q, Sr X.K cl F0 H0 F H σ ρ → Post X.K cl W σ F H Q (me ρ) → te σ H Q
structure UL (X : Cx) (cl : Str → Option Addr) (W : WX) (e : Expr) (te : TE) (me : En → R (Bool × List D)) : Prop where
  pe : PE X e te
  es : ∀ F0 H0 F H σ ρ Q, Sr X.K cl F0 H0 F H σ ρ → PostL X.K cl W σ F H Q (me ρ) → te σ H Q
structure UN (X : Cx) (cl : Str → Option Addr) (W : WX) (e : Expr) (te : TE) (me : En → R DO) : Prop where
  pe : PE X e te
  es : ∀ F0 H0 F H σ ρ Q, Sr X.K cl F0 H0 F H σ ρ → PostN X.K cl W σ F H Q (me ρ) → te σ H Q
structure UT (X : Cx) (cl : Str → Option Addr) (W : WX) (e : Expr) (te : TT) (me : En → R Bool) : Prop where
  pe : PT X e te
  es : ∀ F0 H0 F H σ ρ Q, Sr X.K cl F0 H0 F H σ ρ → PostT X.K cl W σ F H Q (me ρ) → te σ H Q
/-- and, or: a test whatever its whole is -/
structure UW (X : Cx) (cl : Str → Option Addr) (W : WX) (e : Expr) (te : TT) (me : En → R Bool) : Prop where
  pe : PW X e te
  es : ∀ F0 H0 F H σ ρ Q, Sr X.K cl F0 H0 F H σ ρ → PostT X.K cl W σ F H Q (me ρ) → te σ H Q
structure UA (X : Cx) (cl : Str → Option Addr) (W : WX) (es : List Expr) (ta : TA) (ma : En → R (List D)) : Prop where
  pe : PA X es ta
  es : ∀ F0 H0 F H σ ρ Q, Sr X.K cl F0 H0 F H σ ρ → PostA X.K cl W σ F H Q (ma ρ) → ta σ H Q

section
variable {X : Cx} {cl : Str → Option Addr} {W : WX} {K : PySem.W.Frag} {σ : L2.St} {F H F' H' : Hp}
theorem Post.grow {Q : VK} {r : R D} (h : Post K cl W σ F H Q r) (g : Grow F H F' H') : Post K cl W σ F' H' Q r := by
  cases r with
  | ok d => exact fun v F2 H2 g2 q => h v F2 H2 (g.trans g2) q
  | er x => exact fun c d F2 H2 g2 q => h c d F2 H2 (g.trans g2) q
  | st => exact h
theorem PostA.grow {Q : List V → Hp → Prop} {r : R (List D)} (h : PostA K cl W σ F H Q r) (g : Grow F H F' H') : PostA K cl W σ F' H' Q r := by
  cases r with
  | ok d => exact fun v F2 H2 g2 q => h v F2 H2 (g.trans g2) q
  | er x => exact fun c d F2 H2 g2 q => h c d F2 H2 (g.trans g2) q
  | st => exact h
theorem PostT.grow {Q : Bool → Hp → Prop} {r : R Bool} (h : PostT K cl W σ F H Q r) (g : Grow F H F' H') : PostT K cl W σ F' H' Q r := by
  cases r with
  | ok d => exact fun F2 H2 g2 => h F2 H2 (g.trans g2)
  | er x => exact fun c d F2 H2 g2 q => h c d F2 H2 (g.trans g2) q
  | st => exact h
theorem PostL.grow {Q : VK} {r : R (Bool × List D)} (h : PostL K cl W σ F H Q r) (g : Grow F H F' H') : PostL K cl W σ F' H' Q r := by
  cases r with
  | ok d => exact fun a vs F2 H2 g2 q => h a vs F2 H2 (g.trans g2) q
  | er x => exact fun c d F2 H2 g2 q => h c d F2 H2 (g.trans g2) q
  | st => exact h
theorem PostN.grow {Q : VK} {r : R DO} (h : PostN K cl W σ F H Q r) (g : Grow F H F' H') (hn : ∀ p, H' p = none → H p = none) : PostN K cl W σ F' H' Q r := by
  cases r with
  | ok d => exact fun p ho F2 H2 g2 q => h p ho F2 H2 (g.trans g2) (hn p q)
  | er x => exact fun c d F2 H2 g2 q => h c d F2 H2 (g.trans g2) q
  | st => exact h
theorem Grow.old (g : Grow F H F' H') : ∀ p, H' p = none → H p = none := fun p e => by
  cases q : H p with
  | none => rfl
  | some o => rw [g.h p o q] at e; cases e
theorem Post.here {Q : VK} {d : D} {v : V} (h : Post K cl W σ F H Q (.ok d)) (e : Ex F H) (r : Rp K cl F v d) : Q v H := h v F H (Grow.refl e) r
/-- a new object is laid, frozen -/
theorem Grow.lay {p : Addr} {o : HO} (e : Ex F H) (hp : H p = none) : Grow F H (upd F p o) (upd H p o) := by
  have fp : F p = none := by
    cases q : F p with
    | none => rfl
    | some u => rw [e p u q] at hp; cases hp
  refine ⟨Ex.new fp, fun a u q => ?_, Ex.new hp, fun a u q z => ?_⟩
  · by_cases h : a = p
    · subst h; rw [upd_same] at q ⊢; exact q
    · rw [upd_ne h] at q ⊢; exact e a u q
  · rw [upd_ne (ne_of_none q hp)]; exact z
/-- a new object is laid, ours -/
theorem Grow.lay' {p : Addr} {o : HO} (e : Ex F H) (hp : H p = none) : Grow F H F (upd H p o) :=
  ⟨Ex.refl _, fun a u q => by rw [upd_ne (ne_of_none (e a u q) hp)]; exact e a u q, Ex.new hp, fun _ _ _ z => z⟩
theorem Grow.fnone (e : Ex F H) {p : Addr} (hp : H p = none) : F p = none := by
  cases q : F p with
  | none => rfl
  | some u => rw [e p u q] at hp; cases hp
/-- ours becomes frozen -/
theorem Grow.freeze {p : Addr} {o : HO} (g : Grow F H F' H') (h0 : H p = none) (hf : F' p = none) (hp : H' p = some o) : Grow F H (upd F' p o) H' := by
  refine ⟨g.f.trans (Ex.new hf), fun a u q => ?_, g.h, fun a u q z => ?_⟩
  · by_cases h : a = p
    · subst h; rw [upd_same] at q; rw [hp]; exact q
    · rw [upd_ne h] at q; exact g.s a u q
  · rw [upd_ne (ne_of_none q h0)]; exact g.n a u q z

/-! ### atoms -/
def dVar (i : Nat) : En → R D := fun ρ => match ρ[i]? with
  | some (.val d) => .ok d
  | _ => .st
def dC (d : D) : En → R D := fun _ => .ok d
theorem ue_var {e : Expr} {i : Nat} (h : PE X e (tVar i)) : UE X cl W e (tVar i) (dVar i) := by
  refine ⟨h, fun F0 H0 F H σ ρ Q S p => ?_⟩
  unfold dVar at p
  split at p
  · rename_i d hd
    obtain ⟨v, h1, h2⟩ := S.val i d hd
    exact ⟨v, h1, p.here S.ex h2⟩
  · exact False.elim p
theorem ue_c {e : Expr} {v : V} {d : D} (h : PE X e (tC v)) (r : ∀ F, Rp X.K cl F v d) : UE X cl W e (tC v) (dC d) :=
  ⟨h, fun F0 H0 F H σ ρ Q S p => p.here S.ex (r F)⟩
theorem ue_int {i : Int} {j pos} : UE X cl W (.Constant (.int i) j pos) (tC (.int i)) (dC (.int i)) := ue_c pe_int fun F => by unfold Rp; rfl
theorem ue_bl {b j pos} : UE X cl W (.Constant (.bool b) j pos) (tC (.bl b)) (dC (.bl b)) := ue_c pe_bl fun F => by unfold Rp; rfl
theorem ue_non {j pos} : UE X cl W (.Constant .none j pos) (tC .non) (dC .non) := ue_c pe_non fun F => by unfold Rp; rfl
theorem ue_str {x j pos} : UE X cl W (.Constant (.str x) j pos) (tC (.str x)) (dC (.str x)) := ue_c pe_str fun F => by unfold Rp; rfl

/-! ### two in a row -/
def d2 {α β γ : Type} (f : α → β → R γ) (a : En → R α) (b : En → R β) : En → R γ := fun ρ => (a ρ).bind fun x => (b ρ).bind fun y => f x y
def d1 {α γ : Type} (f : α → R γ) (a : En → R α) : En → R γ := fun ρ => (a ρ).bind f
/-- an operation of two values -/
def Op2 (K : PySem.W.Frag) (cl : Str → Option Addr) (r : R2) (f : D → D → R D) : Prop :=
  ∀ (W : WX) (σ : L2.St) (F H : Hp) (x y : V) (dx dy : D) (Q : VK), Ex F H → Rp K cl F x dx → Rp K cl F y dy → Post K cl W σ F H Q (f dx dy) → r x y H Q
theorem es_op {ta tb : TE} {ma mb : En → R D} {r : R2} {f : D → D → R D}
    (ha : ∀ F0 H0 F H σ ρ Q, Sr K cl F0 H0 F H σ ρ → Post K cl W σ F H Q (ma ρ) → ta σ H Q) (hb : ∀ F0 H0 F H σ ρ Q, Sr K cl F0 H0 F H σ ρ → Post K cl W σ F H Q (mb ρ) → tb σ H Q) (hf : Op2 K cl r f) :
    ∀ F0 H0 F H σ ρ Q, Sr K cl F0 H0 F H σ ρ → Post K cl W σ F H Q (d2 f ma mb ρ) → tOp r ta tb σ H Q := by
  intro F0 H0 F H σ ρ Q S p
  unfold d2 at p
  refine ha F0 H0 F H σ ρ _ S ?_
  cases e : ma ρ with
  | st => rw [e] at p; exact p
  | er x => rw [e] at p; exact p
  | ok dx =>
    rw [e] at p
    intro x F1 H1 g1 r1
    refine hb F0 H0 F1 H1 σ ρ _ (S.mono g1) ?_
    cases e2 : mb ρ with
    | st => rw [R.bind_ok, e2] at p; exact p
    | er x => rw [R.bind_ok, e2] at p; exact fun c d F2 H2 g2 q => p c d F2 H2 (g1.trans g2) q
    | ok dy =>
      rw [R.bind_ok, e2, R.bind_ok] at p
      intro y F2 H2 g2 r2
      exact hf W σ F2 H2 x y dx dy Q g2.s (r1.mono g2.f) r2 (p.grow (g1.trans g2))
theorem ue_op {a b : Expr} {ta tb : TE} {ma mb : En → R D} {op : Operator} {r : R2} {f : D → D → R D} {pos : Pos} (ho : OpR X (binaryOp op) r) (hf : Op2 X.K cl r f) (ha : UE X cl W a ta ma) (hb : UE X cl W b tb mb) :
    UE X cl W (.BinOp a op b pos) (tOp r ta tb) (d2 f ma mb) := ⟨pe_op ho ha.pe hb.pe, es_op ha.es hb.es hf⟩
theorem ue_cmp {a b : Expr} {ta tb : TE} {ma mb : En → R D} {op : CmpOp} {r : R2} {f : D → D → R D} {pos : Pos} (ho : OpR X (compareOp op) r) (hf : Op2 X.K cl r f) (ha : UE X cl W a ta ma) (hb : UE X cl W b tb mb) (hm : behindInMarks op b = false) :
    UE X cl W (.Compare a [op] [b] pos) (tOp r ta tb) (d2 f ma mb) := ⟨pe_cmpR ho ha.pe hb.pe hm, es_op ha.es hb.es hf⟩
/-- ints -/
def dI (C : Int → Int → Prop) [∀ i j, Decidable (C i j)] (g : Int → Int → D) : D → D → R D
  | .int i, .int j => if C i j then .ok (g i j) else .st
  | _, _ => .st
def dI0 (g : Int → Int → D) : D → D → R D
  | .int i, .int j => .ok (g i j)
  | _, _ => .st
def vd : V → D
  | .bl b => .bl b
  | .int i => .int i
  | .str x => .str x
  | _ => .non
theorem op2_I {C : Int → Int → Prop} [∀ i j, Decidable (C i j)] {g : Int → Int → V} {g' : Int → Int → D} (h : ∀ F i j, Rp K cl F (g i j) (g' i j)) : Op2 K cl (rI C g) (dI C g') := by
  intro W σ F H x y dx dy Q e rx ry p
  cases dx <;> cases dy <;> try exact False.elim p
  unfold Rp at rx ry
  subst rx ry
  rename_i i j
  have p' : Post K cl W σ F H Q (if C i j then .ok (g' i j) else .st) := p
  by_cases c : C i j
  · rw [if_pos c] at p'
    exact ⟨_, _, rfl, rfl, c, p'.here e (h F _ _)⟩
  · rw [if_neg c] at p'
    exact False.elim p'
theorem op2_I0 {g : Int → Int → V} {g' : Int → Int → D} (h : ∀ F i j, Rp K cl F (g i j) (g' i j)) : Op2 K cl (rI0 g) (dI0 g') := by
  intro W σ F H x y dx dy Q e rx ry p
  cases dx <;> cases dy <;> try exact False.elim p
  unfold Rp at rx ry
  subst rx ry
  exact ⟨_, _, rfl, rfl, Post.here (W := W) (σ := σ) p e (h F _ _)⟩
theorem op2_or {r r' : R2} {f f' : D → D → R D} (h : Op2 K cl r f) (h' : Op2 K cl r' f') {g : D → D → R D} (hg : ∀ x y, g x y = f x y ∨ g x y = f' x y) : Op2 K cl (fun x y H Q => r x y H Q ∨ r' x y H Q) g := by
  intro W σ F H x y dx dy Q e rx ry p
  rcases hg dx dy with q | q
  · rw [q] at p; exact .inl (h W σ F H x y dx dy Q e rx ry p)
  · rw [q] at p; exact .inr (h' W σ F H x y dx dy Q e rx ry p)
instance {i j : Int} : Decidable (CDiv i j) := by unfold CDiv; infer_instance
instance {i j : Int} : Decidable (CDivN i j) := by unfold CDivN; infer_instance
instance {i j : Int} : Decidable (CPow i j) := by unfold CPow; infer_instance
instance {i j : Int} : Decidable (CMul i j) := by unfold CMul; infer_instance
instance {i j : Int} : Decidable (CDivW i j) := by unfold CDivW; infer_instance
instance {i j : Int} : Decidable (CMulW i j) := by unfold CMulW; infer_instance
def CMulA (i j : Int) : Prop := CMul i j ∨ CMulW i j
instance {i j : Int} : Decidable (CMulA i j) := by unfold CMulA; infer_instance
/-- .. by a divisor of either sign -/
def CDivM (_ j : Int) : Prop := j ≠ 0 ∧ j.natAbs.log2 < 9000
instance {i j : Int} : Decidable (CDivM i j) := by unfold CDivM; infer_instance
def CDivA (i j : Int) : Prop := CDivN i j ∨ CDivW i j ∨ CDivM i j
instance {i j : Int} : Decidable (CDivA i j) := by unfold CDivA; infer_instance
theorem op_mulA : OpR X (binaryOp .Mult) (rI CMulA fun i j => .int (i * j)) := opI fun _ _ _ _ _ _ _ hc q => mul_int q (hc.elim (fun h => h.ok) fun h => h.ok)
theorem op_fdivA : OpR X (binaryOp .FloorDiv) (rI CDivA fun i j => .int (i.fdiv j)) := opI fun i j _ _ _ _ _ hc q => by
  rcases hc with hc | hc
  · exact floordiv_int hc.1 q (.inl (PyProof.noPylong_small hc.2))
  · have h1 : j ≠ 0 ∧ j.natAbs.log2 < 9000 := hc.elim (fun h => ⟨by have := h.1; omega, h.2⟩) id
    exact floordiv_int h1.1 q (.inl (PyProof.noPylong_of_log2 h1.2))
end
end UP
namespace UP
open PySem L2 PyProof.Rows
section
variable {X : Cx} {cl : Str → Option Addr} {W : WX} {K : PySem.W.Frag} {σ : L2.St} {F H F' H' : Hp}

/-! ### from one kind of reading to another -/
def dFz : DO → R D
  | .lst xs => .ok (.lst xs)
  | .dK ks xs => .ok (.dk ks xs)
  | .ins c ns xs => .ok (.obj c ns xs)
  | .dT _ _ => .st
theorem rp_fz {p : Addr} {ho : HO} {o : DO} {d : D} (h : HR K cl F ho o) (hp : F p = none) (e : dFz o = .ok d) : Rp K cl (upd F p ho) (.ref p) d := by
  have m := Ex.new (o := ho) hp
  cases o with
  | lst xs =>
    cases e
    obtain ⟨vs, rfl, h2⟩ := h
    unfold Rp
    exact ⟨p, vs, rfl, SqL.of upd_same, h2.mono m⟩
  | dK ks xs =>
    cases e
    obtain ⟨vs, rfl, h1, h2⟩ := h
    unfold Rp
    exact ⟨p, vs, rfl, upd_same, h1, h2.mono m⟩
  | dT ks xs => cases e
  | ins c ns xs =>
    cases e
    obtain ⟨C, dx, vs, h0, rfl, h1, h2⟩ := h
    unfold Rp
    exact ⟨p, C, dx, vs, rfl, h0, upd_same, h1, h2.mono m⟩
theorem UN.e {e : Expr} {te : TE} {me : En → R DO} (h : UN X cl W e te me) : UE X cl W e te (d1 dFz me) := by
  refine ⟨h.pe, fun F0 H0 F H σ ρ Q S p => h.es F0 H0 F H σ ρ Q S ?_⟩
  unfold d1 at p
  cases e : me ρ with
  | st => rw [e] at p; exact p
  | er x => rw [e] at p; exact p
  | ok o =>
    rw [e, R.bind_ok] at p
    intro q ho F1 H1 g h0 h1 h2 hr
    cases e2 : dFz o with
    | st => rw [e2] at p; exact p.elim
    | er x => cases o <;> cases e2
    | ok d =>
      rw [e2] at p
      exact p _ _ _ (g.freeze h0 h1 h2) (rp_fz hr h1 e2)
def dSq : D → R (Bool × List D)
  | .lst xs => .ok (true, xs)
  | .tup xs => .ok (false, xs)
  | _ => .st
theorem UE.l {e : Expr} {te : TE} {me : En → R D} (h : UE X cl W e te me) : UL X cl W e te (d1 dSq me) := by
  refine ⟨h.pe, fun F0 H0 F H σ ρ Q S p => h.es F0 H0 F H σ ρ Q S ?_⟩
  unfold d1 at p
  cases e : me ρ with
  | st => rw [e] at p; exact p
  | er x => rw [e] at p; exact p
  | ok d =>
    rw [e, R.bind_ok] at p
    intro v F1 H1 g r
    cases d with
    | lst xs =>
      unfold Rp at r
      obtain ⟨a, vs, rfl, h1, h2⟩ := r
      exact p a vs F1 H1 g (ex_l g.s h1) h2
    | tup xs =>
      unfold Rp at r
      obtain ⟨a, vs, rfl, h1, h2⟩ := r
      exact p a vs F1 H1 g (SqT.of (g.s _ _ h1)) h2
    | _ => exact p.elim
def dOl : DO → R (Bool × List D)
  | .lst xs => .ok (true, xs)
  | _ => .st
theorem UN.l {e : Expr} {te : TE} {me : En → R DO} (h : UN X cl W e te me) : UL X cl W e te (d1 dOl me) := by
  refine ⟨h.pe, fun F0 H0 F H σ ρ Q S p => h.es F0 H0 F H σ ρ Q S ?_⟩
  unfold d1 at p
  cases e : me ρ with
  | st => rw [e] at p; exact p
  | er x => rw [e] at p; exact p
  | ok o =>
    rw [e, R.bind_ok] at p
    intro q ho F1 H1 g h0 h1 h2 hr
    cases o with
    | lst xs =>
      obtain ⟨vs, rfl, h3⟩ := hr
      exact p q vs F1 H1 g (SqL.of h2) h3
    | _ => exact p.elim
/-- the list that a slot holds, frozen or ours -/
def dLv (i : Nat) : En → R (Bool × List D) := fun ρ => match ρ[i]? with
  | some (.val (.lst xs)) => .ok (true, xs)
  | some (.val (.tup xs)) => .ok (false, xs)
  | some (.own (.lst xs)) => .ok (true, xs)
  | _ => .st
theorem ul_var {e : Expr} {i : Nat} (h : PE X e (tVar i)) : UL X cl W e (tVar i) (dLv i) := by
  refine ⟨h, fun F0 H0 F H σ ρ Q S p => ?_⟩
  unfold dLv at p
  split at p
  · rename_i xs hd
    obtain ⟨v, h1, h2⟩ := S.val i _ hd
    unfold Rp at h2
    obtain ⟨a, vs, rfl, h3, h4⟩ := h2
    exact ⟨_, h1, p a vs F H (Grow.refl S.ex) (ex_l S.ex h3) h4⟩
  · rename_i xs hd
    obtain ⟨v, h1, h2⟩ := S.val i _ hd
    unfold Rp at h2
    obtain ⟨a, vs, rfl, h3, h4⟩ := h2
    exact ⟨_, h1, p a vs F H (Grow.refl S.ex) (SqT.of (S.ex _ _ h3)) h4⟩
  · rename_i xs hd
    obtain ⟨q, ho, h1, h2, h3, ⟨vs, rfl, h4⟩, h5⟩ := S.own i _ hd
    exact ⟨_, h1, p q vs F H (Grow.refl S.ex) (SqL.of h3) h4⟩
  · exact False.elim p

/-! ### arguments -/
def dNil : En → R (List D) := fun _ => .ok []
theorem ua_nil : UA X cl W [] tNil dNil := ⟨pa_nil, fun F0 H0 F H σ ρ Q S p => p _ F H (Grow.refl S.ex) Rps.nil⟩
def dCons (a : En → R D) (b : En → R (List D)) : En → R (List D) := d2 (fun x xs => .ok (x :: xs)) a b
theorem ua_cons {e : Expr} {es : List Expr} {te : TE} {t : TA} {me : En → R D} {ma : En → R (List D)} (h : UE X cl W e te me) (hr : UA X cl W es t ma) (hs : starEach (e :: es) X.env = (false, eval e X.env) :: starEach es X.env := by rfl) :
    UA X cl W (e :: es) (tCons te t) (dCons me ma) := by
  refine ⟨pa_cons h.pe hr.pe hs, fun F0 H0 F H σ ρ Q S p => ?_⟩
  unfold dCons d2 at p
  refine h.es F0 H0 F H σ ρ _ S ?_
  cases e1 : me ρ with
  | st => rw [e1] at p; exact p
  | er x => rw [e1] at p; exact p
  | ok dx =>
    rw [e1, R.bind_ok] at p
    intro x F1 H1 g1 r1
    refine hr.es F0 H0 F1 H1 σ ρ _ (S.mono g1) ?_
    cases e2 : ma ρ with
    | st => rw [e2] at p; exact p
    | er x => rw [e2] at p; exact fun c d F2 H2 g2 q => p c d F2 H2 (g1.trans g2) q
    | ok dy =>
      rw [e2, R.bind_ok] at p
      exact fun ys F2 H2 g2 r2 => p _ F2 H2 (g1.trans g2) (Rps.cons (r1.mono g2.f) r2)
/-- one argument that is looked at: a list's content -/
structure UAL (X : Cx) (cl : Str → Option Addr) (W : WX) (es : List Expr) (ta : TA) (ml : En → R (Bool × List D)) : Prop where
  pe : PA X es ta
  es : ∀ F0 H0 F H σ ρ (Q : List V → Hp → Prop), Sr X.K cl F0 H0 F H σ ρ → PostL X.K cl W σ F H (fun v H' => Q [v] H') (ml ρ) → ta σ H Q
theorem ual {e : Expr} {te : TE} {ml : En → R (Bool × List D)} (h : UL X cl W e te ml) (hs : starEach [e] X.env = (false, eval e X.env) :: starEach [] X.env := by rfl) : UAL X cl W [e] (tCons te tNil) ml :=
  ⟨pa_cons h.pe pa_nil hs, fun F0 H0 F H σ ρ Q S p => h.es F0 H0 F H σ ρ _ S p⟩

/-! ### displays -/
def SZ : Nat := 16777216
theorem sz_le {n : Nat} (h : n ≤ SZ) : n ≤ sizeLine := by rw [sizeLine_eq]; exact h
theorem sz_lt {n : Nat} (h : n < SZ) : n < sizeLine := by rw [sizeLine_eq]; exact h
def dMkT : List D → R D := fun ds => if ds.length ≤ SZ then .ok (.tup ds) else .st
def dMkL : List D → R DO := fun ds => if ds.length ≤ SZ then .ok (.lst ds) else .st
theorem ue_tup {es : List Expr} {t : TA} {ma : En → R (List D)} {x1 pos} (h : UA X cl W es t ma) : UE X cl W (.Tuple es x1 pos) (tTup t) (d1 dMkT ma) := by
  refine ⟨pe_tup h.pe, fun F0 H0 F H σ ρ Q S p => h.es F0 H0 F H σ ρ _ S ?_⟩
  unfold d1 at p
  cases e : ma ρ with
  | st => rw [e] at p; exact p
  | er x => rw [e] at p; exact p
  | ok ds =>
    rw [e, R.bind_ok] at p
    unfold dMkT at p
    split at p
    · rename_i hz
      intro vs F1 H1 g r
      refine ⟨by rw [r.length]; exact sz_le hz, fun q hq => ?_⟩
      have g2 := Grow.lay (o := .tup vs) g.s hq
      refine p _ _ _ (g.trans g2) ?_
      unfold Rp
      exact ⟨q, vs, rfl, upd_same, r.mono g2.f⟩
    · exact p.elim
theorem un_lst {es : List Expr} {t : TA} {ma : En → R (List D)} {pos} (h : UA X cl W es t ma) : UN X cl W (.List es pos) (tLst t) (d1 dMkL ma) := by
  refine ⟨pe_lst h.pe, fun F0 H0 F H σ ρ Q S p => h.es F0 H0 F H σ ρ _ S ?_⟩
  unfold d1 at p
  cases e : ma ρ with
  | st => rw [e] at p; exact p
  | er x => rw [e] at p; exact p
  | ok ds =>
    rw [e, R.bind_ok] at p
    unfold dMkL at p
    split at p
    · rename_i hz
      intro vs F1 H1 g r
      refine ⟨by rw [r.length]; exact sz_le hz, fun q hq => ?_⟩
      exact p q (.lst vs) F1 _ (g.trans (Grow.lay' g.s hq)) (g.old q hq) (Grow.fnone g.s hq) upd_same ⟨vs, rfl, r⟩
    · exact p.elim

/-! ### built-in calls -/
def CaR (K : PySem.W.Frag) (cl : Str → Option Addr) (r : List V → Hp → VK → Prop) (f : List D → R D) : Prop :=
  ∀ (W : WX) (σ : L2.St) (F H : Hp) (vs : List V) (ds : List D) (Q : VK), Ex F H → Rps K cl F vs ds → Post K cl W σ F H Q (f ds) → r vs H Q
def CaL (K : PySem.W.Frag) (cl : Str → Option Addr) (r : List V → Hp → VK → Prop) (f : Bool × List D → R D) : Prop :=
  ∀ (W : WX) (σ : L2.St) (F H : Hp) (a : Addr) (vs : List V) (b : Bool) (ds : List D) (Q : VK), Ex F H → SqB K b H a vs → Rps K cl F vs ds → Post K cl W σ F H Q (f (b, ds)) → r [.ref a] H Q
def CaN (K : PySem.W.Frag) (cl : Str → Option Addr) (r : List V → Hp → VK → Prop) (f : Bool × List D → R DO) : Prop :=
  ∀ (W : WX) (σ : L2.St) (F H : Hp) (a : Addr) (vs : List V) (b : Bool) (ds : List D) (Q : VK), Ex F H → SqB K b H a vs → Rps K cl F vs ds → PostN K cl W σ F H Q (f (b, ds)) → r [.ref a] H Q
variable {r : List V → Hp → VK → Prop} {x : Str} {p pos : Pos} {e : Expr} {es : List Expr} {t : TA} {id T : String}
theorem es_ca {ma : En → R (List D)} {f : List D → R D} (h : ∀ F0 H0 F H σ ρ Q, Sr K cl F0 H0 F H σ ρ → PostA K cl W σ F H Q (ma ρ) → t σ H Q) (hf : CaR K cl r f) :
    ∀ F0 H0 F H σ ρ Q, Sr K cl F0 H0 F H σ ρ → Post K cl W σ F H Q (d1 f ma ρ) → tCB r t σ H Q := by
  intro F0 H0 F H σ ρ Q S p
  unfold d1 at p
  refine h F0 H0 F H σ ρ _ S ?_
  cases e : ma ρ with
  | st => rw [e] at p; exact p
  | er x => rw [e] at p; exact p
  | ok ds =>
    rw [e, R.bind_ok] at p
    exact fun vs F1 H1 g r1 => hf W σ F1 H1 vs ds Q g.s r1 (p.grow g)
theorem es_cal {ml : En → R (Bool × List D)} {f : Bool × List D → R D} (h : ∀ F0 H0 F H σ ρ (Q : List V → Hp → Prop), Sr K cl F0 H0 F H σ ρ → PostL K cl W σ F H (fun v H' => Q [v] H') (ml ρ) → t σ H Q) (hf : CaL K cl r f) :
    ∀ F0 H0 F H σ ρ Q, Sr K cl F0 H0 F H σ ρ → Post K cl W σ F H Q (d1 f ml ρ) → tCB r t σ H Q := by
  intro F0 H0 F H σ ρ Q S p
  unfold d1 at p
  refine h F0 H0 F H σ ρ _ S ?_
  cases e : ml ρ with
  | st => rw [e] at p; exact p
  | er x => rw [e] at p; exact p
  | ok ds =>
    obtain ⟨b, ds⟩ := ds
    rw [e, R.bind_ok] at p
    exact fun a vs F1 H1 g q r1 => hf W σ F1 H1 a vs b ds Q g.s q r1 (p.grow g)
theorem es_can {ml : En → R (Bool × List D)} {f : Bool × List D → R DO} (h : ∀ F0 H0 F H σ ρ (Q : List V → Hp → Prop), Sr K cl F0 H0 F H σ ρ → PostL K cl W σ F H (fun v H' => Q [v] H') (ml ρ) → t σ H Q) (hf : CaN K cl r f) :
    ∀ F0 H0 F H σ ρ Q, Sr K cl F0 H0 F H σ ρ → PostN K cl W σ F H Q (d1 f ml ρ) → tCB r t σ H Q := by
  intro F0 H0 F H σ ρ Q S p
  unfold d1 at p
  refine h F0 H0 F H σ ρ _ S ?_
  cases e : ml ρ with
  | st => rw [e] at p; exact p
  | er x => rw [e] at p; exact p
  | ok ds =>
    obtain ⟨b, ds⟩ := ds
    rw [e, R.bind_ok] at p
    exact fun a vs F1 H1 g q r1 => hf W σ F1 H1 a vs b ds Q g.s q r1 (p.grow g g.old)
theorem ue_callB {ma : En → R (List D)} {f : List D → R D} (hc : CallR X (.builtin id) r) (hf : CaR X.K cl r f) (hm : X.mg x = none) (hv : bootBuiltins x = some (.builtin id)) (ha : UA X cl W (e :: es) t ma) (hg : Gl X x := by rfl)
    (hn : x ≠ "__name__" := by decide) (hdb : (x == ("__debug__" : Str)) = false := by decide)
    (he : starEach (e :: es) X.env = (false, eval e X.env) :: starEach es X.env := by rfl) (hpl : (backTo pos (starEach es X.env)).any (·.1) = false := by rfl) : UE X cl W (.Call (.Name x p) (e :: es) [] pos) (tCB r t) (d1 f ma) :=
  ⟨pe_callB hc hg hm hv ha.pe hn hdb he hpl, es_ca ha.es hf⟩
theorem ue_callT {ma : En → R (List D)} {f : List D → R D} (hc : CallR X (.type T) r) (hf : CaR X.K cl r f) (hm : X.mg x = none) (hv : bootBuiltins x = some (.type T)) (ha : UA X cl W (e :: es) t ma) (hg : Gl X x := by rfl)
    (hn : x ≠ "__name__" := by decide) (hdb : (x == ("__debug__" : Str)) = false := by decide)
    (he : starEach (e :: es) X.env = (false, eval e X.env) :: starEach es X.env := by rfl) (hpl : (backTo pos (starEach es X.env)).any (·.1) = false := by rfl) : UE X cl W (.Call (.Name x p) (e :: es) [] pos) (tCB r t) (d1 f ma) :=
  ⟨pe_callTy hc hg hm hv ha.pe hn hdb he hpl, es_ca ha.es hf⟩
theorem ue_callBL {ml : En → R (Bool × List D)} {f : Bool × List D → R D} (hc : CallR X (.builtin id) r) (hf : CaL X.K cl r f) (hm : X.mg x = none) (hv : bootBuiltins x = some (.builtin id)) (ha : UAL X cl W [e] t ml) (hg : Gl X x := by rfl)
    (hn : x ≠ "__name__" := by decide) (hdb : (x == ("__debug__" : Str)) = false := by decide)
    (he : starEach [e] X.env = (false, eval e X.env) :: starEach [] X.env := by rfl) (hpl : (backTo pos (starEach [] X.env)).any (·.1) = false := by rfl) : UE X cl W (.Call (.Name x p) [e] [] pos) (tCB r t) (d1 f ml) :=
  ⟨pe_callB hc hg hm hv ha.pe hn hdb he hpl, es_cal ha.es hf⟩
theorem ue_callTL {ml : En → R (Bool × List D)} {f : Bool × List D → R D} (hc : CallR X (.type T) r) (hf : CaL X.K cl r f) (hm : X.mg x = none) (hv : bootBuiltins x = some (.type T)) (ha : UAL X cl W [e] t ml) (hg : Gl X x := by rfl)
    (hn : x ≠ "__name__" := by decide) (hdb : (x == ("__debug__" : Str)) = false := by decide)
    (he : starEach [e] X.env = (false, eval e X.env) :: starEach [] X.env := by rfl) (hpl : (backTo pos (starEach [] X.env)).any (·.1) = false := by rfl) : UE X cl W (.Call (.Name x p) [e] [] pos) (tCB r t) (d1 f ml) :=
  ⟨pe_callTy hc hg hm hv ha.pe hn hdb he hpl, es_cal ha.es hf⟩
theorem un_callTL {ml : En → R (Bool × List D)} {f : Bool × List D → R DO} (hc : CallR X (.type T) r) (hf : CaN X.K cl r f) (hm : X.mg x = none) (hv : bootBuiltins x = some (.type T)) (ha : UAL X cl W [e] t ml) (hg : Gl X x := by rfl)
    (hn : x ≠ "__name__" := by decide) (hdb : (x == ("__debug__" : Str)) = false := by decide)
    (he : starEach [e] X.env = (false, eval e X.env) :: starEach [] X.env := by rfl) (hpl : (backTo pos (starEach [] X.env)).any (·.1) = false := by rfl) : UN X cl W (.Call (.Name x p) [e] [] pos) (tCB r t) (d1 f ml) :=
  ⟨pe_callTy hc hg hm hv ha.pe hn hdb he hpl, es_can ha.es hf⟩
theorem un_callBL {ml : En → R (Bool × List D)} {f : Bool × List D → R DO} (hc : CallR X (.builtin id) r) (hf : CaN X.K cl r f) (hm : X.mg x = none) (hv : bootBuiltins x = some (.builtin id)) (ha : UAL X cl W [e] t ml) (hg : Gl X x := by rfl)
    (hn : x ≠ "__name__" := by decide) (hdb : (x == ("__debug__" : Str)) = false := by decide)
    (he : starEach [e] X.env = (false, eval e X.env) :: starEach [] X.env := by rfl) (hpl : (backTo pos (starEach [] X.env)).any (·.1) = false := by rfl) : UN X cl W (.Call (.Name x p) [e] [] pos) (tCB r t) (d1 f ml) :=
  ⟨pe_callB hc hg hm hv ha.pe hn hdb he hpl, es_can ha.es hf⟩

/-! ### which built-ins -/
theorem post_ok {Q : VK} {d : D} {v : V} (h : Post K cl W σ F H Q (.ok d)) (e : Ex F H) (r : Rp K cl F v d) : Q v H := h v F H (Grow.refl e) r
theorem rp_int {i : Int} : Rp K cl F (.int i) (.int i) := by unfold Rp; rfl
theorem rp_bl {b : Bool} : Rp K cl F (.bl b) (.bl b) := by unfold Rp; rfl
theorem rp_str {s : Str} : Rp K cl F (.str s) (.str s) := by unfold Rp; rfl
theorem rp_non : Rp K cl F .non .non := by unfold Rp; rfl
theorem Rp.int_inv {v : V} {i : Int} (h : Rp K cl F v (.int i)) : v = .int i := by unfold Rp at h; exact h
theorem Rp.bl_inv {v : V} {i : Bool} (h : Rp K cl F v (.bl i)) : v = .bl i := by unfold Rp at h; exact h
theorem Rp.str_inv {v : V} {i : Str} (h : Rp K cl F v (.str i)) : v = .str i := by unfold Rp at h; exact h
def bAbs : List D → R D
  | [.int i] => .ok (.int (if i < 0 then -i else i))
  | _ => .st
theorem ca_abs : CaR K cl (fun xs H Q => ∃ i, xs = [.int i] ∧ Q (.int (if i < 0 then -i else i)) H) bAbs := by
  intro W σ F H vs ds Q e r p
  unfold bAbs at p
  split at p
  · rename_i i
    obtain ⟨v, r', rfl, h1, h2⟩ := r.cons_inv
    rw [h2.nil_inv, h1.int_inv]
    exact ⟨i, rfl, post_ok p e rp_int⟩
  · exact False.elim p
def bMax2 : List D → R D
  | [.int i, .int j] => .ok (.int (if j > i then j else i))
  | _ => .st
theorem ca_max2 : CaR K cl (fun xs H Q => ∃ i j, xs = [.int i, .int j] ∧ Q (.int (if j > i then j else i)) H) bMax2 := by
  intro W σ F H vs ds Q e r p
  unfold bMax2 at p
  split at p
  · rename_i i j
    obtain ⟨v, r', rfl, h1, h2⟩ := r.cons_inv
    obtain ⟨v', r'', rfl, h3, h4⟩ := h2.cons_inv
    rw [h4.nil_inv, h1.int_inv, h3.int_inv]
    exact ⟨i, j, rfl, post_ok p e rp_int⟩
  · exact False.elim p
def bMin2 : List D → R D
  | [.int i, .int j] => .ok (.int (if j < i then j else i))
  | _ => .st
theorem ca_min2 : CaR K cl (fun xs H Q => ∃ i j, xs = [.int i, .int j] ∧ Q (.int (if j < i then j else i)) H) bMin2 := by
  intro W σ F H vs ds Q e r p
  unfold bMin2 at p
  split at p
  · rename_i i j
    obtain ⟨v, r', rfl, h1, h2⟩ := r.cons_inv
    obtain ⟨v', r'', rfl, h3, h4⟩ := h2.cons_inv
    rw [h4.nil_inv, h1.int_inv, h3.int_inv]
    exact ⟨i, j, rfl, post_ok p e rp_int⟩
  · exact False.elim p
def bInt1 : List D → R D
  | [.int i] => .ok (.int i)
  | [.bl b] => .ok (.int (if b then 1 else 0))
  | _ => .st
theorem ca_int1 : CaR K cl (fun xs H Q => (∃ i, xs = [.int i] ∧ Q (.int i) H) ∨ ∃ k, xs = [.bl k] ∧ Q (.int (if k then 1 else 0)) H) bInt1 := by
  intro W σ F H vs ds Q e r p
  unfold bInt1 at p
  split at p
  · rename_i i
    obtain ⟨v, r', rfl, h1, h2⟩ := r.cons_inv
    rw [h2.nil_inv, h1.int_inv]
    exact .inl ⟨i, rfl, post_ok p e rp_int⟩
  · rename_i i
    obtain ⟨v, r', rfl, h1, h2⟩ := r.cons_inv
    rw [h2.nil_inv, h1.bl_inv]
    exact .inr ⟨i, rfl, post_ok p e rp_int⟩
  · exact False.elim p
/-- len: of a list or a tuple; of a text -/
def bLenL : Bool × List D → R D := fun x => .ok (.int (x.2.length : Nat))
theorem ca_lenL : CaL K cl (fun xs H Q => ∃ p ys, xs = [.ref p] ∧ (SqL K H p ys ∨ SqT K H p ys) ∧ Q (.int ys.length) H) bLenL := by
  intro W σ F H a vs b ds Q e s r p
  refine ⟨a, vs, rfl, s.or, ?_⟩
  rw [r.length]
  exact post_ok p e rp_int
def bLen : List D → R D
  | [.lst xs] => .ok (.int (xs.length : Nat))
  | [.tup xs] => .ok (.int (xs.length : Nat))
  | [.str s] => if s.length ≤ SZ then .ok (.int (s.length : Nat)) else .st
  | _ => .st
theorem ca_len : CaR K cl (fun xs H Q => ∃ x n, xs = [x] ∧ LenV K x H n ∧ Q (.int n) H) bLen := by
  intro W σ F H vs ds Q e r p
  unfold bLen at p
  split at p
  · rename_i xs
    obtain ⟨v, r', rfl, h1, h2⟩ := r.cons_inv
    rw [h2.nil_inv]
    unfold Rp at h1
    obtain ⟨a, us, rfl, h3, h4⟩ := h1
    exact ⟨_, us.length, rfl, .inl ⟨us, ex_l e h3, rfl⟩, by rw [h4.length]; exact post_ok p e rp_int⟩
  · rename_i xs
    obtain ⟨v, r', rfl, h1, h2⟩ := r.cons_inv
    rw [h2.nil_inv]
    unfold Rp at h1
    obtain ⟨a, us, rfl, h3, h4⟩ := h1
    exact ⟨_, us.length, rfl, .inr ⟨us, SqT.of (e _ _ h3), rfl⟩, by rw [h4.length]; exact post_ok p e rp_int⟩
  · rename_i s
    obtain ⟨v, r', rfl, h1, h2⟩ := r.cons_inv
    rw [h2.nil_inv, h1.str_inv]
    split at p
    · rename_i hz
      exact ⟨_, s.length, rfl, ⟨sz_le hz, rfl⟩, post_ok p e rp_int⟩
    · exact False.elim p
  · exact False.elim p
/-- the ints of a list of data -/
def dInts : List D → Option (List Int)
  | [] => some []
  | .int i :: ds => (dInts ds).map (i :: ·)
  | _ => none
theorem dInts_rps {F : Hp} : ∀ {ds : List D} {vs : List V} {ns : List Int}, Rps K cl F vs ds → dInts ds = some ns → vs = ns.map V.int
  | [], vs, ns, h, e => by cases e; exact h.nil_inv
  | d :: ds, vs, ns, h, e => by
    obtain ⟨v, r, rfl, h1, h2⟩ := h.cons_inv
    cases d <;> try cases e
    rename_i i
    unfold dInts at e
    cases q : dInts ds with
    | none => rw [q] at e; cases e
    | some ms =>
      rw [q] at e
      cases e
      rw [dInts_rps h2 q, h1.int_inv]
      rfl
def bSum : Bool × List D → R D := fun x => if x.1 = true then match dInts x.2 with
  | some ns => .ok (.int ns.sum)
  | none => .st
  else .st
theorem ca_sum : CaL K cl (rSum K) bSum := by
  intro W σ F H a vs b ds Q e s r p
  unfold bSum at p
  split at p
  · rename_i hb
    have hb : b = true := hb
    subst hb
    split at p
    · rename_i ns hn
      have ev := dInts_rps r hn
      subst ev
      exact ⟨a, ns, rfl, s, post_ok p e rp_int⟩
    · exact False.elim p
  · exact False.elim p
/-- the greatest, the least of a list -/
def maxL : List Int → Int
  | [] => 0
  | n :: ns => ns.foldl (fun m x => if x > m then x else m) n
def minL : List Int → Int
  | [] => 0
  | n :: ns => ns.foldl (fun m x => if x < m then x else m) n
theorem foldl_max (ns : List Int) : ∀ n : Int, (∀ y ∈ n :: ns, y ≤ ns.foldl (fun m x => if x > m then x else m) n) ∧ ns.foldl (fun m x => if x > m then x else m) n ∈ n :: ns := by
  induction ns with
  | nil => intro n; exact ⟨fun y hy => by simp at hy; rw [hy]; exact Int.le_refl _, by simp⟩
  | cons a ns ih =>
    intro n
    have h := ih (if a > n then a else n)
    refine ⟨fun y hy => ?_, ?_⟩
    · have h0 : (if a > n then a else n) ≤ (a :: ns).foldl (fun m x => if x > m then x else m) n := h.1 _ (by simp)
      have : y = n ∨ y = a ∨ y ∈ ns := by simpa using hy
      rcases this with q | q | q
      · subst q; refine Int.le_trans ?_ h0; split <;> omega
      · subst q; refine Int.le_trans ?_ h0; split <;> omega
      · exact h.1 y (by simp [q])
    · have h2 : (a :: ns).foldl (fun m x => if x > m then x else m) n ∈ (if a > n then a else n) :: ns := h.2
      have : (a :: ns).foldl (fun m x => if x > m then x else m) n = (if a > n then a else n) ∨ (a :: ns).foldl (fun m x => if x > m then x else m) n ∈ ns := by simpa using h2
      rcases this with q | q
      · rw [q]; split <;> simp
      · exact List.mem_cons_of_mem _ (List.mem_cons_of_mem _ q)
theorem foldl_min (ns : List Int) : ∀ n : Int, (∀ y ∈ n :: ns, ns.foldl (fun m x => if x < m then x else m) n ≤ y) ∧ ns.foldl (fun m x => if x < m then x else m) n ∈ n :: ns := by
  induction ns with
  | nil => intro n; exact ⟨fun y hy => by simp at hy; rw [hy]; exact Int.le_refl _, by simp⟩
  | cons a ns ih =>
    intro n
    have h := ih (if a < n then a else n)
    refine ⟨fun y hy => ?_, ?_⟩
    · have h0 : (a :: ns).foldl (fun m x => if x < m then x else m) n ≤ (if a < n then a else n) := h.1 _ (by simp)
      have : y = n ∨ y = a ∨ y ∈ ns := by simpa using hy
      rcases this with q | q | q
      · subst q; refine Int.le_trans h0 ?_; split <;> omega
      · subst q; refine Int.le_trans h0 ?_; split <;> omega
      · exact h.1 y (by simp [q])
    · have h2 : (a :: ns).foldl (fun m x => if x < m then x else m) n ∈ (if a < n then a else n) :: ns := h.2
      have : (a :: ns).foldl (fun m x => if x < m then x else m) n = (if a < n then a else n) ∨ (a :: ns).foldl (fun m x => if x < m then x else m) n ∈ ns := by simpa using h2
      rcases this with q | q
      · rw [q]; split <;> simp
      · exact List.mem_cons_of_mem _ (List.mem_cons_of_mem _ q)
theorem maxL_is {ns : List Int} {m : Int} (h0 : 0 < ns.length) (h1 : m ∈ ns) (h2 : ∀ y, y ∈ ns → y ≤ m) : m = maxL ns := by
  cases ns with
  | nil => cases h0
  | cons n ns =>
    have h := foldl_max ns n
    exact Int.le_antisymm (h.1 _ h1) (h2 _ h.2)
theorem minL_is {ns : List Int} {m : Int} (h0 : 0 < ns.length) (h1 : m ∈ ns) (h2 : ∀ y, y ∈ ns → m ≤ y) : m = minL ns := by
  cases ns with
  | nil => cases h0
  | cons n ns =>
    have h := foldl_min ns n
    exact Int.le_antisymm (h2 _ h.2) (h.1 _ h1)
def bMax : Bool × List D → R D := fun x => if x.1 = true then match dInts x.2 with
  | some ns => if 0 < ns.length then .ok (.int (maxL ns)) else .st
  | none => .st
  else .st
theorem ca_max : CaL K cl (rMax K) bMax := by
  intro W σ F H a vs b ds Q e s r p
  unfold bMax at p
  split at p
  · rename_i hb
    have hb : b = true := hb
    subst hb
    split at p
    · rename_i ns hn
      have ev := dInts_rps r hn
      subst ev
      split at p
      · rename_i h0
        refine ⟨a, ns, rfl, s, h0, fun m h1 h2 => ?_⟩
        rw [maxL_is h0 h1 h2]
        exact post_ok p e rp_int
      · exact False.elim p
    · exact False.elim p
  · exact False.elim p
def bMin : Bool × List D → R D := fun x => if x.1 = true then match dInts x.2 with
  | some ns => if 0 < ns.length then .ok (.int (minL ns)) else .st
  | none => .st
  else .st
theorem ca_min : CaL K cl (rMin K) bMin := by
  intro W σ F H a vs b ds Q e s r p
  unfold bMin at p
  split at p
  · rename_i hb
    have hb : b = true := hb
    subst hb
    split at p
    · rename_i ns hn
      have ev := dInts_rps r hn
      subst ev
      split at p
      · rename_i h0
        refine ⟨a, ns, rfl, s, h0, fun m h1 h2 => ?_⟩
        rw [minL_is h0 h1 h2]
        exact post_ok p e rp_int
      · exact False.elim p
    · exact False.elim p
  · exact False.elim p
def bListL : Bool × List D → R DO := fun x => .ok (.lst x.2)
theorem ca_listL : CaN K cl (fun xs H Q => ∃ p ys, xs = [.ref p] ∧ (SqL K H p ys ∨ SqT K H p ys) ∧ ∀ l, H l = none → Q (.ref l) (upd H l (.lst ys))) bListL := by
  intro W σ F H a vs b ds Q e s r p
  exact ⟨a, vs, rfl, s.or, fun l hl => p l (.lst vs) F _ (Grow.lay' e hl) hl (Grow.fnone e hl) upd_same ⟨vs, rfl, r⟩⟩
def bTupL : Bool × List D → R D := fun x => if x.1 = true then .ok (.tup x.2) else .st
theorem ca_tupL : CaL K cl (fun xs H Q => ∃ p ys, xs = [.ref p] ∧ ((SqL K H p ys ∧ ∀ l, H l = none → Q (.ref l) (upd H l (.tup ys))) ∨ (SqT K H p ys ∧ Q (.ref p) H))) bTupL := by
  intro W σ F H a vs b ds Q e s r p
  cases b with
  | true =>
    refine ⟨a, vs, rfl, .inl ⟨s, fun l hl => ?_⟩⟩
    have g2 := Grow.lay (o := .tup vs) e hl
    refine p _ _ _ g2 ?_
    unfold Rp
    exact ⟨l, vs, rfl, upd_same, r.mono g2.f⟩
  | false => exact False.elim p
end
end UP
namespace UP
open PySem L2 PyProof.Rows
section
variable {X : Cx} {cl : Str → Option Addr} {W : WX} {K : PySem.W.Frag} {σ : L2.St} {F H F' H' : Hp}

/-! ### one or two readings, then an operation on values -/
theorem es_op' {A B : Type} {C : Type} (PA : L2.St → Hp → Hp → R A → Prop) : True := trivial

/-! ### an item -/
def dIx : Bool × List D → D → R D
  | (_, xs), .int i => match atI xs i with
    | some d => .ok d
    | none => .st
  | _, _ => .st
theorem atI_rps {vs : List V} {ds : List D} {i : Int} {d : D} (r : Rps K cl F vs ds) (h : atI ds i = some d) : ∃ v, atI vs i = some v ∧ Rp K cl F v d := by
  unfold atI at h ⊢
  rw [r.length]
  cases q : ixN ds.length i with
  | none => rw [q] at h; cases h
  | some j =>
    rw [q] at h
    exact r.get (show ds[j]? = some d from h)
theorem ue_ix {a b : Expr} {ta tb : TE} {ml : En → R (Bool × List D)} {mb : En → R D} {pos : Pos} (ha : UL X cl W a ta ml) (hb : UE X cl W b tb mb) (hs : PlainIx b := by exact fun _ _ => rfl) :
    UE X cl W (.Subscript a b pos) (tOp (fun x y H Q => rIxL X.K x y H Q ∨ rIxT X.K x y H Q) ta tb) (d2 dIx ml mb) := by
  refine ⟨pe_ix (ix_list.or ix_tup) ha.pe hb.pe hs, fun F0 H0 F H σ ρ Q S p => ?_⟩
  unfold d2 at p
  refine ha.es F0 H0 F H σ ρ _ S ?_
  cases e : ml ρ with
  | st => rw [e] at p; exact p
  | er x => rw [e] at p; exact p
  | ok q =>
    obtain ⟨bb, ds⟩ := q
    rw [e, R.bind_ok] at p
    intro a vs F1 H1 g1 s1 r1
    refine hb.es F0 H0 F1 H1 σ ρ _ (S.mono g1) ?_
    cases e2 : mb ρ with
    | st => rw [e2] at p; exact p
    | er x => rw [e2] at p; exact fun c d F2 H2 g2 q => p c d F2 H2 (g1.trans g2) q
    | ok dy =>
      rw [e2, R.bind_ok] at p
      intro y F2 H2 g2 r2
      cases dy <;> try exact p.elim
      rename_i i
      have p' : Post X.K cl W σ F H Q (match atI ds i with | some d => .ok d | none => .st) := p
      cases e3 : atI ds i with
      | none => rw [e3] at p'; exact p'.elim
      | some d =>
        rw [e3] at p'
        obtain ⟨v, h1, h2⟩ := atI_rps (r1.mono g2.f) e3
        rw [r2.int_inv]
        have fin := p' v F2 H2 (g1.trans g2) h2
        have s2 := s1.mono g2.h
        cases bb with
        | true => exact .inl ⟨a, vs, i, v, rfl, rfl, s2, h1, fin⟩
        | false => exact .inr ⟨a, vs, i, v, rfl, rfl, s2, h1, fin⟩
/-- of a text -/
def dIxS : D → D → R D
  | .str z, .int i => if z.length ≤ SZ then match atI z.cps.toList i with
    | some c => .ok (.str ⟨#[c]⟩)
    | none => .st
    else .st
  | _, _ => .st
theorem op2_ixS : Op2 K cl rIxS dIxS := by
  intro W σ F H x y dx dy Q e rx ry p
  unfold dIxS at p
  split at p
  · rename_i z i
    split at p
    · rename_i hz
      split at p
      · rename_i c hc
        exact ⟨z, i, c, rx.str_inv, ry.int_inv, sz_le hz, hc, post_ok p e rp_str⟩
      · exact False.elim p
    · exact False.elim p
  · exact False.elim p
theorem ue_ixS {a b : Expr} {ta tb : TE} {ma mb : En → R D} {pos : Pos} (ha : UE X cl W a ta ma) (hb : UE X cl W b tb mb) (hs : PlainIx b := by exact fun _ _ => rfl) :
    UE X cl W (.Subscript a b pos) (tOp rIxS ta tb) (d2 dIxS ma mb) := ⟨pe_ix ix_str ha.pe hb.pe hs, es_op ha.es hb.es op2_ixS⟩

/-! ### slices -/
def PostO (K : PySem.W.Frag) (cl : Str → Option Addr) (W : WX) (σ : L2.St) (F H : Hp) (Q : Option Int → Hp → Prop) : R (Option Int) → Prop
  | .ok b => ∀ F' H', Grow F H F' H' → Q b H'
  | .er x => ∀ cls dd F' H', Grow F H F' H' → ExR K cl F' x cls dd → W cls dd σ H'
  | .st => False
structure UO (X : Cx) (cl : Str → Option Addr) (W : WX) (e : Option Expr) (t : TO) (me : En → R (Option Int)) : Prop where
  pe : PO X e t
  es : ∀ F0 H0 F H σ ρ Q, Sr X.K cl F0 H0 F H σ ρ → PostO X.K cl W σ F H Q (me ρ) → t σ H Q
def dNoPart : En → R (Option Int) := fun _ => .ok none
theorem uo_none : UO X cl W none tNoPart dNoPart := ⟨po_none, fun F0 H0 F H σ ρ Q S p => p F H (Grow.refl S.ex)⟩
def dInt : D → R (Option Int)
  | .int i => .ok (some i)
  | _ => .st
theorem uo_some {e : Expr} {te : TE} {me : En → R D} (h : UE X cl W e te me) : UO X cl W (some e) (tPart te) (d1 dInt me) := by
  refine ⟨po_some h.pe, fun F0 H0 F H σ ρ Q S p => h.es F0 H0 F H σ ρ _ S ?_⟩
  unfold d1 at p
  cases e : me ρ with
  | st => rw [e] at p; exact p
  | er x => rw [e] at p; exact p
  | ok d =>
    rw [e, R.bind_ok] at p
    intro v F1 H1 g r
    cases d <;> try exact p.elim
    rename_i i
    exact ⟨i, r.int_inv, p F1 H1 g⟩
def cutD (xs : List D) (lo hi : Option Int) : List D := (xs.drop (HT.sIx xs.length 0 lo)).take (HT.sIx xs.length xs.length hi - HT.sIx xs.length 0 lo)
theorem cut_rps {vs : List V} {ds : List D} (r : Rps K cl F vs ds) (lo hi : Option Int) : Rps K cl F (cutV vs lo hi) (cutD ds lo hi) := by
  unfold cutV cutD
  rw [r.length]
  exact (r.drop _).take _
def dSl (ml : En → R (Bool × List D)) (mo mh : En → R (Option Int)) : En → R DO := fun ρ => (ml ρ).bind fun x => (mo ρ).bind fun l => (mh ρ).bind fun h => if x.1 = true then .ok (.lst (cutD x.2 l h)) else .st
theorem un_slice {a : Expr} {ta : TE} {ml : En → R (Bool × List D)} {lo hi : Option Expr} {tl th : TO} {mo mh : En → R (Option Int)} {p2 pos : Pos} (ha : UL X cl W a ta ml) (hl : UO X cl W lo tl mo) (hh : UO X cl W hi th mh) :
    UN X cl W (.Subscript a (.Slice lo hi none p2) pos) (tSl (rSlL X.K) ta tl th) (dSl ml mo mh) := by
  refine ⟨pe_slice sl_list ha.pe hl.pe hh.pe, fun F0 H0 F H σ ρ Q S p => ?_⟩
  unfold dSl at p
  refine ha.es F0 H0 F H σ ρ _ S ?_
  cases e : ml ρ with
  | st => rw [e] at p; exact p
  | er x => rw [e] at p; exact p
  | ok q =>
    obtain ⟨bb, ds⟩ := q
    rw [e, R.bind_ok] at p
    intro a vs F1 H1 g1 s1 r1
    refine hl.es F0 H0 F1 H1 σ ρ _ (S.mono g1) ?_
    cases e2 : mo ρ with
    | st => rw [e2] at p; exact p
    | er x => rw [e2] at p; exact fun c d F2 H2 g2 q => p c d F2 H2 (g1.trans g2) q
    | ok l =>
      rw [e2, R.bind_ok] at p
      intro F2 H2 g2
      refine hh.es F0 H0 F2 H2 σ ρ _ ((S.mono g1).mono g2) ?_
      cases e3 : mh ρ with
      | st => rw [e3] at p; exact p
      | er x => rw [e3] at p; exact fun c d F3 H3 g3 q => p c d F3 H3 ((g1.trans g2).trans g3) q
      | ok h =>
        rw [e3, R.bind_ok] at p
        intro F3 H3 g3
        cases bb with
        | false => exact p.elim
        | true =>
          have p' : PostN X.K cl W σ F H Q (.ok (.lst (cutD ds l h))) := p
          refine ⟨a, vs, rfl, (s1.mono g2.h).mono g3.h, fun q hq => ?_⟩
          have g4 := (g1.trans g2).trans g3
          exact p' q _ F3 _ (g4.trans (Grow.lay' g3.s hq)) (g4.old q hq) (Grow.fnone g3.s hq) upd_same ⟨_, rfl, ((cut_rps r1 l h).mono g2.f).mono g3.f⟩
def dSlS (ma : En → R D) (mo mh : En → R (Option Int)) : En → R D := fun ρ => (ma ρ).bind fun x => (mo ρ).bind fun l => (mh ρ).bind fun h => match x with
  | .str z => if z.length ≤ SZ then .ok (.str (cutS z l h)) else .st
  | _ => .st
theorem ue_sliceS {a : Expr} {ta : TE} {ma : En → R D} {lo hi : Option Expr} {tl th : TO} {mo mh : En → R (Option Int)} {p2 pos : Pos} (ha : UE X cl W a ta ma) (hl : UO X cl W lo tl mo) (hh : UO X cl W hi th mh) :
    UE X cl W (.Subscript a (.Slice lo hi none p2) pos) (tSl rSlS ta tl th) (dSlS ma mo mh) := by
  refine ⟨pe_slice sl_str ha.pe hl.pe hh.pe, fun F0 H0 F H σ ρ Q S p => ?_⟩
  unfold dSlS at p
  refine ha.es F0 H0 F H σ ρ _ S ?_
  cases e : ma ρ with
  | st => rw [e] at p; exact p
  | er x => rw [e] at p; exact p
  | ok dx =>
    rw [e, R.bind_ok] at p
    intro v F1 H1 g1 r1
    refine hl.es F0 H0 F1 H1 σ ρ _ (S.mono g1) ?_
    cases e2 : mo ρ with
    | st => rw [e2] at p; exact p
    | er x => rw [e2] at p; exact fun c d F2 H2 g2 q => p c d F2 H2 (g1.trans g2) q
    | ok l =>
      rw [e2, R.bind_ok] at p
      intro F2 H2 g2
      refine hh.es F0 H0 F2 H2 σ ρ _ ((S.mono g1).mono g2) ?_
      cases e3 : mh ρ with
      | st => rw [e3] at p; exact p
      | er x => rw [e3] at p; exact fun c d F3 H3 g3 q => p c d F3 H3 ((g1.trans g2).trans g3) q
      | ok h =>
        rw [e3, R.bind_ok] at p
        intro F3 H3 g3
        cases dx <;> try exact p.elim
        rename_i z
        have p' : Post X.K cl W σ F H Q (if z.length ≤ SZ then .ok (.str (cutS z l h)) else .st) := p
        by_cases hz : z.length ≤ SZ
        · rw [if_pos hz] at p'
          exact ⟨z, r1.str_inv, sz_le hz, p' _ F3 H3 ((g1.trans g2).trans g3) rp_str⟩
        · rw [if_neg hz] at p'; exact p'.elim

/-! ### + of ints, texts; of lists -/
def dAdd : D → D → R D
  | .int i, .int j => .ok (.int (i + j))
  | .str i, .str j => if i.length + j.length ≤ SZ then .ok (.str (i ++ j)) else .st
  | .lst xs, .lst ys => if xs.length + ys.length ≤ SZ then .ok (.lst (xs ++ ys)) else .st
  | .tup xs, .tup ys => if 0 < xs.length ∧ xs.length + ys.length ≤ SZ then .ok (.tup (xs ++ ys)) else .st
  | _, _ => .st
def rAddS : R2 := fun x y H Q => ∃ i j, x = .str i ∧ y = .str j ∧ i.length + j.length ≤ sizeLine ∧ Q (.str (i ++ j)) H
def rCatL (K : PySem.W.Frag) : R2 := fun x y H Q => ∃ l b xs zs, x = .ref l ∧ y = .ref b ∧ SqL K H l xs ∧ SqL K H b zs ∧ xs.length + zs.length ≤ sizeLine ∧ ∀ p, H p = none → Q (.ref p) (upd H p (.lst (xs ++ zs)))
theorem op_catL : OpR X (binaryOp .Add) (rCatL X.K) := by
  intro pins s σ H x y v u Q I rx ry h
  obtain ⟨l, b, xs, zs, rfl, rfl, hH, hB, hz, q⟩ := h
  cases rx
  cases ry
  obtain ⟨its, r, p1, hl⟩ := I.list hH
  obtain ⟨its2, r2, p2, hl2⟩ := I.list hB
  obtain ⟨⟨cls, dd, data, sl⟩, n, ho, hc, hdn, hd⟩ := p1
  obtain ⟨⟨cls2, dd2, data2, sl2⟩, n2, ho2, hc2, hdn2, hd2⟩ := p2
  simp only at hc hd hc2 hd2
  subst hc hd hc2 hd2
  have e : its.toArray ++ its2.toArray = (its ++ its2).toArray := by simp
  have z1 := r.length
  have z2 := r2.length
  refine concat_meets ⟨_, ho, rfl⟩ ⟨_, ho2, rfl⟩ noFill_list_add seq_list_add PySem.F.slot_list_add PySem.F.entry_list_add (PySem.F.args_list_add_2 _ _) (list_addW l b its.toArray its2.toArray n n2 dd dd2 sl sl2 (by simp; omega)) ⟨ho, ho2, ?_⟩
  rw [e]
  exact ⟨.ref _, _, I.lnew (t' := s.toks) (r.append r2) (by rw [List.length_append]; omega), rfl, q _ I.fresh⟩
theorem op2_add : Op2 K cl (fun x y H Q => rI0 (fun i j => .int (i + j)) x y H Q ∨ (rAddS x y H Q ∨ (rCatL K x y H Q ∨ rCatT K x y H Q))) dAdd := by
  intro W σ F H x y dx dy Q e rx ry p
  unfold dAdd at p
  split at p
  · exact .inl ⟨_, _, rx.int_inv, ry.int_inv, post_ok p e rp_int⟩
  · rename_i i j
    split at p
    · rename_i hz
      exact .inr (.inl ⟨i, j, rx.str_inv, ry.str_inv, sz_le hz, post_ok p e rp_str⟩)
    · exact False.elim p
  · rename_i xs ys
    split at p
    · rename_i hz
      unfold Rp at rx ry
      obtain ⟨a, vs, rfl, h1, h2⟩ := rx
      obtain ⟨b, us, rfl, h3, h4⟩ := ry
      refine .inr (.inr (.inl ⟨a, b, vs, us, rfl, rfl, ex_l e h1, ex_l e h3, by rw [h2.length, h4.length]; exact sz_le hz, fun q hq => ?_⟩))
      have g := Grow.lay (o := .lst (vs ++ us)) e hq
      refine p _ _ _ g ?_
      unfold Rp
      exact ⟨q, _, rfl, SqL.of upd_same, (h2.append h4).mono g.f⟩
    · exact False.elim p
  · rename_i xs ys
    split at p
    · rename_i hz
      unfold Rp at rx ry
      obtain ⟨a, vs, rfl, h1, h2⟩ := rx
      obtain ⟨b, us, rfl, h3, h4⟩ := ry
      have hne : vs ≠ [] := fun z => by
        have h5 := h2.length
        rw [z] at h5
        have := hz.1
        simp at h5; omega
      refine .inr (.inr (.inr ⟨a, b, vs, us, rfl, rfl, SqT.of (e _ _ h1), SqT.of (e _ _ h3), hne, by rw [h2.length, h4.length]; exact sz_le hz.2, fun hu => ?_, fun _ q hq => ?_⟩))
      · have hy : ys = [] := by
          have h5 := h4.length
          rw [hu] at h5
          exact List.length_eq_zero_iff.mp h5.symm
        rw [hy, List.append_nil] at p
        refine p _ F H (Grow.refl e) ?_
        unfold Rp
        exact ⟨a, vs, rfl, h1, h2⟩
      · have g := Grow.lay (o := .tup (vs ++ us)) e hq
        refine p _ _ _ g ?_
        unfold Rp
        exact ⟨q, _, rfl, upd_same, (h2.append h4).mono g.f⟩
    · exact False.elim p
  · exact False.elim p
theorem op_addA : OpR X (binaryOp .Add) (fun x y H Q => rI0 (fun i j => .int (i + j)) x y H Q ∨ (rAddS x y H Q ∨ (rCatL X.K x y H Q ∨ rCatT X.K x y H Q))) := OpR.or op_add (OpR.or op_add_str (OpR.or op_catL op_catT))
theorem ue_add {a b : Expr} {ta tb : TE} {ma mb : En → R D} {pos : Pos} (ha : UE X cl W a ta ma) (hb : UE X cl W b tb mb) :
    UE X cl W (.BinOp a .Add b pos) (tOp (fun x y H Q => rI0 (fun i j => .int (i + j)) x y H Q ∨ (rAddS x y H Q ∨ (rCatL X.K x y H Q ∨ rCatT X.K x y H Q))) ta tb) (d2 dAdd ma mb) := ue_op op_addA op2_add ha hb
def dCat : Bool × List D → Bool × List D → R DO := fun x y => if x.1 = true ∧ y.1 = true ∧ x.2.length + y.2.length ≤ SZ then .ok (.lst (x.2 ++ y.2)) else .st
theorem un_cat {a b : Expr} {ta tb : TE} {ma mb : En → R (Bool × List D)} {pos : Pos} (ha : UL X cl W a ta ma) (hb : UL X cl W b tb mb) : UN X cl W (.BinOp a .Add b pos) (tOp (rCatL X.K) ta tb) (d2 dCat ma mb) := by
  refine ⟨pe_op op_catL ha.pe hb.pe, fun F0 H0 F H σ ρ Q S p => ?_⟩
  unfold d2 at p
  refine ha.es F0 H0 F H σ ρ _ S ?_
  cases e : ma ρ with
  | st => rw [e] at p; exact p
  | er x => rw [e] at p; exact p
  | ok q =>
    obtain ⟨b1, ds⟩ := q
    rw [e, R.bind_ok] at p
    intro a vs F1 H1 g1 s1 r1
    refine hb.es F0 H0 F1 H1 σ ρ _ (S.mono g1) ?_
    cases e2 : mb ρ with
    | st => rw [e2] at p; exact p
    | er x => rw [e2] at p; exact fun c d F2 H2 g2 q => p c d F2 H2 (g1.trans g2) q
    | ok q =>
      obtain ⟨b2, es⟩ := q
      rw [e2, R.bind_ok] at p
      intro b us F2 H2 g2 s2 r2
      unfold dCat at p
      split at p
      · rename_i hc
        obtain ⟨q1, q2, q3⟩ := hc
        have q1 : b1 = true := q1
        have q2 : b2 = true := q2
        subst q1 q2
        refine ⟨a, b, vs, us, rfl, rfl, ex_l g2.h s1, s2, by rw [r1.length, r2.length]; exact sz_le q3, fun q hq => ?_⟩
        have g3 := g1.trans g2
        exact p q _ F2 _ (g3.trans (Grow.lay' g2.s hq)) (g3.old q hq) (Grow.fnone g2.s hq) upd_same ⟨_, rfl, (r1.mono g2.f).append r2⟩
      · exact p.elim
/-- a new list, repeated -/
def dRep : DO → D → R DO
  | .lst xs, .int k => if -(2 ^ 63) ≤ k ∧ k < 2 ^ 63 ∧ xs.length * k.toNat ≤ SZ then .ok (.lst (List.replicate k.toNat xs).flatten) else .st
  | _, _ => .st
theorem rep_rps {vs : List V} {ds : List D} (r : Rps K cl F vs ds) : ∀ k : Nat, Rps K cl F (List.replicate k vs).flatten (List.replicate k ds).flatten
  | 0 => Rps.nil
  | k + 1 => by
    rw [List.replicate_succ, List.replicate_succ, List.flatten_cons, List.flatten_cons]
    exact r.append (rep_rps r k)
theorem un_rep {a b : Expr} {ta tb : TE} {ma : En → R DO} {mb : En → R D} {pos : Pos} (ha : UN X cl W a ta ma) (hb : UE X cl W b tb mb) : UN X cl W (.BinOp a .Mult b pos) (tOp rRep ta tb) (d2 dRep ma mb) := by
  refine ⟨pe_op op_rep ha.pe hb.pe, fun F0 H0 F H σ ρ Q S p => ?_⟩
  unfold d2 at p
  refine ha.es F0 H0 F H σ ρ _ S ?_
  cases e : ma ρ with
  | st => rw [e] at p; exact p
  | er x => rw [e] at p; exact p
  | ok o =>
    rw [e, R.bind_ok] at p
    intro l ho F1 H1 g1 h0 h1 h2 hr
    refine hb.es F0 H0 F1 H1 σ ρ _ (S.mono g1) ?_
    cases e2 : mb ρ with
    | st => rw [e2] at p; exact p
    | er x => rw [e2] at p; exact fun c d F2 H2 g2 q => p c d F2 H2 (g1.trans g2) q
    | ok dy =>
      rw [e2, R.bind_ok] at p
      intro y F2 H2 g2 r2
      cases o <;> cases dy <;> try exact p.elim
      rename_i xs k
      have p' : PostN X.K cl W σ F H Q (if -(2 ^ 63) ≤ k ∧ k < 2 ^ 63 ∧ xs.length * k.toNat ≤ SZ then .ok (.lst (List.replicate k.toNat xs).flatten) else .st) := p
      by_cases hc : -(2 ^ 63) ≤ k ∧ k < 2 ^ 63 ∧ xs.length * k.toNat ≤ SZ
      · rw [if_pos hc] at p'
        obtain ⟨vs, rfl, hv⟩ := hr
        refine ⟨l, k, vs, rfl, r2.int_inv, g2.h _ _ h2, hc.1, hc.2.1, by rw [hv.length]; exact sz_le hc.2.2, fun q hq => ?_⟩
        have g3 := g1.trans g2
        exact p' q _ F2 _ (g3.trans (Grow.lay' g2.s hq)) (g3.old q hq) (Grow.fnone g2.s hq) upd_same ⟨_, rfl, (rep_rps hv _).mono g2.f⟩
      · rw [if_neg hc] at p'; exact p'.elim

/-! ### == -/
mutual
def toPy : D → Option PyData
  | .non => some .none
  | .bl b => some (.bool b)
  | .int i => some (.int i)
  | .str x => some (.str x)
  | .lst xs => (toPys xs).map .list
  | .tup xs => (toPys xs).map .tuple
  | .ty _ => none
  | .dk _ _ => none
  | .obj _ _ _ => none
  | .exc _ _ _ => none
def toPys : List D → Option (List PyData)
  | [] => some []
  | x :: xs => match toPy x, toPys xs with
    | some d, some ds => some (d :: ds)
    | _, _ => none
end
mutual
theorem dp_of {F H : Hp} (e : Ex F H) : ∀ {d : D} {v : V} {y : PyData}, Rp K cl F v d → toPy d = some y → Dp K H v y
  | .non, v, y, h, q => by unfold Rp at h; unfold toPy at q; subst h; cases q; exact .non
  | .bl b, v, y, h, q => by unfold Rp at h; unfold toPy at q; subst h; cases q; exact .bl b
  | .int b, v, y, h, q => by unfold Rp at h; unfold toPy at q; subst h; cases q; exact .int b
  | .str b, v, y, h, q => by unfold Rp at h; unfold toPy at q; subst h; cases q; exact .str b
  | .lst xs, v, y, h, q => by
    unfold Rp at h; unfold toPy at q
    obtain ⟨a, vs, rfl, h1, h2⟩ := h
    cases e3 : toPys xs with
    | none => rw [e3] at q; cases q
    | some ds => rw [e3] at q; cases q; exact .lst (ex_l e h1) (dp_ofs e h2 e3)
  | .tup xs, v, y, h, q => by
    unfold Rp at h; unfold toPy at q
    obtain ⟨a, vs, rfl, h1, h2⟩ := h
    cases e3 : toPys xs with
    | none => rw [e3] at q; cases q
    | some ds => rw [e3] at q; cases q; exact .tup (SqT.of (e _ _ h1)) (dp_ofs e h2 e3)
  | .ty _, v, y, h, q => by unfold toPy at q; cases q
  | .dk _ _, v, y, h, q => by unfold toPy at q; cases q
  | .obj _ _ _, v, y, h, q => by unfold toPy at q; cases q
  | .exc _ _ _, v, y, h, q => by unfold toPy at q; cases q
theorem dp_ofs {F H : Hp} (e : Ex F H) : ∀ {ds : List D} {vs : List V} {ys : List PyData}, Rps K cl F vs ds → toPys ds = some ys → DpAll K H vs ys
  | [], vs, ys, h, q => by rw [h.nil_inv]; unfold toPys at q; cases q; exact .nil
  | d :: ds, vs, ys, h, q => by
    obtain ⟨v, r, rfl, h1, h2⟩ := h.cons_inv
    unfold toPys at q
    split at q
    · rename_i y ys' e1 e2
      cases q
      exact .cons (dp_of e h1 e1) (dp_ofs e h2 e2)
    · cases q
end
def eqDeep (x y : D) : Option Bool := match toPy x, toPy y with
  | some d, some e => if SeqAt.shaped d = true ∧ SeqAt.shaped e = true then some (PyData.eqv d e) else none
  | _, _ => none
def eqD : D → D → Option Bool
  | .int i, .int j => some (decide (i = j))
  | .bl i, .bl j => some (decide (i = j))
  | .str i, .str j => some (decide (i = j))
  | .non, .non => some true
  | .non, .int _ => some false
  | .int _, .non => some false
  | x, y => eqDeep x y
def dEq (x y : D) : R D := match eqD x y with
  | some b => .ok (.bl b)
  | none => .st
def dNe (x y : D) : R D := match eqD x y with
  | some b => .ok (.bl (!b))
  | none => .st
theorem eqD_ok {x y : V} {dx dy : D} {b : Bool} (e : Ex F H) (rx : Rp K cl F x dx) (ry : Rp K cl F y dy) (h : eqD dx dy = some b) :
    (scal x y = true ∧ decide (x = y) = b) ∨ ∃ d f, Dp K H x d ∧ Dp K H y f ∧ SeqAt.shaped d = true ∧ SeqAt.shaped f = true ∧ PyData.eqv d f = b := by
  unfold eqD at h
  split at h
  · rw [rx.int_inv, ry.int_inv]; cases h
    exact .inl ⟨rfl, by rw [dec_int, Bool.beq_eq_decide_eq]⟩
  · rw [rx.bl_inv, ry.bl_inv]; cases h
    exact .inl ⟨rfl, by rw [dec_bl, Bool.beq_eq_decide_eq]⟩
  · rw [rx.str_inv, ry.str_inv]; cases h
    exact .inl ⟨rfl, by rw [dec_str, Bool.beq_eq_decide_eq]⟩
  · unfold Rp at rx ry; subst rx ry; cases h; exact .inl ⟨rfl, rfl⟩
  · unfold Rp at rx ry; subst rx ry; cases h; exact .inl ⟨rfl, by simp⟩
  · unfold Rp at rx ry; subst rx ry; cases h; exact .inl ⟨rfl, by simp⟩
  · unfold eqDeep at h
    split at h
    · rename_i d f e1 e2
      split at h
      · rename_i hs
        cases h
        exact .inr ⟨d, f, dp_of e rx e1, dp_of e ry e2, hs.1, hs.2, rfl⟩
      · cases h
    · cases h
theorem op2_eq : Op2 K cl (fun x y H Q => rEq x y H Q ∨ rEqD K x y H Q) dEq := by
  intro W σ F H x y dx dy Q e rx ry p
  unfold dEq at p
  split at p
  · rename_i b hb
    rcases eqD_ok e rx ry hb with ⟨h1, h2⟩ | ⟨d, f, h1, h2, h3, h4, h5⟩
    · exact .inl ⟨h1, by rw [h2]; exact post_ok p e rp_bl⟩
    · exact .inr ⟨d, f, h1, h2, h3, h4, by rw [h5]; exact post_ok p e rp_bl⟩
  · exact False.elim p
theorem op2_ne : Op2 K cl (fun x y H Q => rNe x y H Q ∨ rNeD K x y H Q) dNe := by
  intro W σ F H x y dx dy Q e rx ry p
  unfold dNe at p
  split at p
  · rename_i b hb
    rcases eqD_ok e rx ry hb with ⟨h1, h2⟩ | ⟨d, f, h1, h2, h3, h4, h5⟩
    · exact .inl ⟨h1, by rw [h2]; exact post_ok p e rp_bl⟩
    · exact .inr ⟨d, f, h1, h2, h3, h4, by rw [h5]; exact post_ok p e rp_bl⟩
  · exact False.elim p
theorem op_eqA (hu : X.A.units + 64 < cLine) : OpR X (compareOp .Eq) (fun x y H Q => rEq x y H Q ∨ rEqD X.K x y H Q) := OpR.or op_eq (op_eqD hu)
theorem op_neA (hu : X.A.units + 64 < cLine) : OpR X (compareOp .NotEq) (fun x y H Q => rNe x y H Q ∨ rNeD X.K x y H Q) := OpR.or op_ne (op_neD hu)
/-- is None, is True, is False: of None and of truths -/
def dIsN : D → D → R D
  | .non, .non => .ok (.bl true)
  | _, .non => .ok (.bl false)
  | _, _ => .st
theorem rp_ne_non {v : V} {d : D} (h : Rp K cl F v d) (hd : d ≠ .non) : v ≠ .non := by
  intro e; subst e
  cases d with
  | non => exact hd rfl
  | bl b => unfold Rp at h; cases h
  | int b => unfold Rp at h; cases h
  | str b => unfold Rp at h; cases h
  | ty b => unfold Rp at h; cases h
  | lst xs => unfold Rp at h; obtain ⟨_, _, h, _⟩ := h; cases h
  | tup xs => unfold Rp at h; obtain ⟨_, _, h, _⟩ := h; cases h
  | dk ks xs => unfold Rp at h; obtain ⟨_, _, h, _⟩ := h; cases h
  | obj c ns xs => unfold Rp at h; obtain ⟨_, _, _, _, h, _⟩ := h; cases h
  | exc q ns xs => unfold Rp at h; cases h.1
theorem op2_isN : Op2 K cl (fun x y H Q => y = .non ∧ Q (.bl (decide (x = .non))) H) dIsN := by
  intro W σ F H x y dx dy Q e rx ry p
  unfold dIsN at p
  split at p
  · unfold Rp at rx ry; subst rx ry
    exact ⟨rfl, post_ok p e rp_bl⟩
  · rename_i h
    unfold Rp at ry; subst ry
    have := rp_ne_non rx (fun q => h q)
    exact ⟨rfl, by rw [decide_eq_false this]; exact post_ok p e rp_bl⟩
  · exact False.elim p
def dNotN : D → D → R D
  | .non, .non => .ok (.bl false)
  | _, .non => .ok (.bl true)
  | _, _ => .st
theorem op2_notN : Op2 K cl (fun x y H Q => y = .non ∧ Q (.bl (!decide (x = .non))) H) dNotN := by
  intro W σ F H x y dx dy Q e rx ry p
  unfold dNotN at p
  split at p
  · unfold Rp at rx ry; subst rx ry
    exact ⟨rfl, post_ok p e rp_bl⟩
  · rename_i h
    unfold Rp at ry; subst ry
    have := rp_ne_non rx (fun q => h q)
    exact ⟨rfl, by rw [decide_eq_false this]; exact post_ok p e rp_bl⟩
  · exact False.elim p
end
end UP
namespace UP
open PySem L2 PyProof.Rows
section
variable {X : Cx} {cl : Str → Option Addr} {W : WX} {K : PySem.W.Frag} {σ : L2.St} {F H F' H' : Hp}

/-! ### tests -/
def dBl : D → R Bool
  | .bl b => .ok b
  | _ => .st
theorem es_tb {te : TE} {me : En → R D} (h : ∀ F0 H0 F H σ ρ Q, Sr K cl F0 H0 F H σ ρ → Post K cl W σ F H Q (me ρ) → te σ H Q) :
    ∀ F0 H0 F H σ ρ (Q : Bool → Hp → Prop), Sr K cl F0 H0 F H σ ρ → PostT K cl W σ F H Q (d1 dBl me ρ) → te σ H fun x H' => ∃ k, x = .bl k ∧ Q k H' := by
  intro F0 H0 F H σ ρ Q S p
  unfold d1 at p
  refine h F0 H0 F H σ ρ _ S ?_
  cases e : me ρ with
  | st => rw [e] at p; exact p
  | er x => rw [e] at p; exact p
  | ok d =>
    rw [e, R.bind_ok] at p
    intro v F1 H1 g r
    cases d <;> try exact p.elim
    exact ⟨_, r.bl_inv, p F1 H1 g⟩
theorem ut_val {e : Expr} {te : TE} {me : En → R D} (h : UE X cl W e te me) (he : ∀ whole, isTrue e X.env whole = (do let v ← whole; standAt e.pos; holding [v] (truthy v)) := by intro _; rfl) : UT X cl W e (tB te) (d1 dBl me) :=
  ⟨pt_val h.pe he, es_tb h.es⟩
theorem ut_cmp {a b : Expr} {ta tb : TE} {ma mb : En → R D} {op : CmpOp} {r : R2} {f : D → D → R D} {pos : Pos} (ho : OpR X (compareOp op) r) (hf : Op2 X.K cl r f) (ha : UE X cl W a ta ma) (hb : UE X cl W b tb mb) (hm : behindInMarks op b = false) :
    UT X cl W (.Compare a [op] [b] pos) (tTest (tOp r ta tb)) (d1 dBl (d2 f ma mb)) := ⟨pt_cmpR ho ha.pe hb.pe hm, es_tb (es_op ha.es hb.es hf)⟩
def dAnd (a b : En → R Bool) : En → R Bool := fun ρ => (a ρ).bind fun c => if c = true then b ρ else .ok false
def dOr (a b : En → R Bool) : En → R Bool := fun ρ => (a ρ).bind fun c => if c = true then .ok true else b ρ
def dNot (a : En → R Bool) : En → R Bool := fun ρ => (a ρ).bind fun c => .ok (!c)
theorem UW.t {e : Expr} {t : TT} {m : En → R Bool} (h : UW X cl W e t m) : UT X cl W e t m := ⟨h.pe.pt, h.es⟩
theorem uw_and1 {a : Expr} {t : TT} {m : En → R Bool} {pos} (h : UT X cl W a t m) : UW X cl W (.BoolOp .And [a] pos) t m := ⟨pw_and1 h.pe, h.es⟩
theorem uw_or1 {a : Expr} {t : TT} {m : En → R Bool} {pos} (h : UT X cl W a t m) : UW X cl W (.BoolOp .Or [a] pos) t m := ⟨pw_or1 h.pe, h.es⟩
theorem uw_and {a b : Expr} {rest : List Expr} {t u : TT} {m n : En → R Bool} {pos} (h : UT X cl W a t m) (h2 : UW X cl W (.BoolOp .And (b :: rest) pos) u n) : UW X cl W (.BoolOp .And (a :: b :: rest) pos) (tAnd t u) (dAnd m n) := by
  refine ⟨pw_and h.pe h2.pe, fun F0 H0 F H σ ρ Q S p => ?_⟩
  unfold dAnd at p
  refine h.es F0 H0 F H σ ρ _ S ?_
  cases e : m ρ with
  | st => rw [e] at p; exact p
  | er x => rw [e] at p; exact p
  | ok c =>
    rw [e, R.bind_ok] at p
    intro F1 H1 g
    cases c with
    | true => exact h2.es F0 H0 F1 H1 σ ρ _ (S.mono g) (PostT.grow p g)
    | false => exact PostT.grow (r := .ok false) p g F1 H1 (Grow.refl g.s)
theorem uw_or {a b : Expr} {rest : List Expr} {t u : TT} {m n : En → R Bool} {pos} (h : UT X cl W a t m) (h2 : UW X cl W (.BoolOp .Or (b :: rest) pos) u n) : UW X cl W (.BoolOp .Or (a :: b :: rest) pos) (tOr t u) (dOr m n) := by
  refine ⟨pw_or h.pe h2.pe, fun F0 H0 F H σ ρ Q S p => ?_⟩
  unfold dOr at p
  refine h.es F0 H0 F H σ ρ _ S ?_
  cases e : m ρ with
  | st => rw [e] at p; exact p
  | er x => rw [e] at p; exact p
  | ok c =>
    rw [e, R.bind_ok] at p
    intro F1 H1 g
    cases c with
    | false => exact h2.es F0 H0 F1 H1 σ ρ _ (S.mono g) (PostT.grow p g)
    | true => exact PostT.grow (r := .ok true) p g F1 H1 (Grow.refl g.s)
theorem ut_not {a : Expr} {t : TT} {m : En → R Bool} {pos} (h : UT X cl W a t m) : UT X cl W (.UnaryOp .Not a pos) (tNot t) (dNot m) := by
  refine ⟨pt_not h.pe, fun F0 H0 F H σ ρ Q S p => h.es F0 H0 F H σ ρ _ S ?_⟩
  unfold dNot at p
  cases e : m ρ with
  | st => rw [e] at p; exact p
  | er x => rw [e] at p; exact p
  | ok c => rw [e, R.bind_ok] at p; exact fun F1 H1 g => p F1 H1 g
/-- as values -/
def dAndV (a b : En → R D) : En → R D := fun ρ => (a ρ).bind fun x => (dBl x).bind fun c => if c = true then b ρ else .ok (.bl false)
def dOrV (a b : En → R D) : En → R D := fun ρ => (a ρ).bind fun x => (dBl x).bind fun c => if c = true then .ok (.bl true) else b ρ
def dNotV (a : En → R D) : En → R D := fun ρ => (a ρ).bind fun x => (dBl x).bind fun c => .ok (.bl (!c))
theorem ue_one {op} {a : Expr} {t : TE} {m : En → R D} {pos} (h : UE X cl W a t m) : UE X cl W (.BoolOp op [a] pos) t m := ⟨pe_one h.pe, h.es⟩
theorem ue_and {a b : Expr} {rest : List Expr} {t u : TE} {m n : En → R D} {pos} (h : UE X cl W a t m) (h2 : UE X cl W (.BoolOp .And (b :: rest) pos) u n) : UE X cl W (.BoolOp .And (a :: b :: rest) pos) (tAndV t u) (dAndV m n) := by
  refine ⟨pe_and h.pe h2.pe, fun F0 H0 F H σ ρ Q S p => ?_⟩
  unfold dAndV at p
  refine h.es F0 H0 F H σ ρ _ S ?_
  cases e : m ρ with
  | st => rw [e] at p; exact p
  | er x => rw [e] at p; exact p
  | ok d =>
    rw [e, R.bind_ok] at p
    intro v F1 H1 g r
    cases d <;> try exact p.elim
    rename_i c
    refine ⟨c, r.bl_inv, ?_⟩
    cases c with
    | true => exact h2.es F0 H0 F1 H1 σ ρ _ (S.mono g) (Post.grow p g)
    | false => exact post_ok (Post.grow (r := .ok (.bl false)) p g) g.s rp_bl
theorem ue_or {a b : Expr} {rest : List Expr} {t u : TE} {m n : En → R D} {pos} (h : UE X cl W a t m) (h2 : UE X cl W (.BoolOp .Or (b :: rest) pos) u n) : UE X cl W (.BoolOp .Or (a :: b :: rest) pos) (tOrV t u) (dOrV m n) := by
  refine ⟨pe_or h.pe h2.pe, fun F0 H0 F H σ ρ Q S p => ?_⟩
  unfold dOrV at p
  refine h.es F0 H0 F H σ ρ _ S ?_
  cases e : m ρ with
  | st => rw [e] at p; exact p
  | er x => rw [e] at p; exact p
  | ok d =>
    rw [e, R.bind_ok] at p
    intro v F1 H1 g r
    cases d <;> try exact p.elim
    rename_i c
    refine ⟨c, r.bl_inv, ?_⟩
    cases c with
    | false => exact h2.es F0 H0 F1 H1 σ ρ _ (S.mono g) (Post.grow p g)
    | true => exact post_ok (Post.grow (r := .ok (.bl true)) p g) g.s rp_bl
theorem ue_not {a : Expr} {t : TE} {m : En → R D} {pos} (h : UE X cl W a t m) : UE X cl W (.UnaryOp .Not a pos) (tNotV t) (dNotV m) := by
  refine ⟨pe_not h.pe, fun F0 H0 F H σ ρ Q S p => h.es F0 H0 F H σ ρ _ S ?_⟩
  unfold dNotV at p
  cases e : m ρ with
  | st => rw [e] at p; exact p
  | er x => rw [e] at p; exact p
  | ok d =>
    rw [e, R.bind_ok] at p
    intro v F1 H1 g r
    cases d <;> try exact p.elim
    rename_i c
    exact ⟨c, r.bl_inv, p (.bl !c) F1 H1 g rp_bl⟩
def dIfE (c : En → R Bool) (a b : En → R D) : En → R D := fun ρ => (c ρ).bind fun k => if k = true then a ρ else b ρ
theorem ue_if {c a b : Expr} {tc : TT} {ta tb : TE} {mc : En → R Bool} {ma mb : En → R D} {pos} (hc : UT X cl W c tc mc) (ha : UE X cl W a ta ma) (hb : UE X cl W b tb mb) : UE X cl W (.IfExp c a b pos) (tIf tc ta tb) (dIfE mc ma mb) := by
  refine ⟨pe_ifExp hc.pe ha.pe hb.pe, fun F0 H0 F H σ ρ Q S p => hc.es F0 H0 F H σ ρ _ S ?_⟩
  unfold dIfE at p
  cases e : mc ρ with
  | st => rw [e] at p; exact p
  | er x => rw [e] at p; exact p
  | ok k =>
    rw [e, R.bind_ok] at p
    intro F1 H1 g
    cases k with
    | true => exact ha.es F0 H0 F1 H1 σ ρ _ (S.mono g) (Post.grow p g)
    | false => exact hb.es F0 H0 F1 H1 σ ρ _ (S.mono g) (Post.grow p g)
/-- minus -/
def dNeg : D → R D
  | .int i => .ok (.int (-i))
  | _ => .st
theorem ue_neg {a : Expr} {t : TE} {m : En → R D} {pos} (h : UE X cl W a t m) : UE X cl W (.UnaryOp .USub a pos) (tUn (rU fun i => .int (-i)) t) (d1 dNeg m) := by
  refine ⟨pe_un un_neg h.pe, fun F0 H0 F H σ ρ Q S p => h.es F0 H0 F H σ ρ _ S ?_⟩
  unfold d1 at p
  cases e : m ρ with
  | st => rw [e] at p; exact p
  | er x => rw [e] at p; exact p
  | ok d =>
    rw [e, R.bind_ok] at p
    intro v F1 H1 g r
    cases d <;> try exact p.elim
    rename_i c
    exact ⟨c, r.int_inv, p _ F1 H1 g rp_int⟩

/-! ### in -/
def flatD : D → Bool
  | .non => true
  | .bl _ => true
  | .int _ => true
  | .str _ => true
  | _ => false
def eqF : D → D → Bool
  | .non, .non => true
  | .bl a, .bl b => a == b
  | .bl a, .int b => (if a then 1 else 0) == b
  | .int a, .bl b => a == (if b then 1 else 0)
  | .int a, .int b => a == b
  | .str a, .str b => a == b
  | _, _ => false
def inF (x : D) (xs : List D) : Bool := xs.any fun y => eqF y x
theorem rp_flat {v : V} {d : D} (r : Rp K cl F v d) (h : flatD d = true) : flatV v = true := by
  cases d <;> first | (unfold Rp at r; subst r; rfl) | cases h
theorem rp_eqF {u v : V} {c d : D} (r : Rp K cl F u c) (q : Rp K cl F v d) (hc : flatD c = true) (hd : flatD d = true) : eqV u v = eqF c d := by
  cases c with
  | non => cases d <;> first | (unfold Rp at r q; subst r q; rfl) | exact absurd hd (by unfold flatD; exact Bool.false_ne_true)
  | bl x => cases d <;> first | (unfold Rp at r q; subst r q; rfl) | exact absurd hd (by unfold flatD; exact Bool.false_ne_true)
  | int x => cases d <;> first | (unfold Rp at r q; subst r q; rfl) | exact absurd hd (by unfold flatD; exact Bool.false_ne_true)
  | str x => cases d <;> first | (unfold Rp at r q; subst r q; rfl) | exact absurd hd (by unfold flatD; exact Bool.false_ne_true)
  | _ => exact absurd hc (by unfold flatD; exact Bool.false_ne_true)
theorem rps_flat : ∀ {vs : List V} {ds : List D}, Rps K cl F vs ds → ds.all flatD = true → vs.all flatV = true
  | _, [], r, _ => by rw [r.nil_inv]; rfl
  | _, d :: ds, r, h => by
    obtain ⟨v, r', rfl, h1, h2⟩ := r.cons_inv
    rw [List.all_cons, Bool.and_eq_true] at h ⊢
    exact ⟨rp_flat h1 h.1, rps_flat h2 h.2⟩
theorem rps_inF {v : V} {d : D} (q : Rp K cl F v d) (hd : flatD d = true) : ∀ {vs : List V} {ds : List D}, Rps K cl F vs ds → ds.all flatD = true → inV v vs = inF d ds
  | _, [], r, _ => by rw [r.nil_inv]; rfl
  | _, c :: ds, r, h => by
    obtain ⟨u, r', rfl, h1, h2⟩ := r.cons_inv
    rw [List.all_cons, Bool.and_eq_true] at h
    have := rps_inF q hd h2 h.2
    unfold inV inF at this ⊢
    rw [List.any_cons, List.any_cons, this, rp_eqF h1 q h.1 hd]
def dInB (x : D) (q : Bool × List D) : R Bool := if flatD x = true ∧ q.2.all flatD = true then .ok (inF x q.2) else .st
def dIn (x : D) (q : Bool × List D) : R D := (dInB x q).bind fun b => .ok (.bl b)
def dNotIn (x : D) (q : Bool × List D) : R D := (dInB x q).bind fun b => .ok (.bl (!b))
theorem es_in {neg : Bool} {ta tb : TE} {ma : En → R D} {mb : En → R (Bool × List D)} {g : D → Bool × List D → R D}
    (ha : ∀ F0 H0 F H σ ρ Q, Sr K cl F0 H0 F H σ ρ → Post K cl W σ F H Q (ma ρ) → ta σ H Q) (hb : ∀ F0 H0 F H σ ρ Q, Sr K cl F0 H0 F H σ ρ → PostL K cl W σ F H Q (mb ρ) → tb σ H Q)
    (hg : g = fun x q => (dInB x q).bind fun b => .ok (.bl (if neg then !b else b))) :
    ∀ F0 H0 F H σ ρ Q, Sr K cl F0 H0 F H σ ρ → Post K cl W σ F H Q (d2 g ma mb ρ) → tOp (rIn K neg) ta tb σ H Q := by
  intro F0 H0 F H σ ρ Q S p
  unfold d2 at p
  refine ha F0 H0 F H σ ρ _ S ?_
  cases e : ma ρ with
  | st => rw [e] at p; exact p
  | er x => rw [e] at p; exact p
  | ok dx =>
    rw [e, R.bind_ok] at p
    intro x F1 H1 g1 r1
    refine hb F0 H0 F1 H1 σ ρ _ (S.mono g1) ?_
    cases e2 : mb ρ with
    | st => rw [e2] at p; exact p
    | er x => rw [e2] at p; exact fun c d F2 H2 g2 q => p c d F2 H2 (g1.trans g2) q
    | ok q =>
      obtain ⟨bb, ds⟩ := q
      rw [e2, R.bind_ok] at p
      subst hg
      intro a vs F2 H2 g2 s2 r2
      have p : Post K cl W σ F H Q ((if flatD dx = true ∧ ds.all flatD = true then R.ok (inF dx ds) else R.st).bind fun b => R.ok (D.bl (if neg then !b else b))) := p
      by_cases hc : flatD dx = true ∧ ds.all flatD = true
      · have p' : Post K cl W σ F H Q (.ok (.bl (if neg then !(inF dx ds) else inF dx ds))) := by rw [if_pos hc] at p; exact p
        have r1' := r1.mono g2.f
        refine ⟨a, vs, rfl, s2.or, rp_flat r1' hc.1, rps_flat r2 hc.2, ?_⟩
        rw [rps_inF r1' hc.1 r2 hc.2]
        exact p' _ F2 H2 (g1.trans g2) rp_bl
      · rw [if_neg hc] at p; exact p.elim
theorem ue_in {a b : Expr} {ta tb : TE} {ma : En → R D} {mb : En → R (Bool × List D)} {pos : Pos} (ha : UE X cl W a ta ma) (hb : UL X cl W b tb mb) (hm : behindInMarks .In b = false := by rfl) :
    UE X cl W (.Compare a [.In] [b] pos) (tOp (rIn X.K false) ta tb) (d2 dIn ma mb) := ⟨pe_cmpR op_in_seq ha.pe hb.pe hm, es_in (neg := false) ha.es hb.es rfl⟩
theorem ue_notin {a b : Expr} {ta tb : TE} {ma : En → R D} {mb : En → R (Bool × List D)} {pos : Pos} (ha : UE X cl W a ta ma) (hb : UL X cl W b tb mb) (hm : behindInMarks .NotIn b = false := by rfl) :
    UE X cl W (.Compare a [.NotIn] [b] pos) (tOp (rIn X.K true) ta tb) (d2 dNotIn ma mb) := ⟨pe_cmpR op_notIn_seq ha.pe hb.pe hm, es_in (neg := true) ha.es hb.es rfl⟩
theorem ut_in {a b : Expr} {ta tb : TE} {ma : En → R D} {mb : En → R (Bool × List D)} {pos : Pos} (ha : UE X cl W a ta ma) (hb : UL X cl W b tb mb) (hm : behindInMarks .In b = false := by rfl) :
    UT X cl W (.Compare a [.In] [b] pos) (tTest (tOp (rIn X.K false) ta tb)) (d1 dBl (d2 dIn ma mb)) := ⟨pt_cmpR op_in_seq ha.pe hb.pe hm, es_tb (es_in (neg := false) ha.es hb.es rfl)⟩
theorem ut_notin {a b : Expr} {ta tb : TE} {ma : En → R D} {mb : En → R (Bool × List D)} {pos : Pos} (ha : UE X cl W a ta ma) (hb : UL X cl W b tb mb) (hm : behindInMarks .NotIn b = false := by rfl) :
    UT X cl W (.Compare a [.NotIn] [b] pos) (tTest (tOp (rIn X.K true) ta tb)) (d1 dBl (d2 dNotIn ma mb)) := ⟨pt_cmpR op_notIn_seq ha.pe hb.pe hm, es_tb (es_in (neg := true) ha.es hb.es rfl)⟩

/-! ### isinstance of a built-in class -/
def tyN : D → Option String
  | .non => some "NoneType"
  | .bl _ => some "bool"
  | .int _ => some "int"
  | .str _ => some "str"
  | .lst _ => some "list"
  | .tup _ => some "tuple"
  | .dk _ _ => some "dict"
  | _ => none
theorem ty_ok {v : V} {d : D} {n : String} (e : Ex F H) (r : Rp K cl F v d) (h : tyN d = some n) : TyX K H v (.type n) := by
  cases d with
  | non => cases h; unfold Rp at r; subst r; exact .base .non
  | bl b => cases h; unfold Rp at r; subst r; exact .base (.bl b)
  | int b => cases h; unfold Rp at r; subst r; exact .base (.int b)
  | str b => cases h; unfold Rp at r; subst r; exact .base (.str b)
  | ty n => cases h
  | lst xs =>
    cases h; unfold Rp at r
    obtain ⟨a, vs, rfl, h1, _⟩ := r
    rcases ex_l e h1 with (q | ⟨o, q⟩) | ⟨o, its, n, q, c, _⟩
    · exact .base (.lst q)
    · exact .base (.frz q)
    · exact .kList q c
  | tup xs =>
    cases h; unfold Rp at r
    obtain ⟨a, vs, rfl, h1, _⟩ := r
    rcases SqT.of (K := K) (e _ _ h1) with (q | ⟨o, q⟩) | ⟨o, its, n, q, c, _⟩
    · exact .base (.tup q)
    · exact .fTuple q
    · exact .kTuple q c
  | dk ks xs =>
    cases h; unfold Rp at r
    obtain ⟨a, vs, rfl, h1, _⟩ := r
    exact .base (.dK (e _ _ h1))
  | obj c ns xs => cases h
  | exc q ns xs => cases h
def bIsi : List D → R D
  | [d, .ty c] => match tyN d with
    | some n => match kitB n c with
      | some b => .ok (.bl b)
      | none => .st
    | none => .st
  | _ => .st
theorem ca_isi : CaR K cl (rIsi K) bIsi := by
  intro W σ F H vs ds Q e r p
  unfold bIsi at p
  split at p
  · rename_i d c
    obtain ⟨v, r', rfl, h1, h2⟩ := r.cons_inv
    obtain ⟨u, r'', rfl, h3, h4⟩ := h2.cons_inv
    rw [h4.nil_inv]
    split at p
    · rename_i n hn
      split at p
      · rename_i b hb
        unfold Rp at h3
        subst h3
        exact ⟨v, .ty c, .type n, .type c, b, rfl, .ty c, ty_ok e h1 hn, kit_ty hb, post_ok p e rp_bl⟩
      · exact False.elim p
    · exact False.elim p
  · exact False.elim p
theorem ue_ty {e : Expr} {n : String} (h : PE X e (tC (.ty n))) : UE X cl W e (tC (.ty n)) (dC (.ty n)) := ue_c h fun F => by unfold Rp; rfl
/-- a built-in class as a value -/
theorem ue_bty {x : Str} {n : String} {pos : Pos} (hm : X.mg x = none) (hv : bootBuiltins x = some (.type n)) (hg : Gl X x := by rfl) (hn : x ≠ "__name__" := by decide) (hd : (x == ("__debug__" : Str)) = false := by decide) : UE X cl W (.Name x pos) (tC (.ty n)) (dC (.ty n)) :=
  ue_ty (pe_bltn hg hm hv rfl hn hd)
/-- a module's constant -/
theorem ue_gint {x : Str} {i : Int} {t : Tok} {pos : Pos} (hm : X.mg x = some (.int i t)) (hg : Gl X x := by rfl) (hd : (x == ("__debug__" : Str)) = false := by decide) : UE X cl W (.Name x pos) (tC (.int i)) (dC (.int i)) :=
  ue_c (pe_glob hg hm ⟨t, rfl⟩ hd) fun F => rp_int
theorem ue_gstr {x : Str} {i : Str} {t : Tok} {pos : Pos} (hm : X.mg x = some (.str i t)) (hg : Gl X x := by rfl) (hd : (x == ("__debug__" : Str)) = false := by decide) : UE X cl W (.Name x pos) (tC (.str i)) (dC (.str i)) :=
  ue_c (pe_glob hg hm ⟨t, rfl⟩ hd) fun F => rp_str

/-! ### calls of own defs -/
/-- what the caller wants of a call -/
def PostC (K : PySem.W.Frag) (cl : Str → Option Addr) (F H : Hp) (Q : VK) (E : XK) : R D → Prop
  | .ok d => ∀ v F' H', Grow F H F' H' → Rp K cl F' v d → Q v H'
  | .er x => ∀ cls dd F' H', Grow F H F' H' → ExR K cl F' x cls dd → E cls dd H'
  | .st => False
def PostCN (K : PySem.W.Frag) (cl : Str → Option Addr) (F H : Hp) (Q : VK) (E : XK) : R DO → Prop
  | .ok o => ∀ p ho F' H', Grow F H F' H' → H p = none → F' p = none → H' p = some ho → HR K cl F' ho o → Q (.ref p) H'
  | .er x => ∀ cls dd F' H', Grow F H F' H' → ExR K cl F' x cls dd → E cls dd H'
  | .st => False
def spV (K : PySem.W.Frag) (cl : Str → Option Addr) (n : Nat) (m : List D → R D) : Sp := fun vs H Q E => ∃ ds F, Ex F H ∧ Rps K cl F vs ds ∧ vs.length = n ∧ PostC K cl F H Q E (m ds)
def spN (K : PySem.W.Frag) (cl : Str → Option Addr) (n : Nat) (m : List D → R DO) : Sp := fun vs H Q E => ∃ ds F, Ex F H ∧ Rps K cl F vs ds ∧ vs.length = n ∧ PostCN K cl F H Q E (m ds)
/-- a def that can be called by its name: it does what m says; n parameters -/
def Cal (P : Program) (w : World) (K : PySem.W.Frag) (mg : Str → Option Value) (base : Heap) (k : Nat) (x : Str) (ps : List Str) (sp : Sp) : Prop :=
  ∃ (f : Addr) (fd : FuncData), FnOk P w K mg base (L2N.CX P w) k f fd ps sp ∧ mg x = some (.ref f) ∧ PySem.W.keepIn K (.ref f) = true ∧ Binds K fd ps []
def tAny (tf : Addr → TE) : TE := fun σ H Q => ∃ f, tf f σ H Q
variable {x : Str} {ps : List Str} {p pos : Pos} {e : Expr} {es : List Expr} {t : TA} {k n : Nat}
theorem ue_call {ma : En → R (List D)} {m : List D → R D} (G : Cal X.prog X.w X.K X.mg X.base k x ps (spV X.K cl n m)) (hr : Room k X.A) (tk : L2N.Takes X W) (hn : ps.length = n) (ha : UA X cl W (e :: es) t ma) (hl : ∀ ρ ds, ma ρ = .ok ds → ds.length = n) (hg : Gl X x := by rfl)
    (hdb : (x == ("__debug__" : Str)) = false := by decide) (he : starEach (e :: es) X.env = (false, eval e X.env) :: starEach es X.env := by rfl) (hpl : (backTo pos (starEach es X.env)).any (·.1) = false := by rfl) :
    UE X cl W (.Call (.Name x p) (e :: es) [] pos) (tCallSD (spV X.K cl n m) [] (WE W) t) (d1 m ma) := by
  obtain ⟨f, fd, F, hm, hk, hb⟩ := G
  refine ⟨pe_callSD F hr hg hm hk hb .nil (fun σ => L2N.passAt tk σ) ha.pe hdb he hpl, fun F0 H0 F H σ ρ Q S p => ha.es F0 H0 F H σ ρ _ S ?_⟩
  unfold d1 at p
  cases e : ma ρ with
  | st => rw [e] at p; exact p
  | er x => rw [e] at p; exact p
  | ok ds =>
    rw [e, R.bind_ok] at p
    intro vs F1 H1 g r
    rw [List.append_nil]
    refine ⟨ds, F1, g.s, r, by rw [r.length, hl ρ ds e], ?_⟩
    cases e2 : m ds with
    | st => rw [e2] at p; exact p
    | er x => rw [e2] at p; exact fun c d F2 H2 g2 q => p c d F2 H2 (g.trans g2) q
    | ok d => rw [e2] at p; exact fun v F2 H2 g2 q => p v F2 H2 (g.trans g2) q
theorem un_call {ma : En → R (List D)} {m : List D → R DO} (G : Cal X.prog X.w X.K X.mg X.base k x ps (spN X.K cl n m)) (hr : Room k X.A) (tk : L2N.Takes X W) (hn : ps.length = n) (ha : UA X cl W (e :: es) t ma) (hl : ∀ ρ ds, ma ρ = .ok ds → ds.length = n) (hg : Gl X x := by rfl)
    (hdb : (x == ("__debug__" : Str)) = false := by decide) (he : starEach (e :: es) X.env = (false, eval e X.env) :: starEach es X.env := by rfl) (hpl : (backTo pos (starEach es X.env)).any (·.1) = false := by rfl) :
    UN X cl W (.Call (.Name x p) (e :: es) [] pos) (tCallSD (spN X.K cl n m) [] (WE W) t) (d1 m ma) := by
  obtain ⟨f, fd, F, hm, hk, hb⟩ := G
  refine ⟨pe_callSD F hr hg hm hk hb .nil (fun σ => L2N.passAt tk σ) ha.pe hdb he hpl, fun F0 H0 F H σ ρ Q S p => ha.es F0 H0 F H σ ρ _ S ?_⟩
  unfold d1 at p
  cases e : ma ρ with
  | st => rw [e] at p; exact p
  | er x => rw [e] at p; exact p
  | ok ds =>
    rw [e, R.bind_ok] at p
    intro vs F1 H1 g r
    rw [List.append_nil]
    refine ⟨ds, F1, g.s, r, by rw [r.length, hl ρ ds e], ?_⟩
    cases e2 : m ds with
    | st => rw [e2] at p; exact p
    | er x => rw [e2] at p; exact fun c d F2 H2 g2 q => p c d F2 H2 (g.trans g2) q
    | ok o => rw [e2] at p; exact fun q ho F2 H2 g2 h0 h1 h2 h3 => p q ho F2 H2 (g.trans g2) (g.old q h0) h1 h2 h3
theorem dNil_len : ∀ ρ ds, dNil ρ = .ok ds → ds.length = 0 := fun ρ ds h => by cases h; rfl
theorem dCons_len {a : En → R D} {b : En → R (List D)} {n : Nat} (h : ∀ ρ ds, b ρ = .ok ds → ds.length = n) : ∀ ρ ds, dCons a b ρ = .ok ds → ds.length = n + 1 := fun ρ ds q => by
  unfold dCons d2 at q
  cases e : a ρ with
  | st => rw [e] at q; cases q
  | er x => rw [e] at q; cases q
  | ok d =>
    rw [e, R.bind_ok] at q
    cases e2 : b ρ with
    | st => rw [e2] at q; cases q
    | er x => rw [e2] at q; cases q
    | ok r =>
      rw [e2] at q; cases q
      rw [List.length_cons, h ρ r e2]
end
end UP
namespace UP
open PySem L2 PyProof.Rows
section
variable {X : Cx} {cl : Str → Option Addr} {W : WX} {K : PySem.W.Frag} {F0 H0 F H F' H' : Hp} {σ : L2.St} {ρ : En}

/-! ### stores -/
theorem Sr.set {i : Nat} {v : V} {d : D} (S : Sr K cl F0 H0 F H σ ρ) (r : Rp K cl F v d) : Sr K cl F0 H0 F H (σ.set i (some v)) (ρ.set i (.val d)) := by
  have hl := S.len
  have ne : ∀ {j : Nat} {o : DO}, (ρ.set i (.val d))[j]? = some (.own o) → j ≠ i ∧ ρ[j]? = some (.own o) := fun {j o} e => by
    by_cases h : i = j
    · subst h
      rw [List.getElem?_set] at e
      simp only [if_true] at e
      split at e <;> cases e
    · rw [List.getElem?_set_ne h] at e
      exact ⟨fun q => h q.symm, e⟩
  refine ⟨S.grow, by simp [hl], fun j d' e => ?_, fun j o e => ?_, fun j k o o' p e1 e2 e3 e4 => ?_, S.tr.to (fun j t e => ?_) (fun j o p e1 e2 => ?_) (Ex.refl _) fun a u hu hf _ _ => ⟨rfl, hf⟩⟩
  rotate_left 3
  · have hj : j ≠ i := fun q => by
      rw [q, List.getElem?_set] at e
      simp only [if_true] at e
      split at e <;> cases e
    rw [List.getElem?_set_ne (Ne.symm hj)] at e ⊢
    exact ⟨e, rfl⟩
  · obtain ⟨n1, e1⟩ := ne e1
    rw [List.getElem?_set_ne (Ne.symm n1)] at e2
    exact .inl ⟨o, e1, e2⟩
  · by_cases h : i = j
    · subst h
      by_cases hi : i < ρ.length
      · rw [List.getElem?_set_self hi] at e
        cases e
        exact ⟨v, List.getElem?_set_self (by omega), r⟩
      · rw [List.getElem?_eq_none (by simpa using hi)] at e; cases e
    · rw [List.getElem?_set_ne h] at e
      obtain ⟨u, h1, h2⟩ := S.val j d' e
      exact ⟨u, by rw [List.getElem?_set_ne h]; exact h1, h2⟩
  · obtain ⟨h, e⟩ := ne e
    obtain ⟨p, ho, h1, h2⟩ := S.own j o e
    exact ⟨p, ho, by rw [List.getElem?_set_ne (Ne.symm h)]; exact h1, h2⟩
  · obtain ⟨n1, e1⟩ := ne e1
    obtain ⟨n2, e2⟩ := ne e2
    rw [List.getElem?_set_ne (Ne.symm n1)] at e3
    rw [List.getElem?_set_ne (Ne.symm n2)] at e4
    exact S.dis j k o o' p e1 e2 e3 e4
/-- a slot is forgotten -/
theorem Sr.un {i : Nat} {u : Option V} (S : Sr K cl F0 H0 F H σ ρ) : Sr K cl F0 H0 F H (σ.set i u) (ρ.set i .un) := by
  have hl := S.len
  have ne : ∀ {j : Nat} {q : Sl}, q ≠ .un → (ρ.set i .un)[j]? = some q → j ≠ i ∧ ρ[j]? = some q := fun {j q} hq e => by
    by_cases h : i = j
    · subst h
      rw [List.getElem?_set] at e
      simp only [if_true] at e
      split at e <;> cases e
      exact absurd rfl hq
    · rw [List.getElem?_set_ne h] at e
      exact ⟨fun q => h q.symm, e⟩
  refine ⟨S.grow, by simp [hl], fun j d' e => ?_, fun j o e => ?_, fun j k o o' p e1 e2 e3 e4 => ?_, S.tr.to (fun j t e => ?_) (fun j o p e1 e2 => ?_) (Ex.refl _) fun a u hu hf _ _ => ⟨rfl, hf⟩⟩
  rotate_left 3
  · obtain ⟨h, e⟩ := ne (by intro z; cases z) e
    exact ⟨e, List.getElem?_set_ne (Ne.symm h)⟩
  · obtain ⟨h, e⟩ := ne (by intro z; cases z) e1
    rw [List.getElem?_set_ne (Ne.symm h)] at e2
    exact .inl ⟨o, e, e2⟩
  · obtain ⟨h, e⟩ := ne (by intro z; cases z) e
    obtain ⟨v, h1, h2⟩ := S.val j d' e
    exact ⟨v, by rw [List.getElem?_set_ne (Ne.symm h)]; exact h1, h2⟩
  · obtain ⟨h, e⟩ := ne (by intro z; cases z) e
    obtain ⟨p, ho, h1, h2⟩ := S.own j o e
    exact ⟨p, ho, by rw [List.getElem?_set_ne (Ne.symm h)]; exact h1, h2⟩
  · obtain ⟨n1, e1⟩ := ne (by intro z; cases z) e1
    obtain ⟨n2, e2⟩ := ne (by intro z; cases z) e2
    rw [List.getElem?_set_ne (Ne.symm n1)] at e3
    rw [List.getElem?_set_ne (Ne.symm n2)] at e4
    exact S.dis j k o o' p e1 e2 e3 e4
/-- ours, in a slot -/
theorem Sr.setOwn {i : Nat} {p : Addr} {ho : HO} {o : DO} (S : Sr K cl F0 H0 F H σ ρ) (hf : F p = none) (hp : H p = some ho) (r : HR K cl F ho o) (h0 : H0 p = none) (hd : ∀ (j : Nat) (o : DO), ρ[j]? = some (.own o) → σ[j]? ≠ some (some (.ref p)))
    (ht : ∀ (j : Nat) (t : DT) (v : V) (fp : List Addr), ρ[j]? = some (.tr t) → σ[j]? = some (some v) → Tr K cl F H v t fp → p ∉ fp) :
    Sr K cl F0 H0 F H (σ.set i (some (.ref p))) (ρ.set i (.own o)) := by
  have hl := S.len
  have at' : ∀ {j : Nat} {q : DO}, (ρ.set i (.own o))[j]? = some (.own q) → (j = i ∧ q = o ∧ i < ρ.length) ∨ (j ≠ i ∧ ρ[j]? = some (.own q)) := fun {j q} e => by
    by_cases h : i = j
    · subst h
      by_cases hi : i < ρ.length
      · rw [List.getElem?_set_self hi] at e
        cases e
        exact .inl ⟨rfl, rfl, hi⟩
      · rw [List.getElem?_eq_none (by simpa using hi)] at e; cases e
    · rw [List.getElem?_set_ne h] at e
      exact .inr ⟨fun q => h q.symm, e⟩
  refine ⟨S.grow, by simp [hl], fun j d' e => ?_, fun j q e => ?_, fun j k q q' p' e1 e2 e3 e4 => ?_, S.tr.to (fun j t e => ?_) (fun j q p' e1 e2 => ?_) (Ex.refl _) fun a u hu hf _ _ => ⟨rfl, hf⟩⟩
  rotate_left 3
  · have hj : j ≠ i := fun q => by
      rw [q, List.getElem?_set] at e
      simp only [if_true] at e
      split at e <;> cases e
    rw [List.getElem?_set_ne (Ne.symm hj)] at e ⊢
    exact ⟨e, rfl⟩
  · rcases at' e1 with ⟨rfl, rfl, hi⟩ | ⟨h, e1'⟩
    · rw [List.getElem?_set_self (by omega)] at e2
      cases e2
      exact .inr ht
    · rw [List.getElem?_set_ne (Ne.symm h)] at e2
      exact .inl ⟨q, e1', e2⟩
  · by_cases h : i = j
    · subst h
      rw [List.getElem?_set] at e
      simp only [if_true] at e
      split at e <;> cases e
    · rw [List.getElem?_set_ne h] at e
      obtain ⟨v, h1, h2⟩ := S.val j d' e
      exact ⟨v, by rw [List.getElem?_set_ne h]; exact h1, h2⟩
  · rcases at' e with ⟨rfl, rfl, hi⟩ | ⟨h, e⟩
    · exact ⟨p, ho, List.getElem?_set_self (by omega), hf, hp, r, h0⟩
    · obtain ⟨p', ho', h1, h2⟩ := S.own j q e
      exact ⟨p', ho', by rw [List.getElem?_set_ne (Ne.symm h)]; exact h1, h2⟩
  · rcases at' e1 with ⟨q1, q2, hi⟩ | ⟨h, e1'⟩
    · rcases at' e2 with ⟨q3, _, _⟩ | ⟨h2, e2'⟩
      · rw [q1, q3]
      · rw [q1, List.getElem?_set_self (by omega)] at e3
        cases e3
        rw [List.getElem?_set_ne (Ne.symm h2)] at e4
        exact absurd e4 (hd k q' e2')
    · rcases at' e2 with ⟨q3, _, hi⟩ | ⟨h2, e2'⟩
      · rw [q3, List.getElem?_set_self (by omega)] at e4
        cases e4
        rw [List.getElem?_set_ne (Ne.symm h)] at e3
        exact absurd e3 (hd j q e1')
      · rw [List.getElem?_set_ne (Ne.symm h)] at e3
        rw [List.getElem?_set_ne (Ne.symm h2)] at e4
        exact S.dis j k q q' p' e1' e2' e3 e4

/-! ### targets -/
def PostG (K : PySem.W.Frag) (cl : Str → Option Addr) (F0 H0 F H : Hp) (σ : L2.St) (ws : List Nat) (Q : L2.St → Hp → Prop) : R En → Prop
  | .ok ρ' => ∀ σ', Sr K cl F0 H0 F H σ' ρ' → σ'.length = σ.length → (∀ k : Nat, k ∉ ws → σ'[k]? = σ[k]?) → Q σ' H
  | _ => False
structure UG (X : Cx) (cl : Str → Option Addr) (tg : Expr) (g : TG) (mg : D → En → R En) (ws : List Nat) : Prop where
  pe : PG X tg g
  es : ∀ F0 H0 F H σ ρ v d Q, Sr X.K cl F0 H0 F H σ ρ → Rp X.K cl F v d → PostG X.K cl F0 H0 F H σ ws Q (mg d ρ) → g v σ H Q
structure UGs (X : Cx) (cl : Str → Option Addr) (tgs : List Expr) (g : TGs) (mg : List D → En → R En) (ws : List Nat) : Prop where
  pe : PGs X tgs g
  es : ∀ F0 H0 F H σ ρ vs ds Q, Sr X.K cl F0 H0 F H σ ρ → Rps X.K cl F vs ds → PostG X.K cl F0 H0 F H σ ws Q (mg ds ρ) → g vs σ H Q
def gSet (i : Nat) : D → En → R En := fun d ρ => .ok (ρ.set i (.val d))
theorem ug_name {i : Nat} {x : Str} {pos} (h : PG X (.Name x pos) (gName i)) : UG X cl (.Name x pos) (gName i) (gSet i) [i] := by
  refine ⟨h, fun F0 H0 F H σ ρ v d Q S r p => ?_⟩
  exact p _ (S.set r) (by simp) fun k hk => List.getElem?_set_ne (fun q => hk (by simp [q]))
def gsNil : List D → En → R En
  | [], ρ => .ok ρ
  | _, _ => .st
theorem ugs_nil : UGs X cl [] gNil gsNil [] := by
  refine ⟨pgs_nil, fun F0 H0 F H σ ρ vs ds Q S r p => ?_⟩
  cases ds with
  | nil => exact ⟨r.nil_inv, p σ S rfl fun _ _ => rfl⟩
  | cons d ds => exact False.elim p
def gsCons (a : D → En → R En) (b : List D → En → R En) : List D → En → R En
  | d :: ds, ρ => (a d ρ).bind fun ρ1 => b ds ρ1
  | _, _ => .st
theorem ugs_cons {e : Expr} {es : List Expr} {t : TG} {u : TGs} {a : D → En → R En} {b : List D → En → R En} {w1 w2 : List Nat} (h1 : UG X cl e t a w1) (h2 : UGs X cl es u b w2)
    (hs : (assignEach (e :: es) X.env).map (·.2) = assign e X.env :: (assignEach es X.env).map (·.2) := by rfl) : UGs X cl (e :: es) (gCons t u) (gsCons a b) (w1 ++ w2) := by
  refine ⟨pgs_cons h1.pe h2.pe hs, fun F0 H0 F H σ ρ vs ds Q S r p => ?_⟩
  cases ds with
  | nil => exact False.elim p
  | cons d ds =>
    obtain ⟨v, r', rfl, r1, r2⟩ := r.cons_inv
    refine ⟨v, r', rfl, ?_⟩
    have p : PostG X.K cl F0 H0 F H σ (w1 ++ w2) Q ((a d ρ).bind fun ρ1 => b ds ρ1) := p
    refine h1.es F0 H0 F H σ ρ v d _ S r1 ?_
    cases e : a d ρ with
    | st => rw [e] at p; exact p
    | er x => rw [e] at p; exact p
    | ok ρ1 =>
      rw [e, R.bind_ok] at p
      intro σ1 S1 hl1 hk1
      refine h2.es F0 H0 F H σ1 ρ1 r' ds _ S1 r2 ?_
      cases e2 : b ds ρ1 with
      | st => rw [e2] at p; exact p
      | er x => rw [e2] at p; exact p
      | ok ρ2 =>
        rw [e2] at p
        exact fun σ2 S2 hl2 hk2 => p σ2 S2 (hl2.trans hl1) fun k hk => (hk2 k fun q => hk (List.mem_append_right _ q)).trans (hk1 k fun q => hk (List.mem_append_left _ q))
def gTupD (n : Nat) (b : List D → En → R En) : D → En → R En
  | .tup ds, ρ => if ds.length = n then b ds ρ else .st
  | .lst ds, ρ => if ds.length = n then b ds ρ else .st
  | _, _ => .st
theorem pg_or {tg : Expr} {t1 t2 : TG} (h1 : PG X tg t1) (h2 : PG X tg t2) : PG X tg (fun v σ H Q => t1 v σ H Q ∨ t2 v σ H Q) :=
  ⟨fun pins s σ H v u Q I r h => h.elim (h1.run pins s σ H v u Q I r) (h2.run pins s σ H v u Q I r)⟩
theorem ug_tup {es : List Expr} {k : Nat} {t : TGs} {n : Nat} {b : List D → En → R En} {ws : List Nat} {pos} (hc : X.calm = true) (h : UGs X cl es t b ws) (hn : (assignEach es X.env).length = n := by rfl) (hst : (assignEach es X.env).findIdx? (·.1) = none := by rfl) :
    UG X cl (.Tuple es k pos) (fun v σ H Q => gTup X.K n t v σ H Q ∨ gLst X.K n t v σ H Q) (gTupD n b) ws := by
  refine ⟨pg_or (pg_tup hc h.pe hn hst) (pg_lst hc h.pe hn hst), fun F0 H0 F H σ ρ v d Q S r p => ?_⟩
  cases d <;> try exact False.elim p
  · rename_i ds
    unfold Rp at r
    obtain ⟨a, vs, rfl, h1, h2⟩ := r
    have p : PostG X.K cl F0 H0 F H σ ws Q (if ds.length = n then b ds ρ else .st) := p
    by_cases hq : ds.length = n
    · rw [if_pos hq] at p
      exact .inr ⟨a, vs, rfl, ex_l S.ex h1, by rw [h2.length]; exact hq, h.es F0 H0 F H σ ρ vs ds Q S h2 p⟩
    · rw [if_neg hq] at p; exact p.elim
  · rename_i ds
    unfold Rp at r
    obtain ⟨a, vs, rfl, h1, h2⟩ := r
    have p : PostG X.K cl F0 H0 F H σ ws Q (if ds.length = n then b ds ρ else .st) := p
    by_cases hq : ds.length = n
    · rw [if_pos hq] at p
      exact .inl ⟨a, vs, rfl, SqT.of (S.ex _ _ h1), by rw [h2.length]; exact hq, h.es F0 H0 F H σ ρ vs ds Q S h2 p⟩
    · rw [if_neg hq] at p; exact p.elim

/-! ### what is walked -/
def ItR (K : PySem.W.Frag) (cl : Str → Option Addr) (J : It) (ds : List D) (F1 Hs : Hp) : Prop :=
  ∀ F2 H2 (i : Nat), Ex F1 F2 → Ex F2 H2 → Ex Hs H2 → (∀ d, ds[i]? = some d → J.go i H2 ∧ ∀ x H3, J.yld i H2 x H3 → ∃ F3, Grow F2 H2 F3 H3 ∧ Rp K cl F3 x d) ∧ (ds.length ≤ i → J.stop i H2)
def PostI (K : PySem.W.Frag) (cl : Str → Option Addr) (W : WX) (b : Bool) (σ : L2.St) (F H : Hp) (Q : It → Hp → Prop) : R (List D) → Prop
  | .ok ds => ∀ J F1 H1, Grow F H F1 H1 → ItR K cl J ds F1 (if b = true then F1 else H1) → Q J H1
  | .er x => ∀ cls dd F' H', Grow F H F' H' → ExR K cl F' x cls dd → W cls dd σ H'
  | .st => False
/-- b: the thing walked is frozen -/
structure UI (X : Cx) (cl : Str → Option Addr) (W : WX) (b : Bool) (tg iter : Expr) (wi : TI) (mi : En → R (List D)) : Prop where
  pe : PI X tg iter wi
  es : ∀ F0 H0 F H σ ρ Q, Sr X.K cl F0 H0 F H σ ρ → PostI X.K cl W b σ F H Q (mi ρ) → wi σ H Q
theorem UI.weak {tg iter : Expr} {wi : TI} {mi : En → R (List D)} (h : UI X cl W true tg iter wi mi) : UI X cl W false tg iter wi mi := by
  refine ⟨h.pe, fun F0 H0 F H σ ρ Q S p => h.es F0 H0 F H σ ρ Q S ?_⟩
  cases e : mi ρ with
  | st => rw [e] at p; exact p
  | er x => rw [e] at p; exact p
  | ok ds =>
    rw [e] at p
    exact fun J F1 H1 g it => p J F1 H1 g fun F2 H2 i a b c => it F2 H2 i a b (a.trans b)
theorem pi_or {tg iter : Expr} {w1 w2 : TI} (h1 : PI X tg iter w1) (h2 : PI X tg iter w2) : PI X tg iter (fun σ H R => w1 σ H R ∨ w2 σ H R) :=
  ⟨fun pins s σ H R I h => h.elim (h1.run pins s σ H R I) (h2.run pins s σ H R I)⟩
theorem itr_list {a : Addr} {vs : List V} {ds : List D} {F1 Hs : Hp} (h1 : SqL K Hs a vs) (h2 : Rps K cl F1 vs ds) : ItR K cl (Itl K a) ds F1 Hs := by
  intro F2 H2 i e1 e2 e3
  have q := ex_l e3 h1
  refine ⟨fun d hd => ?_, fun hl => ⟨vs, q, by rw [h2.length]; exact hl⟩⟩
  obtain ⟨v, hv, rv⟩ := h2.get hd
  refine ⟨⟨vs, v, q, hv⟩, fun x H3 y => ?_⟩
  obtain ⟨e, y⟩ := y
  subst e
  have := y vs q
  rw [hv] at this; cases this
  exact ⟨F2, Grow.refl e2, rv.mono e1⟩
theorem itr_tup {a : Addr} {vs : List V} {ds : List D} {F1 Hs : Hp} (h1 : SqT K Hs a vs) (h2 : Rps K cl F1 vs ds) : ItR K cl (Itt K a) ds F1 Hs := by
  intro F2 H2 i e1 e2 e3
  have q := ex_t e3 h1
  refine ⟨fun d hd => ?_, fun hl => ⟨vs, q, by rw [h2.length]; exact hl⟩⟩
  obtain ⟨v, hv, rv⟩ := h2.get hd
  refine ⟨⟨vs, v, q, hv⟩, fun x H3 y => ?_⟩
  obtain ⟨e, y⟩ := y
  subst e
  have := y vs q
  rw [hv] at this; cases this
  exact ⟨F2, Grow.refl e2, rv.mono e1⟩
/-- a list's or tuple's content -/
theorem ui_l {tg e : Expr} {te : TE} {ml : En → R (Bool × List D)} (h : UL X cl W e te ml) : UI X cl W false tg e (fun σ H R => iList X.K te σ H R ∨ iTup X.K te σ H R) (d1 (fun q => .ok q.2) ml) := by
  refine ⟨pi_or (pi_list h.pe) (pi_tup h.pe), fun F0 H0 F H σ ρ Q S p => ?_⟩
  unfold d1 at p
  cases e : ml ρ with
  | st => rw [e] at p; exact p.elim
  | er x =>
    rw [e] at p
    exact .inl (h.es F0 H0 F H σ ρ _ S (by rw [e]; exact p))
  | ok q =>
    obtain ⟨b, ds⟩ := q
    rw [e, R.bind_ok] at p
    cases b with
    | true =>
      refine .inl (h.es F0 H0 F H σ ρ _ S ?_)
      rw [e]
      intro a vs F1 H1 g s r
      have s : SqL X.K H1 a vs := s
      exact ⟨a, rfl, ⟨vs, s⟩, p _ F1 H1 g (itr_list s r)⟩
    | false =>
      refine .inr (h.es F0 H0 F H σ ρ _ S ?_)
      rw [e]
      intro a vs F1 H1 g s r
      have s : SqT X.K H1 a vs := s
      exact ⟨a, rfl, ⟨vs, s⟩, p _ F1 H1 g (itr_tup s r)⟩
/-- a frozen list, tuple, a text -/
def dIt : D → R (List D)
  | .lst xs => .ok xs
  | .tup xs => .ok xs
  | .str z => .ok (z.cps.toList.map fun c => .str ⟨#[c]⟩)
  | _ => .st
theorem ui_v {tg e : Expr} {te : TE} {me : En → R D} (h : UE X cl W e te me) : UI X cl W true tg e (fun σ H R => iList X.K te σ H R ∨ (iTup X.K te σ H R ∨ iStr te σ H R)) (d1 dIt me) := by
  refine ⟨pi_or (pi_list h.pe) (pi_or (pi_tup h.pe) (pi_str h.pe)), fun F0 H0 F H σ ρ Q S p => ?_⟩
  unfold d1 at p
  cases e : me ρ with
  | st => rw [e] at p; exact p.elim
  | er x =>
    rw [e] at p
    exact .inl (h.es F0 H0 F H σ ρ _ S (by rw [e]; exact p))
  | ok d =>
    rw [e, R.bind_ok] at p
    cases d with
    | lst xs =>
      refine .inl (h.es F0 H0 F H σ ρ _ S ?_)
      rw [e]
      intro v F1 H1 g r
      unfold Rp at r
      obtain ⟨a, vs, rfl, s, r⟩ := r
      exact ⟨a, rfl, ⟨vs, ex_l g.s s⟩, p _ F1 H1 g (itr_list s r)⟩
    | tup xs =>
      refine .inr (.inl (h.es F0 H0 F H σ ρ _ S ?_))
      rw [e]
      intro v F1 H1 g r
      unfold Rp at r
      obtain ⟨a, vs, rfl, s, r⟩ := r
      exact ⟨a, rfl, ⟨vs, SqT.of (g.s _ _ s)⟩, p _ F1 H1 g (itr_tup (SqT.of s) r)⟩
    | str z =>
      refine .inr (.inr (h.es F0 H0 F H σ ρ _ S ?_))
      rw [e]
      intro v F1 H1 g r
      refine ⟨z, r.str_inv, p _ F1 H1 g fun F2 H2 i e1 e2 e3 => ⟨fun d hd => ?_, fun hl => ?_⟩⟩
      · rw [List.getElem?_map] at hd
        cases q : z.cps.toList[i]? with
        | none => rw [q] at hd; cases hd
        | some c =>
          rw [q] at hd
          cases hd
          have q' : z.cps[i]? = some c := by simpa using q
          refine ⟨?_, fun x H3 y => ?_⟩
          · exact (Array.getElem?_eq_some_iff.mp q').1
          · obtain ⟨e, c', h1, h2⟩ := y
            subst e
            rw [q'] at h1; cases h1
            subst h2
            exact ⟨F2, Grow.refl e2, rp_str⟩
      · have : z.cps.toList.length ≤ i := by simpa using hl
        exact this
    | _ => exact False.elim p
def dRange (lo : Int) (n : Nat) : List D := (List.range n).map fun k => .int (lo + (k : Nat))
theorem itr_range {lo : Int} {n : Nat} {F1 Hs : Hp} : ItR K cl (Itr lo n) (dRange lo n) F1 Hs := by
  intro F2 H2 i e1 e2 e3
  unfold dRange
  refine ⟨fun d hd => ?_, fun hl => ?_⟩
  · rw [List.getElem?_map] at hd
    cases q : (List.range n)[i]? with
    | none => rw [q] at hd; cases hd
    | some c =>
      rw [q] at hd
      cases hd
      obtain ⟨h1, h2⟩ := List.getElem?_eq_some_iff.mp q
      have hi : i < n := by simpa using h1
      have hc : i = c := by simpa using h2
      subst hc
      exact ⟨hi, fun x H3 y => by obtain ⟨e, y⟩ := y; subst e y; exact ⟨F2, Grow.refl e2, rp_int⟩⟩
  · have : n ≤ i := by simpa using hl
    exact this
def dRng1 : List D → R (List D)
  | [.int j] => if -(2 ^ 62) ≤ j ∧ j < 2 ^ 62 then .ok (dRange 0 j.toNat) else .st
  | _ => .st
theorem ui_range1 {tg a : Expr} {ta : TA} {ma : En → R (List D)} {p pos : Pos} (hm : X.mg "range" = none) (ha : UA X cl W [a] ta ma) (hg : Gl X "range" := by rfl) (hs : starEach [a] X.env = [(false, eval a X.env)] := by rfl) :
    UI X cl W true tg (.Call (.Name "range" p) [a] [] pos) (iRng1 ta) (d1 dRng1 ma) := by
  refine ⟨pi_range1 hg hm ha.pe hs, fun F0 H0 F H σ ρ Q S p => ha.es F0 H0 F H σ ρ _ S ?_⟩
  unfold d1 at p
  cases e : ma ρ with
  | st => rw [e] at p; exact p
  | er x => rw [e] at p; exact p
  | ok ds =>
    rw [e, R.bind_ok] at p
    intro vs F1 H1 g r
    unfold dRng1 at p
    split at p
    · rename_i j
      split at p
      · rename_i hj
        obtain ⟨v, r', rfl, h1, h2⟩ := r.cons_inv
        rw [h2.nil_inv, h1.int_inv]
        exact ⟨j, rfl, hj.1, hj.2, p _ F1 H1 g itr_range⟩
      · exact False.elim p
    · exact False.elim p
def dRng2 : List D → R (List D)
  | [.int i, .int j] => if -(2 ^ 62) ≤ i ∧ i < 2 ^ 62 ∧ -(2 ^ 62) ≤ j ∧ j < 2 ^ 62 then .ok (dRange i (j - i).toNat) else .st
  | _ => .st
theorem ui_range2 {tg a b : Expr} {ta : TA} {ma : En → R (List D)} {p pos : Pos} (hm : X.mg "range" = none) (ha : UA X cl W [a, b] ta ma) (hg : Gl X "range" := by rfl) (hs : starEach [a, b] X.env = [(false, eval a X.env), (false, eval b X.env)] := by rfl)
    (hs2 : starEach [b] X.env = [(false, eval b X.env)] := by rfl) : UI X cl W true tg (.Call (.Name "range" p) [a, b] [] pos) (iRng2 ta) (d1 dRng2 ma) := by
  refine ⟨pi_range2 hg hm ha.pe hs hs2, fun F0 H0 F H σ ρ Q S p => ha.es F0 H0 F H σ ρ _ S ?_⟩
  unfold d1 at p
  cases e : ma ρ with
  | st => rw [e] at p; exact p
  | er x => rw [e] at p; exact p
  | ok ds =>
    rw [e, R.bind_ok] at p
    intro vs F1 H1 g r
    unfold dRng2 at p
    split at p
    · rename_i i j
      split at p
      · rename_i hj
        obtain ⟨v, r', rfl, h1, h2⟩ := r.cons_inv
        obtain ⟨v', r'', rfl, h3, h4⟩ := h2.cons_inv
        rw [h4.nil_inv, h1.int_inv, h3.int_inv]
        exact ⟨i, j, rfl, hj, p _ F1 H1 g itr_range⟩
      · exact False.elim p
    · exact False.elim p
/-- enumerate, zip, reversed of lists -/
def dEnumL (k : Nat) : List D → List D
  | [] => []
  | d :: ds => .tup [.int (k : Nat), d] :: dEnumL (k + 1) ds
theorem dEnumL_get : ∀ (ds : List D) (k i : Nat), (dEnumL k ds)[i]? = ds[i]?.map fun d => .tup [.int ((k + i : Nat) : Int), d]
  | [], k, i => by simp [dEnumL]
  | d :: ds, k, 0 => by simp [dEnumL]
  | d :: ds, k, i + 1 => by
    have := dEnumL_get ds (k + 1) i
    simp only [dEnumL, List.getElem?_cons_succ]
    rw [this]
    congr 1
    funext d
    congr 3
    omega
theorem dEnumL_len : ∀ (ds : List D) (k : Nat), (dEnumL k ds).length = ds.length
  | [], k => rfl
  | d :: ds, k => by simp [dEnumL, dEnumL_len ds (k + 1)]
def dEnum : List D → R (List D)
  | [.lst xs] => .ok (dEnumL 0 xs)
  | _ => .st
theorem itr_enum {a : Addr} {vs : List V} {ds : List D} {F1 Hs : Hp} (h1 : SqL K Hs a vs) (h2 : Rps K cl F1 vs ds) : ItR K cl (Ite K a) (dEnumL 0 ds) F1 Hs := by
  intro F2 H2 i e1 e2 e3
  have q := ex_l e3 h1
  refine ⟨fun d hd => ?_, fun hl => ⟨vs, q, by rw [h2.length]; rw [dEnumL_len] at hl; exact hl⟩⟩
  rw [dEnumL_get] at hd
  cases e : ds[i]? with
  | none => rw [e] at hd; cases hd
  | some d0 =>
    rw [e] at hd
    cases hd
    obtain ⟨v, hv, rv⟩ := h2.get e
    refine ⟨⟨vs, v, q, hv⟩, fun x H3 y => ?_⟩
    obtain ⟨T, x', rfl, hT, rfl, y⟩ := y
    have := y vs q
    rw [hv] at this; cases this
    have g := Grow.lay (o := .tup [.int (i : Nat), v]) e2 hT
    refine ⟨_, g, ?_⟩
    unfold Rp
    refine ⟨T, _, rfl, upd_same, Rps.cons ?_ (Rps.cons ((rv.mono e1).mono g.f) Rps.nil)⟩
    rw [Nat.zero_add]; exact rp_int
theorem ui_enum {e : Expr} {ta : TA} {ma : En → R (List D)} {p pos tpos : Pos} {elts : List Expr} {kk : Nat} (hm : X.mg "enumerate" = none) (ha : UA X cl W [e] ta ma) (hg : Gl X "enumerate" := by rfl) (hs : starEach [e] X.env = [(false, eval e X.env)] := by rfl) :
    UI X cl W true (.Tuple elts kk tpos) (.Call (.Name "enumerate" p) [e] [] pos) (iEnum X.K ta) (d1 dEnum ma) := by
  refine ⟨pi_enum hg hm ha.pe hs, fun F0 H0 F H σ ρ Q S p => ha.es F0 H0 F H σ ρ _ S ?_⟩
  unfold d1 at p
  cases e : ma ρ with
  | st => rw [e] at p; exact p
  | er x => rw [e] at p; exact p
  | ok ds =>
    rw [e, R.bind_ok] at p
    intro vs F1 H1 g r
    unfold dEnum at p
    split at p
    · rename_i xs
      obtain ⟨v, r', rfl, h1, h2⟩ := r.cons_inv
      rw [h2.nil_inv]
      unfold Rp at h1
      obtain ⟨a, us, rfl, h3, h4⟩ := h1
      exact ⟨a, us, rfl, ex_l g.s h3, p _ F1 H1 g (itr_enum h3 h4)⟩
    · exact False.elim p
def dZipL : List D → List D → List D
  | a :: as, b :: bs => .tup [a, b] :: dZipL as bs
  | _, _ => []
theorem dZipL_get : ∀ (as bs : List D) (i : Nat), (dZipL as bs)[i]? = match as[i]?, bs[i]? with | some a, some b => some (.tup [a, b]) | _, _ => none
  | [], bs, i => by simp [dZipL]
  | a :: as, [], i => by simp [dZipL]
  | a :: as, b :: bs, 0 => by simp [dZipL]
  | a :: as, b :: bs, i + 1 => by simp [dZipL, dZipL_get as bs i]
theorem dZipL_len : ∀ (as bs : List D), (dZipL as bs).length = min as.length bs.length
  | [], bs => by simp [dZipL]
  | a :: as, [] => by simp [dZipL]
  | a :: as, b :: bs => by simp [dZipL, dZipL_len as bs]
def dZip : List D → R (List D)
  | [.lst xs, .lst ys] => .ok (dZipL xs ys)
  | _ => .st
theorem itr_zip {a b : Addr} {vs us : List V} {ds es : List D} {F1 Hs : Hp} (h1 : SqL K Hs a vs) (h2 : Rps K cl F1 vs ds) (h3 : SqL K Hs b us) (h4 : Rps K cl F1 us es) : ItR K cl (Itz K a b) (dZipL ds es) F1 Hs := by
  intro F2 H2 i e1 e2 e3
  have q1 := ex_l e3 h1
  have q2 := ex_l e3 h3
  refine ⟨fun d hd => ?_, fun hl => ⟨vs, us, q1, q2, by rw [h2.length, h4.length]; rw [dZipL_len] at hl; omega⟩⟩
  rw [dZipL_get] at hd
  split at hd
  · rename_i x y ex ey
    cases hd
    obtain ⟨v, hv, rv⟩ := h2.get ex
    obtain ⟨u, hu, ru⟩ := h4.get ey
    refine ⟨⟨vs, us, v, u, q1, q2, hv, hu⟩, fun x H3 y => ?_⟩
    obtain ⟨T, x', y', rfl, hT, rfl, y1, y2⟩ := y
    have z1 := y1 vs q1
    rw [hv] at z1; cases z1
    have z2 := y2 us q2
    rw [hu] at z2; cases z2
    have g := Grow.lay (o := .tup [v, u]) e2 hT
    refine ⟨_, g, ?_⟩
    unfold Rp
    exact ⟨T, _, rfl, upd_same, Rps.cons ((rv.mono e1).mono g.f) (Rps.cons ((ru.mono e1).mono g.f) Rps.nil)⟩
  · cases hd
theorem ui_zip {e e2 : Expr} {ta : TA} {ma : En → R (List D)} {p pos tpos : Pos} {elts : List Expr} {kk : Nat} (hm : X.mg "zip" = none) (ha : UA X cl W [e, e2] ta ma) (hg : Gl X "zip" := by rfl)
    (hs : starEach [e, e2] X.env = (false, eval e X.env) :: starEach [e2] X.env := by rfl) (hpl : (backTo pos (starEach [e2] X.env)).any (·.1) = false := by rfl) :
    UI X cl W true (.Tuple elts kk tpos) (.Call (.Name "zip" p) [e, e2] [] pos) (iZip X.K ta) (d1 dZip ma) := by
  refine ⟨pi_zip hg hm ha.pe hs hpl, fun F0 H0 F H σ ρ Q S p => ha.es F0 H0 F H σ ρ _ S ?_⟩
  unfold d1 at p
  cases e : ma ρ with
  | st => rw [e] at p; exact p
  | er x => rw [e] at p; exact p
  | ok ds =>
    rw [e, R.bind_ok] at p
    intro vs F1 H1 g r
    unfold dZip at p
    split at p
    · rename_i xs ys
      obtain ⟨v, r', rfl, h1, h2⟩ := r.cons_inv
      obtain ⟨v2, r2, rfl, h3, h4⟩ := h2.cons_inv
      rw [h4.nil_inv]
      unfold Rp at h1 h3
      obtain ⟨a, us, rfl, h5, h6⟩ := h1
      obtain ⟨b, ws, rfl, h7, h8⟩ := h3
      exact ⟨a, b, us, ws, rfl, ex_l g.s h5, ex_l g.s h7, p _ F1 H1 g (itr_zip h5 h6 h7 h8)⟩
    · exact False.elim p

/-! ### comprehensions -/
def wipeE (ρ : En) : List Nat → En
  | [] => ρ
  | v :: vs => (wipeE ρ vs).set v .un
theorem Sr.wipe (S : Sr K cl F0 H0 F H σ ρ) : ∀ vs : List Nat, Sr K cl F0 H0 F H (L2.wipe σ vs) (wipeE ρ vs)
  | [] => S
  | v :: vs => (Sr.wipe S vs).un
theorem wipe_in {σ : L2.St} {i : Nat} : ∀ {vs : List Nat}, i ∈ vs → i < σ.length → (L2.wipe σ vs)[i]? = some none
  | [], h, _ => by simp at h
  | v :: vs, h, hl => by
    unfold L2.wipe
    by_cases e : v = i
    · subst e
      exact List.getElem?_set_self (by rw [wipe_length]; exact hl)
    · rw [List.getElem?_set_ne e]
      have : i ∈ vs := by simpa [Ne.symm e] using h
      exact wipe_in this hl
theorem wipe_eq {σ σ2 : L2.St} {vs : List Nat} (hl : σ2.length = σ.length) (h : ∀ k : Nat, k ∉ vs → σ2[k]? = (L2.wipe σ vs)[k]?) : L2.wipe σ2 vs = L2.wipe σ vs := by
  refine List.ext_getElem? fun k => ?_
  by_cases hk : k ∈ vs
  · by_cases hi : k < σ.length
    · rw [wipe_in hk hi, wipe_in hk (by omega)]
    · rw [List.getElem?_eq_none (by rw [wipe_length]; omega), List.getElem?_eq_none (by rw [wipe_length]; omega)]
  · rw [wipe_out hk, h k hk]
def dLcGo (gm : D → En → R En) (tm : En → R Bool) (em : En → R D) (ρw : En) : List D → R (List D)
  | [] => .ok []
  | d :: ds => (gm d ρw).bind fun ρ1 => (tm ρ1).bind fun b => if b = true then (em ρ1).bind fun y => (dLcGo gm tm em ρw ds).bind fun r => .ok (y :: r) else dLcGo gm tm em ρw ds
def noer {α : Type} : R α → R α
  | .ok a => .ok a
  | _ => .st
def dLc (vs : List Nat) (mi : En → R (List D)) (gm : D → En → R En) (tm : En → R Bool) (em : En → R D) : En → R DO := fun ρ =>
  (mi ρ).bind fun ds => if ds.length ≤ SZ then (noer (dLcGo gm tm em (wipeE ρ vs) ds)).bind fun r => .ok (.lst r) else .st
def WF : WX := fun _ _ _ _ => False
structure UTs (X : Cx) (cl : Str → Option Addr) (W : WX) (e : List Expr) (te : TT) (me : En → R Bool) : Prop where
  pe : PTs X e te
  es : ∀ F0 H0 F H σ ρ Q, Sr X.K cl F0 H0 F H σ ρ → PostT X.K cl W σ F H Q (me ρ) → te σ H Q
def dYes : En → R Bool := fun _ => .ok true
theorem uts_nil : UTs X cl W [] tYes dYes := ⟨pts_nil, fun F0 H0 F H σ ρ Q S p => p F H (Grow.refl S.ex)⟩
theorem uts_one {c : Expr} {t : TT} {m : En → R Bool} (h : UT X cl W c t m) : UTs X cl W [c] t m := ⟨pts_one h.pe, h.es⟩
theorem es_lc {wi : TI} {g : TG} {tt : TT} {te : TE} {vs ws : List Nat} {mi : En → R (List D)} {gm : D → En → R En} {tm : En → R Bool} {em : En → R D}
    (hi : ∀ F0 H0 F H σ ρ Q, Sr K cl F0 H0 F H σ ρ → PostI K cl W false σ F H Q (mi ρ) → wi σ H Q)
    (hg : ∀ F0 H0 F H σ ρ v d Q, Sr K cl F0 H0 F H σ ρ → Rp K cl F v d → PostG K cl F0 H0 F H σ ws Q (gm d ρ) → g v σ H Q)
    (ht : ∀ F0 H0 F H σ ρ Q, Sr K cl F0 H0 F H σ ρ → PostT K cl WF σ F H Q (tm ρ) → tt σ H Q)
    (he : ∀ F0 H0 F H σ ρ Q, Sr K cl F0 H0 F H σ ρ → Post K cl WF σ F H Q (em ρ) → te σ H Q) (hws : ∀ k ∈ ws, k ∈ vs) :
    ∀ F0 H0 F H σ ρ Q, Sr K cl F0 H0 F H σ ρ → PostN K cl W σ F H Q (dLc vs mi gm tm em ρ) → tLc wi g tt te vs σ H Q := by
  intro F0 H0 F H σ ρ Q S p
  unfold dLc at p
  refine hi F0 H0 F H σ ρ _ S ?_
  cases e : mi ρ with
  | st => rw [e] at p; exact p
  | er x => rw [e] at p; exact p
  | ok ds =>
    rw [e, R.bind_ok] at p
    by_cases hz : ds.length ≤ SZ
    rotate_left
    · rw [if_neg hz] at p; exact p.elim
    rw [if_pos hz] at p
    cases e2 : dLcGo gm tm em (wipeE ρ vs) ds with
    | st => rw [e2] at p; exact p.elim
    | er x => rw [e2] at p; exact p.elim
    | ok fin =>
    rw [e2] at p
    have p : PostN K cl W σ F H Q (.ok (.lst fin)) := p
    intro J F1 H1 g1 it A hA
    refine ⟨fun i m H2 => m = ds.length - i ∧ i ≤ ds.length ∧ ∃ F2 acc accV r, Grow F1 H1 F2 H2 ∧ F2 A = none ∧ H2 A = some (.lst accV) ∧ Rps K cl F2 accV acc ∧ acc.length ≤ i ∧ dLcGo gm tm em (wipeE ρ vs) (ds.drop i) = .ok r ∧ acc ++ r = fin,
      ⟨ds.length, by simp, Nat.zero_le _, F1, [], [], fin, Grow.lay' g1.s hA, Grow.fnone g1.s hA, upd_same, Rps.nil, Nat.le_refl _, by simpa using e2, rfl⟩, ?_⟩
    rintro i m H2 ⟨rfl, hi, F2, acc, accV, r, g2, fA, hA2, ra, hacc, hgo, hfin⟩
    have I := it F2 H2 i g2.f g2.s g2.h
    by_cases hlt : i < ds.length
    · have hd : ds[i]? = some ds[i] := List.getElem?_eq_getElem hlt
      obtain ⟨go, yl⟩ := I.1 _ hd
      rw [List.drop_eq_getElem_cons hlt] at hgo
      refine .inr ⟨go, fun H' => ∃ F2 acc accV r, Grow F1 H1 F2 H' ∧ F2 A = none ∧ H' A = some (.lst accV) ∧ Rps K cl F2 accV acc ∧ acc.length ≤ i + 1 ∧ dLcGo gm tm em (wipeE ρ vs) (ds.drop (i + 1)) = .ok r ∧ acc ++ r = fin,
        fun H' n => ⟨ds.length - (i + 1), by omega, rfl, hlt, n⟩, fun x H3 y => ?_⟩
      obtain ⟨F3, g3, r3⟩ := yl x H3 y
      have Sw : Sr K cl F0 H0 F3 H3 (L2.wipe σ vs) (wipeE ρ vs) := ((S.mono ((g1.trans g2).trans g3))).wipe vs
      unfold dLcGo at hgo
      refine hg F0 H0 F3 H3 _ _ x _ _ Sw r3 ?_
      cases eg : gm ds[i] (wipeE ρ vs) with
      | st => rw [eg] at hgo; cases hgo
      | er x => rw [eg] at hgo; cases hgo
      | ok ρ1 =>
        rw [eg, R.bind_ok] at hgo
        intro σ2 S2 hl2 hk2
        refine ⟨wipe_eq (by rw [hl2, wipe_length]) fun k hk => hk2 k fun q => hk (hws k q), ?_⟩
        refine ht F0 H0 F3 H3 σ2 ρ1 _ S2 ?_
        cases et : tm ρ1 with
        | st => rw [et] at hgo; cases hgo
        | er x => rw [et] at hgo; cases hgo
        | ok b =>
          rw [et, R.bind_ok] at hgo
          intro F4 H4 g4
          have hA4 : H4 A = some (.lst accV) := g4.h _ _ (g3.h _ _ hA2)
          have fA4 : F4 A = none := g4.n _ _ (g3.h _ _ hA2) (g3.n _ _ hA2 fA)
          cases b with
          | false =>
            exact ⟨F4, acc, accV, r, (g2.trans g3).trans g4, fA4, hA4, (ra.mono g3.f).mono g4.f, by omega, hgo, hfin⟩
          | true =>
            have hgo : ((em ρ1).bind fun y => (dLcGo gm tm em (wipeE ρ vs) (ds.drop (i + 1))).bind fun r => .ok (y :: r)) = .ok r := hgo
            show te σ2 H4 _
            refine he F0 H0 F4 H4 σ2 ρ1 _ (S2.mono g4) ?_
            cases ee : em ρ1 with
            | st => rw [ee] at hgo; cases hgo
            | er x => rw [ee] at hgo; cases hgo
            | ok y =>
              rw [ee, R.bind_ok] at hgo
              intro v F5 H5 g5 r5
              have hA5 : H5 A = some (.lst accV) := g5.h _ _ hA4
              have fA5 : F5 A = none := g5.n _ _ hA4 fA4
              have ra5 : Rps K cl F5 accV acc := ((ra.mono g3.f).mono g4.f).mono g5.f
              cases e6 : dLcGo gm tm em (wipeE ρ vs) (ds.drop (i + 1)) with
              | st => rw [e6] at hgo; cases hgo
              | er x => rw [e6] at hgo; cases hgo
              | ok r' =>
                rw [e6] at hgo
                cases hgo
                refine ⟨accV, hA5, sz_lt (by rw [ra5.length]; omega), F5, acc ++ [y], accV ++ [v], r', ?_, fA5, upd_same, ra5.append (Rps.cons r5 Rps.nil), by rw [List.length_append]; simp; omega, rfl, by rw [List.append_assoc]; exact hfin⟩
                have g6 := ((g2.trans g3).trans g4).trans g5
                refine ⟨g6.f, fun a u q => ?_, fun a u q => ?_, g6.n⟩
                · have : a ≠ A := fun z => by rw [z, fA5] at q; cases q
                  rw [upd_ne this]; exact g6.s a u q
                · have : a ≠ A := fun z => by rw [z, hA] at q; cases q
                  rw [upd_ne this]; exact g6.h a u q
    · have e : i = ds.length := by omega
      subst e
      refine .inl ⟨I.2 (Nat.le_refl _), ?_⟩
      rw [List.drop_length] at hgo
      cases hgo
      rw [List.append_nil] at hfin
      subst hfin
      exact p A (.lst accV) F2 H2 (g1.trans g2) (g1.old A hA) fA hA2 ⟨accV, rfl, ra⟩
variable {elt tg iter : Expr} {ifs : List Expr} {scope : Scope} {own : List (Str × Nat)} {pos : Pos} {wi : TI} {g : TG} {tt : TT} {te : TE} {ws : List Nat} {mi : En → R (List D)} {gm : D → En → R En} {tm : En → R Bool} {em : En → R D}
/-- readings made from the mirrors -/
def tStar (K : PySem.W.Frag) (cl : Str → Option Addr) (W : WX) (me : En → R D) : TE := fun σ H Q => ∃ F0 H0 F ρ, Sr K cl F0 H0 F H σ ρ ∧ Post K cl W σ F H Q (me ρ)
def ttStar (K : PySem.W.Frag) (cl : Str → Option Addr) (W : WX) (me : En → R Bool) : TT := fun σ H Q => ∃ F0 H0 F ρ, Sr K cl F0 H0 F H σ ρ ∧ PostT K cl W σ F H Q (me ρ)
def gStar (K : PySem.W.Frag) (cl : Str → Option Addr) (ws : List Nat) (gm : D → En → R En) : TG := fun v σ H Q => ∃ F0 H0 F ρ d, Sr K cl F0 H0 F H σ ρ ∧ Rp K cl F v d ∧ PostG K cl F0 H0 F H σ ws Q (gm d ρ)
theorem UE.star {X : Cx} {e : Expr} {te : TE} {me : En → R D} (h : UE X cl W e te me) : UE X cl W e (tStar X.K cl W me) me :=
  ⟨⟨fun pins s σ H Q I ⟨F0, H0, F, ρ, S, p⟩ => h.pe.run pins s σ H Q I (h.es F0 H0 F H σ ρ Q S p)⟩, fun F0 H0 F H σ ρ Q S p => ⟨F0, H0, F, ρ, S, p⟩⟩
theorem UTs.star {X : Cx} {e : List Expr} {te : TT} {me : En → R Bool} (h : UTs X cl W e te me) : UTs X cl W e (ttStar X.K cl W me) me :=
  ⟨⟨fun pins s σ H Q I ⟨F0, H0, F, ρ, S, p⟩ => h.pe.run pins s σ H Q I (h.es F0 H0 F H σ ρ Q S p)⟩, fun F0 H0 F H σ ρ Q S p => ⟨F0, H0, F, ρ, S, p⟩⟩
theorem UG.star {X : Cx} {e : Expr} {g : TG} {gm : D → En → R En} {ws : List Nat} (h : UG X cl e g gm ws) : UG X cl e (gStar X.K cl ws gm) gm ws :=
  ⟨⟨fun pins s σ H v u Q I r ⟨F0, H0, F, ρ, d, S, rp, p⟩ => h.pe.run pins s σ H v u Q I r (h.es F0 H0 F H σ ρ v d Q S rp p)⟩, fun F0 H0 F H σ ρ v d Q S rp p => ⟨F0, H0, F, ρ, d, S, rp, p⟩⟩
theorem un_lc {vs : List Nat} (hc : X.calm = true) (hN : X.N.Nodup) (hi : UI X cl W false tg iter wi mi) (ok : BlkOk X.N X.env.scope scope own) (hws : ∀ k ∈ ws, k ∈ own.map (·.2))
    (hg : ∀ (s : Shared) (H : Hp) (C : Addr) (cs : List (Str × Addr)) (fp : List Addr), ∃ g, UG (X.blk s H scope (compEnvC scope cs C X.env) fp) cl tg g gm ws)
    (ht : ∀ (s : Shared) (H : Hp) (C : Addr) (cs : List (Str × Addr)) (fp : List Addr), ∃ tt, UTs (X.blk s H scope (compEnvC scope cs C X.env) fp) cl WF ifs tt tm)
    (he : ∀ (s : Shared) (H : Hp) (C : Addr) (cs : List (Str × Addr)) (fp : List Addr), ∃ te, UE (X.blk s H scope (compEnvC scope cs C X.env) fp) cl WF elt te em) (hvs : own.map (·.2) = vs) (hs : ∀ x, foldedSetIterable iter X.env x = pure x := by intro _; rfl) :
    UN X cl W (.ListComp elt [⟨tg, iter, ifs, 0⟩] scope pos) (tLc wi (gStar X.K cl ws gm) (ttStar X.K cl WF tm) (tStar X.K cl WF em) (own.map (·.2))) (dLc vs mi gm tm em) := by
  subst hvs
  have hg' : ∀ (s : Shared) (H : Hp) (C : Addr) (cs : List (Str × Addr)) (fp : List Addr), UG (X.blk s H scope (compEnvC scope cs C X.env) fp) cl tg (gStar X.K cl ws gm) gm ws := fun s H C cs fp => (hg s H C cs fp).elim fun _ h => h.star
  have ht' : ∀ (s : Shared) (H : Hp) (C : Addr) (cs : List (Str × Addr)) (fp : List Addr), UTs (X.blk s H scope (compEnvC scope cs C X.env) fp) cl WF ifs (ttStar X.K cl WF tm) tm := fun s H C cs fp => (ht s H C cs fp).elim fun _ h => h.star
  have he' : ∀ (s : Shared) (H : Hp) (C : Addr) (cs : List (Str × Addr)) (fp : List Addr), UE (X.blk s H scope (compEnvC scope cs C X.env) fp) cl WF elt (tStar X.K cl WF em) em := fun s H C cs fp => (he s H C cs fp).elim fun _ h => h.star
  exact ⟨pe_lc hc hN hi.pe ok (fun s H C cs fp => (hg' s H C cs fp).pe) (fun s H C cs fp => (ht' s H C cs fp).pe) (fun s H C cs fp => (he' s H C cs fp).pe) hs,
    es_lc hi.es (hg' X.s_0 X.H_0 0 [] []).es (ht' X.s_0 X.H_0 0 [] []).es (he' X.s_0 X.H_0 0 [] []).es hws⟩
end
end UP
namespace UP
open PySem L2 PyProof.Rows
/-- what F' adds holds no tuple -/
def NoTup (F F' : Hp) : Prop := ∀ a vs, F a = none → F' a ≠ some (.tup vs)
theorem NoTup.refl {F : Hp} : NoTup F F := fun a vs h => by rw [h]; exact fun z => nomatch z
theorem NoTup.trans {F F1 F2 : Hp} (a : NoTup F F1) (b : NoTup F1 F2) (e : Ex F1 F2) : NoTup F F2 := fun x vs h z => by
  cases q : F1 x with
  | none => exact b x vs q z
  | some o =>
    have := e _ _ q
    rw [z] at this
    cases this
    exact a x vs h q
section
variable {X : Cx} {cl : Str → Option Addr} {W : WX} {K : PySem.W.Frag} {F0 H0 F H F' H' : Hp} {σ : L2.St} {ρ : En}
theorem Sr.unE {i : Nat} (S : Sr K cl F0 H0 F H σ ρ) : Sr K cl F0 H0 F H σ (ρ.set i .un) := by
  by_cases hi : i < σ.length
  · have := S.un (i := i) (u := σ[i])
    rw [List.set_getElem_self] at this
    exact this
  · have : ρ.set i .un = ρ := List.set_eq_of_length_le (by have := S.len; omega)
    rw [this]; exact S
theorem Sr.new_tr {q : Addr} (S : Sr K cl F0 H0 F H σ ρ) (g : Grow F H F' H') (hq : H q = none) : ∀ (j : Nat) (t : DT) (v : V) (fp : List Addr), ρ[j]? = some (.tr t) → σ[j]? = some (some v) → Tr K cl F' H' v t fp → q ∉ fp := fun j t v fp e1 e2 h hm => by
  obtain ⟨ω, h1, h2, h3⟩ := S.tr
  obtain ⟨v', q1, q2, q3, q4⟩ := h1 j t e1
  rw [e2] at q1; cases q1
  have := h.fn (q2.mono g.f fun a ha => by
    obtain ⟨u, hu⟩ := q2.here a ha
    rw [g.h a u hu, hu])
  rw [this] at hm
  obtain ⟨u, hu⟩ := q2.here q hm
  rw [hq] at hu; cases hu
theorem set_un {i j : Nat} {q : Sl} (e : (ρ.set i .un)[j]? = some q) (hq : q ≠ .un) : j ≠ i ∧ ρ[j]? = some q := by
  by_cases h : i = j
  · subst h
    rw [List.getElem?_set] at e
    simp only [if_true] at e
    split at e <;> cases e
    exact absurd rfl hq
  · rw [List.getElem?_set_ne h] at e
    exact ⟨fun q => h q.symm, e⟩
theorem tr_ne {t : DT} : Sl.tr t ≠ .un := fun z => nomatch z
theorem own_ne {o : DO} : Sl.own o ≠ .un := fun z => nomatch z
theorem TrOk.notin {ρ' : En} {i : Nat} {o : DO} {p : Addr} (T : TrOk K cl H0 F H σ ρ) (hi : ρ[i]? = some (.own o)) (hp : σ[i]? = some (some (.ref p))) (hF : Ex F F') (hH : ∀ (a : Addr) (u : HO), H a = some u → F a = none → H0 a = none → a ≠ p → H' a = H a)
    (hρ : ∀ (j : Nat) (t : DT), ρ'[j]? = some (.tr t) → ρ[j]? = some (.tr t)) : ∀ (j : Nat) (t : DT) (v : V) (fp : List Addr), ρ'[j]? = some (.tr t) → σ[j]? = some (some v) → Tr K cl F' H' v t fp → p ∉ fp := fun j t v fp e1 e2 h hm => by
  obtain ⟨ω, h1, h2, h3⟩ := T
  have e1 := hρ j t e1
  obtain ⟨v', q1, q2, q3, q4⟩ := h1 j t e1
  rw [e2] at q1; cases q1
  have np := h3 j i t o p e1 hi hp
  have := h.fn (q2.mono hF fun a ha => by
    obtain ⟨u, hu⟩ := q2.here a ha
    exact hH a u hu (q4 a ha).1 (q4 a ha).2 fun z => np (z ▸ ha))
  rw [this] at hm
  exact np hm
/-! ### trees of ours become frozen -/
mutual
def frzD : DT → D
  | .fz d => d
  | .lst ts => .lst (frzDs ts)
  | .tup ts => .tup (frzDs ts)
  | .dk ks ts => .dk ks (frzDs ts)
  | .ob c ns ts => .obj c ns (frzDs ts)
def frzDs : List DT → List D
  | [] => []
  | t :: ts => frzD t :: frzDs ts
end
mutual
def noT : DT → Bool
  | .fz _ => true
  | .lst ts => noTs ts
  | .tup _ => false
  | .dk _ ts => noTs ts
  | .ob _ _ ts => noTs ts
def noTs : List DT → Bool
  | [] => true
  | t :: ts => noT t && noTs ts
end
mutual
theorem Tr.rp (e : Ex F F') : ∀ {v : V} {t : DT} {fp : List Addr}, Tr K cl F H v t fp → (∀ a ∈ fp, F' a = H a) → Rp K cl F' v (frzD t)
  | v, .fz d, fp, h, _ => by unfold Tr at h; unfold frzD; exact h.2.mono e
  | v, .lst ts, fp, h, q => by
    unfold Tr at h; unfold frzD Rp
    obtain ⟨a, vs, fq, rfl, h1, rfl, h2⟩ := h
    exact ⟨a, vs, rfl, SqL.of (by rw [q a (by simp)]; exact h1), Trs.rp e h2 fun b hb => q b (by simp [hb])⟩
  | v, .tup ts, fp, h, q => by
    unfold Tr at h; unfold frzD Rp
    obtain ⟨a, vs, fq, rfl, h1, rfl, h2⟩ := h
    exact ⟨a, vs, rfl, by rw [q a (by simp)]; exact h1, Trs.rp e h2 fun b hb => q b (by simp [hb])⟩
  | v, .dk ks ts, fp, h, q => by
    unfold Tr at h; unfold frzD Rp
    obtain ⟨a, vs, fq, rfl, h1, hl, rfl, h2⟩ := h
    exact ⟨a, vs, rfl, by rw [q a (by simp)]; exact h1, hl, Trs.rp e h2 fun b hb => q b (by simp [hb])⟩
  | v, .ob c ns ts, fp, h, q => by
    unfold Tr at h; unfold frzD Rp
    obtain ⟨a, C, dx, vs, fq, rfl, h0, h1, hl, rfl, h2⟩ := h
    exact ⟨a, C, dx, vs, rfl, h0, by rw [q a (by simp)]; exact h1, hl, Trs.rp e h2 fun b hb => q b (by simp [hb])⟩
theorem Trs.rp (e : Ex F F') : ∀ {vs : List V} {ts : List DT} {fp : List Addr}, Trs K cl F H vs ts fp → (∀ a ∈ fp, F' a = H a) → Rps K cl F' vs (frzDs ts)
  | vs, [], fp, h, _ => by unfold Trs at h; unfold frzDs; rw [h.1]; exact Rps.nil
  | vs, t :: ts, fp, h, q => by
    unfold Trs at h; unfold frzDs
    obtain ⟨v, r, f1, f2, rfl, rfl, h1, h2⟩ := h
    exact Rps.cons (Tr.rp e h1 fun a ha => q a (by simp [ha])) (Trs.rp e h2 fun a ha => q a (by simp [ha]))
end
mutual
theorem Tr.noTup : ∀ {v : V} {t : DT} {fp : List Addr}, Tr K cl F H v t fp → noT t = true → ∀ a ∈ fp, ∀ vs, H a ≠ some (.tup vs)
  | v, .fz d, fp, h, _, a, ha => by unfold Tr at h; rw [h.1] at ha; cases ha
  | v, .lst ts, fp, h, n, b, hb => by
    unfold Tr at h; unfold noT at n
    obtain ⟨a, vs, fq, rfl, h1, rfl, h2⟩ := h
    rcases List.mem_cons.mp hb with e | e
    · intro us z; rw [e, h1] at z; cases z
    · exact Trs.noTup h2 n b e
  | v, .tup ts, fp, h, n, b, hb => by unfold noT at n; cases n
  | v, .dk ks ts, fp, h, n, b, hb => by
    unfold Tr at h; unfold noT at n
    obtain ⟨a, vs, fq, rfl, h1, hl, rfl, h2⟩ := h
    rcases List.mem_cons.mp hb with e | e
    · intro us z; rw [e, h1] at z; cases z
    · exact Trs.noTup h2 n b e
  | v, .ob c ns ts, fp, h, n, b, hb => by
    unfold Tr at h; unfold noT at n
    obtain ⟨a, C, dx, vs, fq, rfl, h0, h1, hl, rfl, h2⟩ := h
    rcases List.mem_cons.mp hb with e | e
    · intro us z; rw [e, h1] at z; cases z
    · exact Trs.noTup h2 n b e
theorem Trs.noTup : ∀ {vs : List V} {ts : List DT} {fp : List Addr}, Trs K cl F H vs ts fp → noTs ts = true → ∀ a ∈ fp, ∀ us, H a ≠ some (.tup us)
  | vs, [], fp, h, _, a, ha => by unfold Trs at h; rw [h.2] at ha; cases ha
  | vs, t :: ts, fp, h, n, a, ha => by
    unfold Trs at h; unfold noTs at n
    rw [Bool.and_eq_true] at n
    obtain ⟨v, r, f1, f2, rfl, rfl, h1, h2⟩ := h
    rcases List.mem_append.mp ha with e | e
    · exact Tr.noTup h1 n.1 a e
    · exact Trs.noTup h2 n.2 a e
end
theorem set_keep {i : Nat} {v : Option V} (hv : σ[i]? = some v) : σ.set i v = σ := by
  refine List.ext_getElem? fun k => ?_
  by_cases hk : i = k
  · subst hk; rw [List.getElem?_set_self (List.getElem?_eq_some_iff.mp hv).1, hv]
  · rw [List.getElem?_set_ne hk]
theorem Sr.frzTr {i : Nat} {t : DT} (S : Sr K cl F0 H0 F H σ ρ) (hi : ρ[i]? = some (.tr t)) : ∃ F', Ex F F' ∧ (noT t = true → NoTup F F') ∧ Sr K cl F0 H0 F' H σ (ρ.set i (.val (frzD t))) := by
  obtain ⟨ω, h1, h2, h3⟩ := S.tr
  obtain ⟨v, hv, hT, hn, hz⟩ := h1 i t hi
  let F' : Hp := fun a => if a ∈ ω i then H a else F a
  have in_ : ∀ {a}, a ∈ ω i → F' a = H a := fun h => if_pos h
  have out : ∀ {a}, a ∉ ω i → F' a = F a := fun h => if_neg h
  have ex : Ex F F' := fun a o e => by
    have : a ∉ ω i := fun z => by rw [(hz a z).1] at e; cases e
    rw [out this]; exact e
  refine ⟨F', ex, fun hq a vs e z => ?_, ?_⟩
  · by_cases ha : a ∈ ω i
    · rw [in_ ha] at z; exact hT.noTup hq a ha vs z
    · rw [out ha, e] at z; cases z
  have g : Grow F0 H0 F' H := ⟨S.grow.f.trans ex, fun a o e => by
    by_cases ha : a ∈ ω i
    · rw [in_ ha] at e; exact e
    · rw [out ha] at e; exact S.grow.s a o e, S.grow.h, fun a o e z => by
    have : a ∉ ω i := fun w => by rw [(hz a w).2] at e; cases e
    rw [out this]; exact S.grow.n a o e z⟩
  have S0 := S.unE (i := i)
  have S1 : Sr K cl F0 H0 F' H σ (ρ.set i .un) := by
    refine ⟨g, S0.len, fun j d e => ?_, fun j o e => ?_, S0.dis, ω, fun j t' e => ?_, fun j k t1 t2 a e1 e2 => h2 j k t1 t2 a (set_un e1 tr_ne).2 (set_un e2 tr_ne).2, fun j k t1 o p e1 e2 => h3 j k t1 o p (set_un e1 tr_ne).2 (set_un e2 own_ne).2⟩
    · obtain ⟨u, q1, q2⟩ := S0.val j d e
      exact ⟨u, q1, q2.mono ex⟩
    · obtain ⟨p, ho, q1, q2, q3, q4, q5⟩ := S0.own j o e
      have : p ∉ ω i := h3 i j t o p hi (set_un e own_ne).2 q1
      exact ⟨p, ho, q1, by rw [out this]; exact q2, q3, q4.mono ex, q5⟩
    · obtain ⟨hji, e'⟩ := set_un e tr_ne
      obtain ⟨u, q1, q2, q3, q4⟩ := h1 j t' e'
      exact ⟨u, q1, q2.mono ex fun _ _ => rfl, q3, fun a ha => ⟨by rw [out fun w => hji (h2 j i t' t a e' hi ha w)]; exact (q4 a ha).1, (q4 a ha).2⟩⟩
  have S2 := S1.set (i := i) (hT.rp ex fun a ha => in_ ha)
  rw [List.set_set, set_keep hv] at S2
  exact S2
/-- a tree of ours, new in a slot -/
theorem Sr.setTr {i : Nat} {v : V} {t : DT} {fp : List Addr} (S : Sr K cl F0 H0 F H σ ρ) (hT : Tr K cl F H v t fp) (hn : fp.Nodup) (hz : ∀ a ∈ fp, F a = none ∧ H0 a = none)
    (hd : ∀ (j : Nat) (o : DO) (p : Addr), ρ[j]? = some (.own o) → σ[j]? = some (some (.ref p)) → p ∉ fp)
    (ht : ∀ (j : Nat) (t' : DT) (v' : V) (fq : List Addr) (a : Addr), ρ[j]? = some (.tr t') → σ[j]? = some (some v') → Tr K cl F H v' t' fq → a ∈ fq → a ∉ fp) :
    Sr K cl F0 H0 F H (σ.set i (some v)) (ρ.set i (.tr t)) := by
  have hl := S.len
  by_cases hi : i < ρ.length
  rotate_left
  · rw [List.set_eq_of_length_le (by omega), List.set_eq_of_length_le (by omega)]; exact S
  have ne : ∀ {j : Nat} {q : Sl}, (ρ.set i (.tr t))[j]? = some q → (j = i ∧ q = .tr t) ∨ (j ≠ i ∧ ρ[j]? = some q) := fun {j q} e => by
    by_cases h : i = j
    · subst h
      rw [List.getElem?_set_self hi] at e
      cases e
      exact .inl ⟨rfl, rfl⟩
    · rw [List.getElem?_set_ne h] at e
      exact .inr ⟨fun z => h z.symm, e⟩
  obtain ⟨ω, h1, h2, h3⟩ := S.tr
  have tf : ∀ (j : Nat) (t' : DT), ρ[j]? = some (.tr t') → ∀ a ∈ ω j, a ∉ fp := fun j t' e a ha => by
    obtain ⟨u, q1, q2, _⟩ := h1 j t' e
    exact ht j t' u _ a e q1 q2 ha
  obtain ⟨ω', wi, wj⟩ : ∃ ω' : Nat → List Addr, ω' i = fp ∧ ∀ j, j ≠ i → ω' j = ω j := ⟨fun j => if j = i then fp else ω j, if_pos rfl, fun j h => if_neg h⟩
  refine ⟨S.grow, by simp [hl], fun j d e => ?_, fun j o e => ?_, fun j k o o' p e1 e2 e3 e4 => ?_, ω', fun j t' e => ?_, fun j k t1 t2 a e1 e2 z1 z2 => ?_, fun j k t' o p e1 e2 e3 hp => ?_⟩
  · rcases ne e with ⟨_, z⟩ | ⟨h, e⟩
    · cases z
    · obtain ⟨u, q1, q2⟩ := S.val j d e
      exact ⟨u, by rw [List.getElem?_set_ne (Ne.symm h)]; exact q1, q2⟩
  · rcases ne e with ⟨_, z⟩ | ⟨h, e⟩
    · cases z
    · obtain ⟨p, ho, q1, q2⟩ := S.own j o e
      exact ⟨p, ho, by rw [List.getElem?_set_ne (Ne.symm h)]; exact q1, q2⟩
  · rcases ne e1 with ⟨_, z⟩ | ⟨n1, e1⟩
    · cases z
    · rcases ne e2 with ⟨_, z⟩ | ⟨n2, e2⟩
      · cases z
      · rw [List.getElem?_set_ne (Ne.symm n1)] at e3
        rw [List.getElem?_set_ne (Ne.symm n2)] at e4
        exact S.dis j k o o' p e1 e2 e3 e4
  · rcases ne e with ⟨q, z⟩ | ⟨h, e⟩
    · cases z; rw [q, wi]
      exact ⟨v, List.getElem?_set_self (by omega), hT, hn, hz⟩
    · rw [wj j h, List.getElem?_set_ne (Ne.symm h)]
      exact h1 j t' e
  · rcases ne e1 with ⟨q1, _⟩ | ⟨n1, e1⟩
    · rcases ne e2 with ⟨q2, _⟩ | ⟨n2, e2⟩
      · rw [q1, q2]
      · rw [q1, wi] at z1
        rw [wj k n2] at z2
        exact absurd z1 (tf k t2 e2 a z2)
    · rcases ne e2 with ⟨q2, _⟩ | ⟨n2, e2⟩
      · rw [wj j n1] at z1
        rw [q2, wi] at z2
        exact absurd z2 (tf j t1 e1 a z1)
      · rw [wj j n1] at z1
        rw [wj k n2] at z2
        exact h2 j k t1 t2 a e1 e2 z1 z2
  · rcases ne e2 with ⟨_, z⟩ | ⟨n2, e2⟩
    · cases z
    · rw [List.getElem?_set_ne (Ne.symm n2)] at e3
      rcases ne e1 with ⟨q1, _⟩ | ⟨n1, e1⟩
      · rw [q1, wi] at hp
        exact hd k o p e2 e3 hp
      · rw [wj j n1] at hp
        exact h3 j k t' o p e1 e2 e3 hp
/-- a tree of ours is changed: only at its own places, or at places that are new -/
theorem Sr.trW {i : Nat} {v : V} {t t' : DT} {fp fp' : List Addr} (S : Sr K cl F0 H0 F H σ ρ) (hi : ρ[i]? = some (.tr t)) (hv : σ[i]? = some (some v)) (hT : Tr K cl F H v t fp)
    (hH : ∀ a, a ∉ fp → H' a = H a) (hT' : Tr K cl F H' v t' fp') (hn : fp'.Nodup)
    (hs : ∀ a ∈ fp', a ∈ fp ∨ (F a = none ∧ H0 a = none ∧ (∀ (j : Nat) (o : DO) (p : Addr), ρ[j]? = some (.own o) → σ[j]? = some (some (.ref p)) → p ≠ a) ∧
      ∀ (j : Nat) (t' : DT) (v' : V) (fq : List Addr), ρ[j]? = some (.tr t') → σ[j]? = some (some v') → Tr K cl F H v' t' fq → a ∉ fq)) : Sr K cl F0 H0 F H' σ (ρ.set i (.tr t')) := by
  obtain ⟨ω, h1, h2, h3⟩ := S.tr
  obtain ⟨u, q1, q2, q3, q4⟩ := h1 i t hi
  rw [hv] at q1; cases q1
  have := hT.fn q2
  subst this
  have ne : ∀ {a : Addr} {o : HO}, F a = some o → a ∉ ω i := fun {a o} e z => by rw [(q4 a z).1] at e; cases e
  have ne0 : ∀ {a : Addr} {o : HO}, H0 a = some o → a ∉ ω i := fun {a o} e z => by rw [(q4 a z).2] at e; cases e
  have S0 := S.unE (i := i)
  have S1 : Sr K cl F0 H0 F H' σ (ρ.set i .un) := by
    refine ⟨⟨S.grow.f, fun a o e => by rw [hH a (ne e)]; exact S.grow.s a o e, fun a o e => by rw [hH a (ne0 e)]; exact S.grow.h a o e, S.grow.n⟩, S0.len, S0.val, fun j o e => ?_, S0.dis, ω, fun j t' e => ?_, fun j k t1 t2 a e1 e2 => h2 j k t1 t2 a (set_un e1 tr_ne).2 (set_un e2 tr_ne).2, fun j k t1 o p e1 e2 => h3 j k t1 o p (set_un e1 tr_ne).2 (set_un e2 own_ne).2⟩
    · obtain ⟨p, ho, w1, w2, w3, w4, w5⟩ := S0.own j o e
      have : p ∉ ω i := h3 i j t o p hi (set_un e own_ne).2 w1
      exact ⟨p, ho, w1, w2, by rw [hH p this]; exact w3, w4, w5⟩
    · obtain ⟨hji, e'⟩ := set_un e tr_ne
      obtain ⟨u, w1, w2, w3, w4⟩ := h1 j t' e'
      exact ⟨u, w1, w2.mono (Ex.refl _) fun a ha => hH a fun w => hji (h2 j i t' t a e' hi ha w), w3, w4⟩
  have S2 := S1.setTr (i := i) hT' hn (fun a ha => (hs a ha).elim (q4 a) fun z => ⟨z.1, z.2.1⟩) (fun j o p e1 e2 hp => (hs p hp).elim (h3 i j t o p hi (set_un e1 own_ne).2 e2) fun z => z.2.2.1 j o p (set_un e1 own_ne).2 e2 rfl) fun j t1 v1 fq a e1 e2 e3 ha hp => by
    obtain ⟨hji, e1'⟩ := set_un e1 tr_ne
    obtain ⟨u, w1, w2, w3, w4⟩ := h1 j t1 e1'
    rw [e2] at w1; cases w1
    have := e3.fn (w2.mono (Ex.refl _) fun b hb => hH b fun w => hji (h2 j i t1 t b e1' hi hb w))
    rw [this] at ha
    rcases hs a hp with z | z
    · exact hji (h2 j i t1 t a e1' hi ha z)
    · exact z.2.2.2 j t1 v1 _ e1' e2 w2 ha
  rw [List.set_set, set_keep hv] at S2
  exact S2
end
end UP
namespace UP
open PySem L2 PyProof.Rows
inductive Fl (α : Type) where
  | nx (ρ : En) | rt (a : α) (ρ : En) | bk (ρ : En) | ct (ρ : En) | er (x : Exc) (ρ : En) | st
/-- slots whose address stays -/
def Pin (mp : List (Nat × Addr)) (σ : L2.St) : Prop := ∀ q ∈ mp, σ[q.1]? = some (some (.ref q.2))
/-- what is wanted of what is told back -/
abbrev RPt (α : Type) := Hp → Hp → VK → α → En → Prop
def RPV (K : PySem.W.Frag) (cl : Str → Option Addr) (mp : List (Nat × Addr)) : RPt D := fun F0 H0 rt d ρ => ∀ v σ F H, Sr K cl F0 H0 F H σ ρ → Pin mp σ → Rp K cl F v d → rt v H
def RPN (K : PySem.W.Frag) (cl : Str → Option Addr) (mp : List (Nat × Addr)) : RPt DO := fun F0 H0 rt o ρ => ∀ p ho σ F H, Sr K cl F0 H0 F H σ ρ → Pin mp σ → F p = none → H p = some ho → HR K cl F ho o → H0 p = none → rt (.ref p) H
def PostS {α : Type} (K : PySem.W.Frag) (cl : Str → Option Addr) (W : WX) (mp : List (Nat × Addr)) (RP : RPt α) (F0 H0 F : Hp) (Dn : Ends) : Fl α → Prop
  | .nx ρ => ∀ σ F' H', Ex F F' → Sr K cl F0 H0 F' H' σ ρ → Pin mp σ → Dn.nx σ H'
  | .bk ρ => ∀ σ F' H', Ex F F' → Sr K cl F0 H0 F' H' σ ρ → Pin mp σ → Dn.bk σ H'
  | .ct ρ => ∀ σ F' H', Ex F F' → Sr K cl F0 H0 F' H' σ ρ → Pin mp σ → Dn.ct σ H'
  | .rt a ρ => RP F0 H0 Dn.rt a ρ
  | .er x ρ => ∀ cls dd σ F' H', Ex F F' → Sr K cl F0 H0 F' H' σ ρ → Pin mp σ → ExR K cl F' x cls dd → W cls dd σ H'
  | .st => False
section
variable {α : Type} {X : Cx} {cl : Str → Option Addr} {W : WX} {K : PySem.W.Frag} {F0 H0 F H F' H' : Hp} {σ : L2.St} {ρ : En} {mp : List (Nat × Addr)} {RP : RPt α} {Dn : Ends}
theorem PostS.mono {r : Fl α} (h : PostS K cl W mp RP F0 H0 F Dn r) (e : Ex F F') : PostS K cl W mp RP F0 H0 F' Dn r := by
  cases r with
  | nx ρ => exact fun σ F2 H2 e2 => h σ F2 H2 (e.trans e2)
  | bk ρ => exact fun σ F2 H2 e2 => h σ F2 H2 (e.trans e2)
  | ct ρ => exact fun σ F2 H2 e2 => h σ F2 H2 (e.trans e2)
  | er x ρ => exact fun c d σ F2 H2 e2 => h c d σ F2 H2 (e.trans e2)
  | rt a ρ => exact h
  | st => exact h
structure US (X : Cx) (cl : Str → Option Addr) (W : WX) (mp : List (Nat × Addr)) (RP : RPt α) (s : Stmt) (t : TS) (m : En → Fl α) : Prop where
  pe : PS X s t
  es : ∀ F0 H0 F H σ ρ Dn, Sr X.K cl F0 H0 F H σ ρ → Pin mp σ → PostS X.K cl W mp RP F0 H0 F Dn (m ρ) → t Dn σ H
structure USs (X : Cx) (cl : Str → Option Addr) (W : WX) (mp : List (Nat × Addr)) (RP : RPt α) (s : List Stmt) (t : TS) (m : En → Fl α) : Prop where
  pe : PSs X s t
  es : ∀ F0 H0 F H σ ρ Dn, Sr X.K cl F0 H0 F H σ ρ → Pin mp σ → PostS X.K cl W mp RP F0 H0 F Dn (m ρ) → t Dn σ H

/-! ### blocks -/
def fNext : En → Fl α := .nx
def fThen (r : Fl α) (k : En → Fl α) : Fl α := match r with
  | .nx ρ => k ρ
  | r => r
def fSeq (a b : En → Fl α) : En → Fl α := fun ρ => fThen (a ρ) b
variable {st : Stmt} {rest : List Stmt} {t u : TS} {m n : En → Fl α} {e : Expr} {te : TE} {pos : Pos}
theorem uss_nil : USs X cl W mp RP [] tNext fNext := ⟨pss_nil, fun F0 H0 F H σ ρ Dn S P p => p σ F H (Ex.refl _) S P⟩
theorem uss_one (h : US X cl W mp RP st t m) : USs X cl W mp RP [st] t m := ⟨pss_one h.pe, h.es⟩
theorem es_seq (h1 : ∀ F0 H0 F H σ ρ Dn, Sr K cl F0 H0 F H σ ρ → Pin mp σ → PostS K cl W mp RP F0 H0 F Dn (m ρ) → t Dn σ H)
    (h2 : ∀ F0 H0 F H σ ρ Dn, Sr K cl F0 H0 F H σ ρ → Pin mp σ → PostS K cl W mp RP F0 H0 F Dn (n ρ) → u Dn σ H) :
    ∀ F0 H0 F H σ ρ Dn, Sr K cl F0 H0 F H σ ρ → Pin mp σ → PostS K cl W mp RP F0 H0 F Dn (fSeq m n ρ) → tSeq t u Dn σ H := by
  intro F0 H0 F H σ ρ Dn S P p
  refine h1 F0 H0 F H σ ρ _ S P ?_
  unfold fSeq at p
  cases e : m ρ with
  | nx ρ' =>
    rw [e] at p
    exact fun σ' F' H' e1 S' P' => h2 F0 H0 F' H' σ' ρ' Dn S' P' (PostS.mono p e1)
  | bk ρ' => rw [e] at p; exact p
  | ct ρ' => rw [e] at p; exact p
  | rt a ρ' => rw [e] at p; exact p
  | er x ρ' => rw [e] at p; exact p
  | st => rw [e] at p; exact p
theorem uss_cons (h1 : US X cl W mp RP st t m) (h2 : USs X cl W mp RP rest u n) : USs X cl W mp RP (st :: rest) (tSeq t u) (fSeq m n) := ⟨pss_cons h1.pe h2.pe, es_seq h1.es h2.es⟩
theorem us_pass : US X cl W mp RP (.Pass pos) tNext fNext := ⟨ps_pass, fun F0 H0 F H σ ρ Dn S P p => p σ F H (Ex.refl _) S P⟩
theorem us_break : US X cl W mp RP (.Break pos) tBreak (fun ρ => .bk ρ) := ⟨ps_break, fun F0 H0 F H σ ρ Dn S P p => p σ F H (Ex.refl _) S P⟩
theorem us_continue : US X cl W mp RP (.Continue pos) tCont (fun ρ => .ct ρ) := ⟨ps_continue, fun F0 H0 F H σ ρ Dn S P p => p σ F H (Ex.refl _) S P⟩
theorem us_never : US X cl W mp RP st tNever (fun _ => .st) := ⟨ps_never, fun F0 H0 F H σ ρ Dn S P p => p.elim⟩

/-! ### from an expression to a statement -/
def fOf {β : Type} (r : R β) (ρ : En) (k : β → Fl α) : Fl α := match r with
  | .ok d => k d
  | .er x => .er x ρ
  | .st => .st
theorem pin_set {i : Nat} {v : Option V} (P : Pin mp σ) (h : i ∉ mp.map (·.1)) : Pin mp (σ.set i v) := fun q hq => by
  have : i ≠ q.1 := fun z => h (List.mem_map.mpr ⟨q, hq, z.symm⟩)
  rw [List.getElem?_set_ne this]
  exact P q hq
/-- from what is wanted of a statement to what is wanted of its expression -/
theorem post_of {me : R D} {k : D → Fl α} {Q : VK} (S : Sr K cl F0 H0 F H σ ρ) (P : Pin mp σ) (p : PostS K cl W mp RP F0 H0 F Dn (fOf me ρ k))
    (h : ∀ d v F1 H1, Grow F H F1 H1 → Rp K cl F1 v d → PostS K cl W mp RP F0 H0 F1 Dn (k d) → Q v H1) : Post K cl W σ F H Q me := by
  cases me with
  | ok d => exact fun v F1 H1 g r => h d v F1 H1 g r (PostS.mono p g.f)
  | er x => exact fun c d F1 H1 g r => p c d σ F1 H1 g.f (S.mono g) P r
  | st => exact p
theorem postN_of {me : R DO} {k : DO → Fl α} {Q : VK} (S : Sr K cl F0 H0 F H σ ρ) (P : Pin mp σ) (p : PostS K cl W mp RP F0 H0 F Dn (fOf me ρ k))
    (h : ∀ o q ho F1 H1, Grow F H F1 H1 → H q = none → F1 q = none → H1 q = some ho → HR K cl F1 ho o → PostS K cl W mp RP F0 H0 F1 Dn (k o) → Q (.ref q) H1) : PostN K cl W σ F H Q me := by
  cases me with
  | ok o => exact fun q ho F1 H1 g h0 h1 h2 r => h o q ho F1 H1 g h0 h1 h2 r (PostS.mono p g.f)
  | er x => exact fun c d F1 H1 g r => p c d σ F1 H1 g.f (S.mono g) P r
  | st => exact p
theorem postT_of {me : R Bool} {k : Bool → Fl α} {Q : Bool → Hp → Prop} (S : Sr K cl F0 H0 F H σ ρ) (P : Pin mp σ) (p : PostS K cl W mp RP F0 H0 F Dn (fOf me ρ k))
    (h : ∀ b F1 H1, Grow F H F1 H1 → PostS K cl W mp RP F0 H0 F1 Dn (k b) → Q b H1) : PostT K cl W σ F H Q me := by
  cases me with
  | ok b => exact fun F1 H1 g => h b F1 H1 g (PostS.mono p g.f)
  | er x => exact fun c d F1 H1 g r => p c d σ F1 H1 g.f (S.mono g) P r
  | st => exact p
/-- x = e -/
def fSet (i : Nat) (me : En → R D) : En → Fl α := fun ρ => fOf (me ρ) ρ fun d => .nx (ρ.set i (.val d))
theorem us_set {i : Nat} {x : Str} {me : En → R D} {pos' : Pos} (hN : X.N.Nodup) (hi : X.N[i]? = some x) (hx : Loc X.env.scope x) (he : UE X cl W e te me) (hp : i ∉ mp.map (·.1)) (hs : swapsWith e (some (.Name x pos')) pos.line X.env = pure false := by rfl)
    (hf : X.fn x = true ∨ X.env.scope.names.lookup x = some .local := by first | exact .inl rfl | exact .inr rfl | assumption) : US X cl W mp RP (.Assign [.Name x pos'] e pos) (tAsg te (gName i)) (fSet i me) := by
  refine ⟨ps_set hN hi hx he.pe hs hf, fun F0 H0 F H σ ρ Dn S P p => he.es F0 H0 F H σ ρ _ S (post_of S P p fun d v F1 H1 g r q => ?_)⟩
  exact q _ F1 H1 (Ex.refl _) ((S.mono g).set r) (pin_set P hp)
def fSetN (i : Nat) (me : En → R DO) : En → Fl α := fun ρ => fOf (me ρ) ρ fun o => .nx (ρ.set i (.own o))
theorem Sr.own_new {q : Addr} (S : Sr K cl F0 H0 F H σ ρ) (hq : H q = none) : ∀ (j : Nat) (o : DO), ρ[j]? = some (.own o) → σ[j]? ≠ some (some (.ref q)) := fun j o e z => by
  obtain ⟨p, ho, h1, _, h3, _⟩ := S.own j o e
  rw [h1] at z
  cases z
  rw [hq] at h3; cases h3
theorem es_setN {i : Nat} {me : En → R DO} (hp : i ∉ mp.map (·.1)) (he : ∀ F0 H0 F H σ ρ Q, Sr K cl F0 H0 F H σ ρ → PostN K cl W σ F H Q (me ρ) → te σ H Q) :
    ∀ F0 H0 F H σ ρ Dn, Sr K cl F0 H0 F H σ ρ → Pin mp σ → PostS K cl W mp RP F0 H0 F Dn (fSetN i me ρ) → tAsg te (gName i) Dn σ H := by
  intro F0 H0 F H σ ρ Dn S P p
  refine he F0 H0 F H σ ρ _ S (postN_of S P p fun o q ho F1 H1 g h0 h1 h2 r z => ?_)
  exact z _ F1 H1 (Ex.refl _) ((S.mono g).setOwn h1 h2 r (S.grow.old q h0) (S.own_new h0) (S.new_tr g h0)) (pin_set P hp)
theorem us_setN {i : Nat} {x : Str} {me : En → R DO} {pos' : Pos} (hN : X.N.Nodup) (hi : X.N[i]? = some x) (hx : Loc X.env.scope x) (he : UN X cl W e te me) (hp : i ∉ mp.map (·.1)) (hs : swapsWith e (some (.Name x pos')) pos.line X.env = pure false := by rfl)
    (hf : X.fn x = true ∨ X.env.scope.names.lookup x = some .local := by first | exact .inl rfl | exact .inr rfl | assumption) : US X cl W mp RP (.Assign [.Name x pos'] e pos) (tAsg te (gName i)) (fSetN i me) :=
  ⟨ps_set hN hi hx he.pe hs hf, es_setN hp he.es⟩
/-- x = [..] -/
theorem us_setLc {vs : List Nat} {i : Nat} {y : Str} {py : Pos} {elt tg iter : Expr} {ifs : List Expr} {scope : Scope} {own : List (Str × Nat)} {pos spos : Pos} {wi : TI} {ws : List Nat} {mi : En → R (List D)} {gm : D → En → R En} {tm : En → R Bool} {em : En → R D}
    (hc : X.calm = true) (hN : X.N.Nodup) (hy : X.N[i]? = some y) (hyl : X.env.scope.names.lookup y = some .local) (hp : i ∉ mp.map (·.1))
    (hsw : swapsWith (.ListComp elt [⟨tg, iter, ifs, 0⟩] scope pos) (some (.Name y py)) spos.line X.env = pure true)
    (hi : UI X cl W false tg iter wi mi) (ok : BlkOk X.N X.env.scope scope own) (hws : ∀ k ∈ ws, k ∈ own.map (·.2))
    (hg : ∀ (s : Shared) (H : Hp) (C : Addr) (cs : List (Str × Addr)) (fp : List Addr), ∃ g, UG (X.blk s H scope (compEnvC scope cs C X.env) fp) cl tg g gm ws)
    (ht : ∀ (s : Shared) (H : Hp) (C : Addr) (cs : List (Str × Addr)) (fp : List Addr), ∃ tt, UTs (X.blk s H scope (compEnvC scope cs C X.env) fp) cl WF ifs tt tm)
    (he : ∀ (s : Shared) (H : Hp) (C : Addr) (cs : List (Str × Addr)) (fp : List Addr), ∃ te, UE (X.blk s H scope (compEnvC scope cs C X.env) fp) cl WF elt te em) (hvs : own.map (·.2) = vs) (hs : ∀ x, foldedSetIterable iter X.env x = pure x := by intro _; rfl) :
    US X cl W mp RP (.Assign [.Name y py] (.ListComp elt [⟨tg, iter, ifs, 0⟩] scope pos) spos) (tAsg (tLc wi (gStar X.K cl ws gm) (ttStar X.K cl WF tm) (tStar X.K cl WF em) (own.map (·.2))) (gName i)) (fSetN i (dLc vs mi gm tm em)) := by
  subst hvs
  have hg' : ∀ (s : Shared) (H : Hp) (C : Addr) (cs : List (Str × Addr)) (fp : List Addr), UG (X.blk s H scope (compEnvC scope cs C X.env) fp) cl tg (gStar X.K cl ws gm) gm ws := fun s H C cs fp => (hg s H C cs fp).elim fun _ h => h.star
  have ht' : ∀ (s : Shared) (H : Hp) (C : Addr) (cs : List (Str × Addr)) (fp : List Addr), UTs (X.blk s H scope (compEnvC scope cs C X.env) fp) cl WF ifs (ttStar X.K cl WF tm) tm := fun s H C cs fp => (ht s H C cs fp).elim fun _ h => h.star
  have he' : ∀ (s : Shared) (H : Hp) (C : Addr) (cs : List (Str × Addr)) (fp : List Addr), UE (X.blk s H scope (compEnvC scope cs C X.env) fp) cl WF elt (tStar X.K cl WF em) em := fun s H C cs fp => (he s H C cs fp).elim fun _ h => h.star
  exact ⟨ps_setLc hc hN hy hyl hsw hi.pe ok (fun s H C cs fp => (hg' s H C cs fp).pe) (fun s H C cs fp => (ht' s H C cs fp).pe) (fun s H C cs fp => (he' s H C cs fp).pe) hs,
    es_setN hp (un_lc (pos := pos) hc hN hi ok hws hg ht he rfl hs).es⟩
theorem us_setLcF {vs : List Nat} {i : Nat} {y : Str} {py : Pos} {elt tg iter : Expr} {ifs : List Expr} {scope : Scope} {own : List (Str × Nat)} {pos spos : Pos} {wi : TI} {ws : List Nat} {mi : En → R (List D)} {gm : D → En → R En} {tm : En → R Bool} {em : En → R D}
    (hc : X.calm = true) (hN : X.N.Nodup) (hy : X.N[i]? = some y) (hyl : X.env.scope.names.lookup y = some .local) (hp : i ∉ mp.map (·.1))
    (hsw : swapsWith (.ListComp elt [⟨tg, iter, ifs, 0⟩] scope pos) (some (.Name y py)) spos.line X.env = pure true)
    (hi : UI X cl W false tg iter wi mi) (ok : BlkOk X.N X.env.scope scope own) (hws : ∀ k ∈ ws, k ∈ own.map (·.2))
    (hg : ∀ (s : Shared) (H : Hp) (C : Addr) (cs : List (Str × Addr)) (fp : List Addr), ∃ g, UG (X.blk s H scope (compEnvC scope cs C X.env) fp) cl tg g gm ws)
    (ht : ∀ (s : Shared) (H : Hp) (C : Addr) (cs : List (Str × Addr)) (fp : List Addr), ∃ tt, UTs (X.blk s H scope (compEnvC scope cs C X.env) fp) cl WF ifs tt tm)
    (he : ∀ (s : Shared) (H : Hp) (C : Addr) (cs : List (Str × Addr)) (fp : List Addr), ∃ te, UE (X.blk s H scope (compEnvC scope cs C X.env) fp) cl WF elt te em) (hvs : own.map (·.2) = vs) (hs : ∀ x, foldedSetIterable iter X.env x = pure x := by intro _; rfl) :
    US X cl W mp RP (.Assign [.Name y py] (.ListComp elt [⟨tg, iter, ifs, 0⟩] scope pos) spos) (tAsg (tLc wi (gStar X.K cl ws gm) (ttStar X.K cl WF tm) (tStar X.K cl WF em) (own.map (·.2))) (gName i)) (fSet i (d1 dFz (dLc vs mi gm tm em))) := by
  subst hvs
  have hg' : ∀ (s : Shared) (H : Hp) (C : Addr) (cs : List (Str × Addr)) (fp : List Addr), UG (X.blk s H scope (compEnvC scope cs C X.env) fp) cl tg (gStar X.K cl ws gm) gm ws := fun s H C cs fp => (hg s H C cs fp).elim fun _ h => h.star
  have ht' : ∀ (s : Shared) (H : Hp) (C : Addr) (cs : List (Str × Addr)) (fp : List Addr), UTs (X.blk s H scope (compEnvC scope cs C X.env) fp) cl WF ifs (ttStar X.K cl WF tm) tm := fun s H C cs fp => (ht s H C cs fp).elim fun _ h => h.star
  have he' : ∀ (s : Shared) (H : Hp) (C : Addr) (cs : List (Str × Addr)) (fp : List Addr), UE (X.blk s H scope (compEnvC scope cs C X.env) fp) cl WF elt (tStar X.K cl WF em) em := fun s H C cs fp => (he s H C cs fp).elim fun _ h => h.star
  exact ⟨ps_setLc hc hN hy hyl hsw hi.pe ok (fun s H C cs fp => (hg' s H C cs fp).pe) (fun s H C cs fp => (ht' s H C cs fp).pe) (fun s H C cs fp => (he' s H C cs fp).pe) hs,
    fun F0 H0 F H σ ρ Dn S P p => (UN.e (un_lc (pos := pos) hc hN hi ok hws hg ht he rfl hs)).es F0 H0 F H σ ρ _ S (post_of S P p fun d v F1 H1 g r q => q _ F1 H1 (Ex.refl _) ((S.mono g).set r) (pin_set P hp))⟩
/-- a target of several names -/
def fAsg (mg : D → En → R En) (me : En → R D) : En → Fl α := fun ρ => fOf (me ρ) ρ fun d => match mg d ρ with
  | .ok ρ' => .nx ρ'
  | _ => .st
theorem us_asg {tg : Expr} {g : TG} {mg : D → En → R En} {ws : List Nat} {me : En → R D} (he : UE X cl W e te me) (hg : UG X cl tg g mg ws) (hp : ∀ i ∈ ws, i ∉ mp.map (·.1)) (hs : swapsWithSole [tg] e pos.line X.env = pure false := by rfl) (hw : swappedStores [tg] e X.env = pure none := by rfl)
    (h1 : (assignEach [tg] X.env).map (·.2) = [assign tg X.env] := by rfl) : US X cl W mp RP (.Assign [tg] e pos) (tAsg te g) (fAsg mg me) := by
  refine ⟨ps_asg he.pe hg.pe hs hw h1, fun F0 H0 F H σ ρ Dn S P p => he.es F0 H0 F H σ ρ _ S (post_of S P p fun d v F1 H1 g r q => ?_)⟩
  refine hg.es F0 H0 F1 H1 σ ρ v d _ (S.mono g) r ?_
  cases e2 : mg d ρ with
  | st => rw [e2] at q; exact q
  | er x => rw [e2] at q; exact q
  | ok ρ' =>
    rw [e2] at q
    exact fun σ' S' hl hk => q σ' F1 H1 (Ex.refl _) S' fun z hz => by rw [hk _ fun w => hp _ w (List.mem_map.mpr ⟨z, hz, rfl⟩)]; exact P z hz
/-- return; nothing is known any more -/
def wipeA (ρ : En) : En := ρ.map fun _ => .un
theorem Sr.unsE (S : Sr K cl F0 H0 F H σ ρ) : ∀ vs : List Nat, Sr K cl F0 H0 F H σ (wipeE ρ vs)
  | [] => S
  | v :: vs => (Sr.unsE S vs).unE
theorem Sr.unA (S : Sr K cl F0 H0 F H σ ρ) : Sr K cl F0 H0 F H σ (wipeA ρ) := by
  have no : ∀ {i : Nat} {q : Sl}, (wipeA ρ)[i]? = some q → q = .un := fun {i q} e => by
    unfold wipeA at e
    rw [List.getElem?_map] at e
    cases h : ρ[i]? with
    | none => rw [h] at e; cases e
    | some z => rw [h] at e; cases e; rfl
  refine ⟨S.grow, by unfold wipeA; rw [List.length_map]; exact S.len, fun i d e => ?_, fun i o e => ?_, fun i j o o' p e => ?_, trOk_none fun i t e => ?_⟩
  · cases no e
  · cases no e
  · cases no e
  · cases no e
def fRet (me : En → R D) : En → Fl D := fun ρ => fOf (me ρ) ρ fun d => .rt d (wipeA ρ)
theorem us_ret {me : En → R D} (he : UE X cl W e te me) : US X cl W mp (RPV X.K cl mp) (.Return (some e) pos) (tRet te) (fRet me) :=
  ⟨ps_ret he.pe, fun F0 H0 F H σ ρ Dn S P p => he.es F0 H0 F H σ ρ _ S (post_of S P p fun d v F1 H1 g r q => q v σ F1 H1 (S.mono g).unA P r)⟩
def fRetN (me : En → R DO) : En → Fl DO := fun ρ => fOf (me ρ) ρ fun d => .rt d (wipeA ρ)
theorem us_retN {me : En → R DO} (he : UN X cl W e te me) : US X cl W mp (RPN X.K cl mp) (.Return (some e) pos) (tRet te) (fRetN me) :=
  ⟨ps_ret he.pe, fun F0 H0 F H σ ρ Dn S P p => he.es F0 H0 F H σ ρ _ S (postN_of S P p fun o q ho F1 H1 g h0 h1 h2 r z => z q ho σ F1 H1 (S.mono g).unA P h1 h2 r (S.grow.old q h0))⟩
def fRetO (i : Nat) : En → Fl DO := fun ρ => match ρ[i]? with
  | some (.own o) => .rt o (wipeA ρ)
  | _ => .st
theorem us_retO {i : Nat} (he : PE X e (tVar i)) : US X cl W mp (RPN X.K cl mp) (.Return (some e) pos) (tRet (tVar i)) (fRetO i) := by
  refine ⟨ps_ret he, fun F0 H0 F H σ ρ Dn S P p => ?_⟩
  unfold fRetO at p
  split at p
  · rename_i o ho
    obtain ⟨q, h, h1, h2, h3, h4, h5⟩ := S.own i o ho
    exact ⟨_, h1, p q h σ F H S.unA P h2 h3 h4 h5⟩
  · exact p.elim
def fRet0 : En → Fl D := fun ρ => .rt .non (wipeA ρ)
theorem us_ret0 : US X cl W mp (RPV X.K cl mp) (.Return none pos) tRetN fRet0 := ⟨ps_retN, fun F0 H0 F H σ ρ Dn S P p => p .non σ F H S.unA P rp_non⟩
/-- if -/
def fIf (mc : En → R Bool) (a b : En → Fl α) : En → Fl α := fun ρ => fOf (mc ρ) ρ fun c => if c = true then a ρ else b ρ
theorem us_if {c : Expr} {a b : List Stmt} {tc : TT} {mc : En → R Bool} (hc : UT X cl W c tc mc) (ha : USs X cl W mp RP a t m) (hb : USs X cl W mp RP b u n) : US X cl W mp RP (.If c a b pos) (tIfS tc t u) (fIf mc m n) := by
  refine ⟨ps_if hc.pe ha.pe hb.pe, fun F0 H0 F H σ ρ Dn S P p => hc.es F0 H0 F H σ ρ _ S (postT_of S P p fun k F1 H1 g q => ?_)⟩
  cases k with
  | true => exact ha.es F0 H0 F1 H1 σ ρ Dn (S.mono g) P q
  | false => exact hb.es F0 H0 F1 H1 σ ρ Dn (S.mono g) P q
/-- an expression alone -/
def fExpr (me : En → R D) : En → Fl α := fun ρ => fOf (me ρ) ρ fun _ => .nx ρ
theorem us_expr {me : En → R D} (he : UE X cl W e te me) (hs : swapsWith e none pos.line X.env = pure false := by rfl) : US X cl W mp RP (.Expr e pos) (tDrop te) (fExpr me) :=
  ⟨ps_expr he.pe hs, fun F0 H0 F H σ ρ Dn S P p => he.es F0 H0 F H σ ρ _ S (post_of S P p fun d v F1 H1 g r q => q σ F1 H1 (Ex.refl _) (S.mono g) P)⟩

/-! ### loops -/
def fAft (r : Fl α) (k : En → Fl α) : Fl α := match r with
  | .nx ρ => k ρ
  | .ct ρ => k ρ
  | .bk ρ => .nx ρ
  | .rt a ρ => .rt a ρ
  | .er x ρ => .er x ρ
  | .st => .st
def fG (r : R En) (k : En → Fl α) : Fl α := match r with
  | .ok ρ => k ρ
  | _ => .st
def fLoop (mg : D → En → R En) (mb : En → Fl α) : List D → En → Fl α
  | [], ρ => .nx ρ
  | d :: ds, ρ => fG (mg d ρ) fun ρ1 => fAft (mb ρ1) (fLoop mg mb ds)
def fFor (W : List Nat) (mi : En → R (List D)) (mg : D → En → R En) (mb : En → Fl α) : En → Fl α := fun ρ => fOf (mi ρ) ρ fun ds => fLoop mg mb ds (wipeE ρ W)
theorem us_for (Wp : List Nat) {tg iter : Expr} {body : List Stmt} {wi : TI} {g : TG} {tb : TS} {mi : En → R (List D)} {mg : D → En → R En} {ws : List Nat} {mb : En → Fl α} (po : PassesOwn (model X.prog X.w) X.A X.env X.xe) (hc : X.calm = true)
    (hi : UI X cl W true tg iter wi mi) (hg : UG X cl tg g mg ws) (hb : USs X cl W mp RP body tb mb) (hp : ∀ i ∈ ws, i ∉ mp.map (·.1))
    (hs : ∀ x, foldedSetIterable iter X.env x = pure x := by intro _; rfl) : US X cl W mp RP (.For tg iter body [] pos) (tFor wi g tb) (fFor Wp mi mg mb) := by
  refine ⟨ps_for po hc hi.pe hg.pe hb.pe hs, fun F0 H0 F H σ ρ Dn S P p => hi.es F0 H0 F H σ ρ _ S ?_⟩
  unfold fFor at p
  cases e : mi ρ with
  | st => rw [e] at p; exact p
  | er x => rw [e] at p; exact fun c d F1 H1 g r => p c d σ F1 H1 g.f (S.mono g) P r
  | ok ds =>
    rw [e] at p
    have p : PostS X.K cl W mp RP F0 H0 F Dn (fLoop mg mb ds (wipeE ρ Wp)) := p
    intro J F1 H1 g1 it
    refine ⟨fun i m σ H => m = ds.length - i ∧ i ≤ ds.length ∧ ∃ F2 ρ2, Sr X.K cl F0 H0 F2 H σ ρ2 ∧ Pin mp σ ∧ Ex F1 F2 ∧ PostS X.K cl W mp RP F0 H0 F2 Dn (fLoop mg mb (ds.drop i) ρ2),
      ⟨ds.length, by simp, Nat.zero_le _, F1, wipeE ρ Wp, (S.mono g1).unsE Wp, P, Ex.refl _, by simpa using PostS.mono p g1.f⟩, ?_⟩
    rintro i m σ H ⟨rfl, hi, F2, ρ2, S2, P2, e2, p2⟩
    have I := it F2 H i e2 S2.ex (e2.trans S2.ex)
    by_cases hlt : i < ds.length
    · have hd : ds[i]? = some ds[i] := List.getElem?_eq_getElem hlt
      obtain ⟨go, yl⟩ := I.1 _ hd
      rw [List.drop_eq_getElem_cons hlt] at p2
      refine .inr ⟨go, fun σ H => ∃ F2 ρ2, Sr X.K cl F0 H0 F2 H σ ρ2 ∧ Pin mp σ ∧ Ex F1 F2 ∧ PostS X.K cl W mp RP F0 H0 F2 Dn (fLoop mg mb (ds.drop (i + 1)) ρ2), fun σ' H' n => ⟨ds.length - (i + 1), by omega, rfl, hlt, n⟩, fun x H3 y => ?_⟩
      obtain ⟨F3, g3, r3⟩ := yl x H3 y
      refine hg.es F0 H0 F3 H3 σ ρ2 x _ _ (S2.mono g3) r3 ?_
      have p2 : PostS X.K cl W mp RP F0 H0 F2 Dn (fG (mg ds[i] ρ2) fun ρ1 => fAft (mb ρ1) (fLoop mg mb (ds.drop (i + 1)))) := p2
      cases e3 : mg ds[i] ρ2 with
      | st => rw [e3] at p2; exact p2
      | er x => rw [e3] at p2; exact p2
      | ok ρ3 =>
        rw [e3] at p2
        have p2 : PostS X.K cl W mp RP F0 H0 F2 Dn (fAft (mb ρ3) (fLoop mg mb (ds.drop (i + 1)))) := p2
        intro σ3 S3 hl3 hk3
        have P3 : Pin mp σ3 := fun z hz => by rw [hk3 _ fun w => hp _ w (List.mem_map.mpr ⟨z, hz, rfl⟩)]; exact P2 z hz
        have E3 := e2.trans g3.f
        refine hb.es F0 H0 F3 H3 σ3 ρ3 _ S3 P3 ?_
        cases e4 : mb ρ3 with
        | nx ρ4 => rw [e4] at p2; exact fun σ4 F4 H4 E4 S4 P4 => ⟨F4, ρ4, S4, P4, E3.trans E4, PostS.mono p2 (g3.f.trans E4)⟩
        | ct ρ4 => rw [e4] at p2; exact fun σ4 F4 H4 E4 S4 P4 => ⟨F4, ρ4, S4, P4, E3.trans E4, PostS.mono p2 (g3.f.trans E4)⟩
        | bk ρ4 => rw [e4] at p2; exact fun σ4 F4 H4 E4 S4 P4 => p2 σ4 F4 H4 (g3.f.trans E4) S4 P4
        | rt a ρ4 => rw [e4] at p2; exact p2
        | er x ρ4 => rw [e4] at p2; exact fun c d σ4 F4 H4 E4 S4 P4 => p2 c d σ4 F4 H4 (g3.f.trans E4) S4 P4
        | st => rw [e4] at p2; exact p2
    · have e : i = ds.length := by omega
      subst e
      rw [List.drop_length] at p2
      exact .inl ⟨I.2 (Nat.le_refl _), p2 σ F2 H (Ex.refl _) S2 P2⟩
def fWhile (mc : En → R Bool) (mb : En → Fl α) : Nat → En → Fl α
  | 0, _ => .st
  | n + 1, ρ => fOf (mc ρ) ρ fun b => if b = true then fAft (mb ρ) (fWhile mc mb n) else .nx ρ
def fWhl (fuel : En → Nat) (mc : En → R Bool) (mb : En → Fl α) : En → Fl α := fun ρ => fWhile mc mb (fuel ρ) ρ
theorem us_while {c : Expr} {body : List Stmt} {tc : TT} {tb : TS} {mc : En → R Bool} {mb : En → Fl α} (fuel : En → Nat) (po : PassesOwn (model X.prog X.w) X.A X.env X.xe) (hc : UT X cl W c tc mc) (hb : USs X cl W mp RP body tb mb) :
    US X cl W mp RP (.While c body [] pos) (tWhile tc tb) (fWhl fuel mc mb) := by
  refine ⟨ps_while po hc.pe hb.pe, fun F0 H0 F H σ ρ Dn S P p => ?_⟩
  refine ⟨fun m σ H => ∃ F2 ρ2, Sr X.K cl F0 H0 F2 H σ ρ2 ∧ Pin mp σ ∧ PostS X.K cl W mp RP F0 H0 F2 Dn (fWhile mc mb m ρ2), ⟨fuel ρ, F, ρ, S, P, p⟩, ?_⟩
  rintro m σ H ⟨F2, ρ2, S2, P2, p2⟩
  cases m with
  | zero => exact p2.elim
  | succ m =>
    have p2 : PostS X.K cl W mp RP F0 H0 F2 Dn (fOf (mc ρ2) ρ2 fun b => if b = true then fAft (mb ρ2) (fWhile mc mb m) else .nx ρ2) := p2
    refine hc.es F0 H0 F2 H σ ρ2 _ S2 ?_
    cases e : mc ρ2 with
    | st => rw [e] at p2; exact p2
    | er x => rw [e] at p2; exact fun c d F1 H1 g r => p2 c d σ F1 H1 g.f (S2.mono g) P2 r
    | ok b =>
      rw [e] at p2
      intro F3 H3 g3
      cases b with
      | false => exact p2 σ F3 H3 g3.f (S2.mono g3) P2
      | true =>
        have p2 : PostS X.K cl W mp RP F0 H0 F2 Dn (fAft (mb ρ2) (fWhile mc mb m)) := p2
        refine ⟨fun σ H => ∃ F2 ρ2, Sr X.K cl F0 H0 F2 H σ ρ2 ∧ Pin mp σ ∧ PostS X.K cl W mp RP F0 H0 F2 Dn (fWhile mc mb m ρ2), fun σ' H' n => ⟨m, Nat.lt_succ_self m, n⟩, ?_⟩
        refine hb.es F0 H0 F3 H3 σ ρ2 _ (S2.mono g3) P2 ?_
        cases e4 : mb ρ2 with
        | nx ρ4 => rw [e4] at p2; exact fun σ4 F4 H4 E4 S4 P4 => ⟨F4, ρ4, S4, P4, PostS.mono p2 (g3.f.trans E4)⟩
        | ct ρ4 => rw [e4] at p2; exact fun σ4 F4 H4 E4 S4 P4 => ⟨F4, ρ4, S4, P4, PostS.mono p2 (g3.f.trans E4)⟩
        | bk ρ4 => rw [e4] at p2; exact fun σ4 F4 H4 E4 S4 P4 => p2 σ4 F4 H4 (g3.f.trans E4) S4 P4
        | rt a ρ4 => rw [e4] at p2; exact p2
        | er x ρ4 => rw [e4] at p2; exact fun c d σ4 F4 H4 E4 S4 P4 => p2 c d σ4 F4 H4 (g3.f.trans E4) S4 P4
        | st => rw [e4] at p2; exact p2

/-! ### what is not wanted any more is forgotten -/
def fW (Wp : List Nat) : Fl α → Fl α
  | .nx ρ => .nx (wipeE ρ Wp)
  | .ct ρ => .ct (wipeE ρ Wp)
  | .bk ρ => .bk (wipeE ρ Wp)
  | r => r
def fWb (Wp : List Nat) (m : En → Fl α) : En → Fl α := fun ρ => fW Wp (m ρ)
theorem uss_W {s : List Stmt} (Wp : List Nat) (h : USs X cl W mp RP s t m) : USs X cl W mp RP s t (fWb Wp m) := by
  refine ⟨h.pe, fun F0 H0 F H σ ρ Dn S P p => h.es F0 H0 F H σ ρ Dn S P ?_⟩
  unfold fWb at p
  cases e : m ρ with
  | nx ρ' => rw [e] at p; exact fun σ F' H' x S' P' => p σ F' H' x (S'.unsE Wp) P'
  | ct ρ' => rw [e] at p; exact fun σ F' H' x S' P' => p σ F' H' x (S'.unsE Wp) P'
  | bk ρ' => rw [e] at p; exact fun σ F' H' x S' P' => p σ F' H' x (S'.unsE Wp) P'
  | rt a ρ' => rw [e] at p; exact p
  | er x ρ' => rw [e] at p; exact p
  | st => rw [e] at p; exact p
def fWp (Wp : List Nat) (m : En → Fl α) : En → Fl α := fun ρ => m (wipeE ρ Wp)
theorem us_Wp {s : Stmt} (Wp : List Nat) (h : US X cl W mp RP s t m) : US X cl W mp RP s t (fWp Wp m) :=
  ⟨h.pe, fun F0 H0 F H σ ρ Dn S P p => h.es F0 H0 F H σ _ Dn (S.unsE Wp) P p⟩

/-! ### ours becomes frozen; ours is changed -/
def dFz? : DO → Option D
  | .lst xs => some (.lst xs)
  | .dK ks xs => some (.dk ks xs)
  | .ins c ns xs => some (.obj c ns xs)
  | .dT _ _ => none
def frzE (i : Nat) (ρ : En) : En := match ρ[i]? with
  | some (.own o) => match dFz? o with
    | some d => ρ.set i (.val d)
    | none => ρ
  | some (.tr t) => if noT t = true then ρ.set i (.val (frzD t)) else ρ
  | _ => ρ
theorem dFz_ok {o : DO} {d : D} (h : dFz? o = some d) : dFz o = .ok d := by cases o <;> cases h <;> rfl
theorem Sr.frz (S : Sr K cl F0 H0 F H σ ρ) (i : Nat) : ∃ F', Ex F F' ∧ Sr K cl F0 H0 F' H σ (frzE i ρ) := by
  unfold frzE
  split
  · rename_i o hi
    split
    · rename_i d hd
      obtain ⟨p, ho, h1, h2, h3, h4, h5⟩ := S.own i o hi
      have r := rp_fz h4 h2 (dFz_ok hd)
      have ex := Ex.new (o := ho) h2
      refine ⟨upd F p ho, ex, ?_⟩
      have hl := S.len
      have hi' : i < ρ.length := (List.getElem?_eq_some_iff.mp hi).1
      have S1 : Sr K cl F0 H0 (upd F p ho) H σ (ρ.set i .un) := by
        have S0 := S.unE (i := i)
        refine ⟨S.grow.freeze h5 h2 h3, S0.len, fun j d' e => ?_, fun j o' e => ?_, S0.dis, S.tr.to (fun j t e => ⟨(set_un e tr_ne).2, rfl⟩) (fun j o p e1 e2 => .inl ⟨o, (set_un e1 own_ne).2, e2⟩) ex fun a u hu hf _ hne => ⟨rfl, by rw [upd_ne (hne i o p hi h1)]; exact hf⟩⟩
        · obtain ⟨v, q1, q2⟩ := S0.val j d' e
          exact ⟨v, q1, q2.mono ex⟩
        · obtain ⟨q, ho', q1, q2, q3, q4, q5⟩ := S0.own j o' e
          have hji : j ≠ i := fun z => by
            rw [z, List.getElem?_set_self hi'] at e; cases e
          have hj : ρ[j]? = some (.own o') := by rwa [List.getElem?_set_ne (Ne.symm hji)] at e
          have hqp : q ≠ p := fun z => by
            rw [z] at q1
            exact hji (S.dis j i o' o p hj hi q1 h1)
          exact ⟨q, ho', q1, by rw [upd_ne hqp]; exact q2, q3, q4.mono ex, q5⟩
      have S2 := S1.set (i := i) r
      rw [List.set_set] at S2
      have : σ.set i (some (.ref p)) = σ := by
        refine List.ext_getElem? fun k => ?_
        by_cases hk : i = k
        · subst hk; rw [List.getElem?_set_self (by omega), h1]
        · rw [List.getElem?_set_ne hk]
      rw [this] at S2
      exact S2
    · exact ⟨F, Ex.refl _, S⟩
  · rename_i t hi
    split
    · obtain ⟨F', e, _, S'⟩ := S.frzTr hi
      exact ⟨F', e, S'⟩
    · exact ⟨F, Ex.refl _, S⟩
  · exact ⟨F, Ex.refl _, S⟩
def fFrz (i : Nat) (m : En → Fl α) : En → Fl α := fun ρ => m (frzE i ρ)
theorem us_frz {s : Stmt} (i : Nat) (h : US X cl W mp RP s t m) : US X cl W mp RP s t (fFrz i m) := by
  refine ⟨h.pe, fun F0 H0 F H σ ρ Dn S P p => ?_⟩
  obtain ⟨F', e, S'⟩ := S.frz i
  exact h.es F0 H0 F' H σ _ Dn S' P (PostS.mono p e)
/-- any tree -/
def frzA (i : Nat) (ρ : En) : En := match ρ[i]? with
  | some (.tr t) => ρ.set i (.val (frzD t))
  | _ => ρ
def fFrzA (i : Nat) (m : En → Fl α) : En → Fl α := fun ρ => m (frzA i ρ)
theorem us_frzA {s : Stmt} (i : Nat) (h : US X cl W mp RP s t m) : US X cl W mp RP s t (fFrzA i m) := by
  refine ⟨h.pe, fun F0 H0 F H σ ρ Dn S P p => ?_⟩
  unfold fFrzA frzA at p
  cases e : ρ[i]? with
  | none => rw [e] at p; exact h.es F0 H0 F H σ _ Dn S P p
  | some q =>
    rw [e] at p
    cases q with
    | tr t =>
      obtain ⟨F', e, _, S'⟩ := S.frzTr e
      exact h.es F0 H0 F' H σ _ Dn S' P (PostS.mono p e)
    | _ => exact h.es F0 H0 F H σ _ Dn S P p
theorem Sr.write {i : Nat} {p : Addr} {ho' : HO} {o o' : DO} (S : Sr K cl F0 H0 F H σ ρ) (hi : ρ[i]? = some (.own o)) (hp : σ[i]? = some (some (.ref p))) (r : HR K cl F ho' o') : Sr K cl F0 H0 F (upd H p ho') σ (ρ.set i (.own o')) := by
  obtain ⟨q, ho, h1, h2, h3, h4, h5⟩ := S.own i o hi
  rw [hp] at h1; cases h1
  have hi' : i < ρ.length := (List.getElem?_eq_some_iff.mp hi).1
  have S1 : Sr K cl F0 H0 F (upd H p ho') σ (ρ.set i .un) := by
    have S0 := S.unE (i := i)
    refine ⟨⟨S.grow.f, fun a u e => ?_, fun a u e => ?_, S.grow.n⟩, S0.len, S0.val, fun j o2 e => ?_, S0.dis, S.tr.to (fun j t e => ⟨(set_un e tr_ne).2, rfl⟩) (fun j o p e1 e2 => .inl ⟨o, (set_un e1 own_ne).2, e2⟩) (Ex.refl _) fun a u hu hf _ hne => ⟨upd_ne (hne i o p hi hp), hf⟩⟩
    · rw [upd_ne (ne_of_none e h2)]; exact S.grow.s a u e
    · rw [upd_ne (ne_of_none e h5)]; exact S.grow.h a u e
    · obtain ⟨q, ho2, q1, q2, q3, q4, q5⟩ := S0.own j o2 e
      have hji : j ≠ i := fun z => by
        rw [z, List.getElem?_set_self hi'] at e; cases e
      have hj : ρ[j]? = some (.own o2) := by rwa [List.getElem?_set_ne (Ne.symm hji)] at e
      have hqp : q ≠ p := fun z => by
        rw [z] at q1
        exact hji (S.dis j i o2 o p hj hi q1 hp)
      exact ⟨q, ho2, q1, q2, by rw [upd_ne hqp]; exact q3, q4, q5⟩
  have S2 := S1.setOwn (i := i) (p := p) (o := o') h2 upd_same r h5 (fun j o2 e z => by
    have hji : j ≠ i := fun w => by
      rw [w, List.getElem?_set_self hi'] at e; cases e
    have hj : ρ[j]? = some (.own o2) := by rwa [List.getElem?_set_ne (Ne.symm hji)] at e
    exact hji (S.dis j i o2 o p hj hi z hp)) (S.tr.notin hi hp (Ex.refl _) (fun a u _ _ _ hn => upd_ne hn) fun j t e => (set_un e tr_ne).2)
  rw [List.set_set] at S2
  have : σ.set i (some (.ref p)) = σ := by
    have hl := S.len
    refine List.ext_getElem? fun k => ?_
    by_cases hk : i = k
    · subst hk; rw [List.getElem?_set_self (by omega), hp]
    · rw [List.getElem?_set_ne hk]
  rw [this] at S2
  exact S2
end
end UP
namespace UP
open PySem L2 PyProof.Rows
section
variable {α : Type} {X : Cx} {cl : Str → Option Addr} {W : WX} {K : PySem.W.Frag} {F0 H0 F H F' H' : Hp} {σ : L2.St} {ρ : En} {mp : List (Nat × Addr)} {RP : RPt α} {Dn : Ends} {e o : Expr} {te : TE} {pos apos cpos pos' : Pos} {es : List Expr} {t : TA}

/-! ### expressions that change what is ours -/
def PostX (K : PySem.W.Frag) (cl : Str → Option Addr) (F0 H0 F : Hp) (σ : L2.St) (Q : VK) : R (D × En) → Prop
  | .ok (d, ρ) => ∀ v F' H', Ex F F' → Sr K cl F0 H0 F' H' σ ρ → Rp K cl F' v d → Q v H'
  | _ => False
structure UX (X : Cx) (cl : Str → Option Addr) (e : Expr) (te : TE) (me : En → R (D × En)) : Prop where
  pe : PE X e te
  es : ∀ F0 H0 F H σ ρ Q, Sr X.K cl F0 H0 F H σ ρ → PostX X.K cl F0 H0 F σ Q (me ρ) → te σ H Q
theorem PostX.mono {r : R (D × En)} {Q : VK} (h : PostX K cl F0 H0 F σ Q r) (e : Ex F F') : PostX K cl F0 H0 F' σ Q r := by
  cases r with
  | ok q => exact fun v F2 H2 e2 => h v F2 H2 (e.trans e2)
  | er x => exact h
  | st => exact h
def dX (me : En → R D) : En → R (D × En) := fun ρ => (noer (me ρ)).bind fun d => .ok (d, ρ)
theorem UE.x {me : En → R D} (h : UE X cl WF e te me) : UX X cl e te (dX me) := by
  refine ⟨h.pe, fun F0 H0 F H σ ρ Q S p => h.es F0 H0 F H σ ρ Q S ?_⟩
  unfold dX at p
  cases e1 : me ρ with
  | st => rw [e1] at p; exact p
  | er x => rw [e1] at p; exact p.elim
  | ok d => rw [e1] at p; exact fun v F1 H1 g r => p v F1 H1 g.f (S.mono g) r
def dX2 (f : D → D → R D) (a b : En → R (D × En)) : En → R (D × En) := fun ρ => (a ρ).bind fun x => (b x.2).bind fun y => (noer (f x.1 y.1)).bind fun d => .ok (d, y.2)
theorem es_opX {ta tb : TE} {ma mb : En → R (D × En)} {r : R2} {f : D → D → R D}
    (ha : ∀ F0 H0 F H σ ρ Q, Sr K cl F0 H0 F H σ ρ → PostX K cl F0 H0 F σ Q (ma ρ) → ta σ H Q) (hb : ∀ F0 H0 F H σ ρ Q, Sr K cl F0 H0 F H σ ρ → PostX K cl F0 H0 F σ Q (mb ρ) → tb σ H Q) (hf : Op2 K cl r f) :
    ∀ F0 H0 F H σ ρ Q, Sr K cl F0 H0 F H σ ρ → PostX K cl F0 H0 F σ Q (dX2 f ma mb ρ) → tOp r ta tb σ H Q := by
  intro F0 H0 F H σ ρ Q S p
  unfold dX2 at p
  refine ha F0 H0 F H σ ρ _ S ?_
  cases e1 : ma ρ with
  | st => rw [e1] at p; exact p
  | er x => rw [e1] at p; exact p
  | ok q =>
    obtain ⟨dx, ρ1⟩ := q
    rw [e1, R.bind_ok] at p
    intro x F1 H1 x1 S1 r1
    refine hb F0 H0 F1 H1 σ ρ1 _ S1 ?_
    cases e2 : mb ρ1 with
    | st => rw [e2] at p; exact p
    | er x => rw [e2] at p; exact p
    | ok q =>
      obtain ⟨dy, ρ2⟩ := q
      rw [e2, R.bind_ok] at p
      intro y F2 H2 x2 S2 r2
      refine hf WF σ F2 H2 x y dx dy Q S2.ex (r1.mono x2) r2 ?_
      cases e3 : f dx dy with
      | st => rw [e3] at p; exact p
      | er x => rw [e3] at p; exact p.elim
      | ok d => rw [e3] at p; exact fun v F3 H3 g r => p v F3 H3 ((x1.trans x2).trans g.f) (S2.mono g) r
theorem ux_op {a b : Expr} {ta tb : TE} {ma mb : En → R (D × En)} {op : Operator} {r : R2} {f : D → D → R D} {pos : Pos} (ho : OpR X (binaryOp op) r) (hf : Op2 X.K cl r f) (ha : UX X cl a ta ma) (hb : UX X cl b tb mb) :
    UX X cl (.BinOp a op b pos) (tOp r ta tb) (dX2 f ma mb) := ⟨pe_op ho ha.pe hb.pe, es_opX ha.es hb.es hf⟩
theorem ux_cmp {a b : Expr} {ta tb : TE} {ma mb : En → R (D × En)} {op : CmpOp} {r : R2} {f : D → D → R D} {pos : Pos} (ho : OpR X (compareOp op) r) (hf : Op2 X.K cl r f) (ha : UX X cl a ta ma) (hb : UX X cl b tb mb) (hm : behindInMarks op b = false) :
    UX X cl (.Compare a [op] [b] pos) (tOp r ta tb) (dX2 f ma mb) := ⟨pe_cmpR ho ha.pe hb.pe hm, es_opX ha.es hb.es hf⟩
/-- a built-in of two arguments -/
theorem ux_callB2 {a b : Expr} {ta tb : TE} {ma mb : En → R (D × En)} {r : List V → Hp → VK → Prop} {f : List D → R D} {id : String} {x : Str} {p pos : Pos} (hc : CallR X (.builtin id) r) (hf : CaR X.K cl r f) (hm : X.mg x = none) (hv : bootBuiltins x = some (.builtin id)) (ha : UX X cl a ta ma) (hb : UX X cl b tb mb)
    (hs1 : starEach (a :: [b]) X.env = (false, eval a X.env) :: starEach [b] X.env := by rfl) (hs2 : starEach (b :: []) X.env = (false, eval b X.env) :: starEach [] X.env := by rfl) (hg : Gl X x := by rfl)
    (hn : x ≠ "__name__" := by decide) (hdb : (x == ("__debug__" : Str)) = false := by decide)
    (he : starEach (a :: [b]) X.env = (false, eval a X.env) :: starEach [b] X.env := by rfl) (hpl : (backTo pos (starEach [b] X.env)).any (·.1) = false := by rfl) :
    UX X cl (.Call (.Name x p) [a, b] [] pos) (tCB r (tCons ta (tCons tb tNil))) (dX2 (fun x y => f [x, y]) ma mb) := by
  refine ⟨pe_callB hc hg hm hv (pa_cons ha.pe (pa_cons hb.pe pa_nil hs2) hs1) hn hdb he hpl, fun F0 H0 F H σ ρ Q S p => ?_⟩
  have h2 : Op2 X.K cl (fun x y H Q => r [x, y] H Q) (fun x y => f [x, y]) := fun W σ F H x y dx dy Q e rx ry p => hf W σ F H [x, y] [dx, dy] Q e (Rps.cons rx (Rps.cons ry Rps.nil)) p
  exact es_opX ha.es hb.es h2 F0 H0 F H σ ρ Q S p
/-- xs.pop(i) of a list of ours -/
def dPopV (i : Nat) (ρ : En) : D → R (D × En)
  | .int k => match ρ[i]? with
    | some (.own (.lst xs)) => if -(2 ^ 63) ≤ k ∧ k < 2 ^ 63 then match seqIndex? k xs.length with
      | some j => match xs[j]? with
        | some y => .ok (y, ρ.set i (.own (.lst (xs.eraseIdx j))))
        | none => .st
      | none => .st
      else .st
    | _ => .st
  | _ => .st
def dPop (i : Nat) (me : En → R D) : En → R (D × En) := fun ρ => (noer (me ρ)).bind (dPopV i ρ)
theorem tyV_lst {p : Addr} {vs : List V} (h : H p = some (.lst vs)) : tyV K "list" (.ref p) H := Or.inl ⟨rfl, _, Or.inl (Or.inl h)⟩
theorem ux_popAt {i : Nat} {me : En → R D} (ho : PE X o (tVar i)) (he : UE X cl WF e te me) (hp : PE X (.Call (.Attribute o "pop" apos) [e] [] cpos) (tBM X.K "list" rPopAt (tVar i) (tCons te tNil))) :
    UX X cl (.Call (.Attribute o "pop" apos) [e] [] cpos) (tBM X.K "list" rPopAt (tVar i) (tCons te tNil)) (dPop i me) := by
  refine ⟨hp, fun F0 H0 F H σ ρ Q S p => ?_⟩
  unfold dPop at p
  cases e1 : me ρ with
  | st => rw [e1] at p; exact p.elim
  | er x => rw [e1] at p; exact p.elim
  | ok d =>
    rw [e1] at p
    replace p : PostX X.K cl F0 H0 F σ Q (dPopV i ρ d) := p
    unfold dPopV at p
    split at p
    rotate_left
    · exact p.elim
    rename_i k
    split at p
    · rename_i xs hi
      obtain ⟨q, ho, h1, h2, h3, ⟨vs, rfl, hv⟩, h5⟩ := S.own i _ hi
      refine ⟨_, h1, tyV_lst h3, he.es F0 H0 F H σ ρ _ S ?_⟩
      rw [e1]
      intro v F1 H1 g r
      split at p
      · rename_i hk
        split at p
        · rename_i j hj
          split at p
          · rename_i y hy
            have hv' := hv.mono g.f
            obtain ⟨u, hu, ru⟩ := hv'.get hy
            refine ⟨q, vs, k, j, u, rfl, by rw [r.int_inv], g.h _ _ h3, hk.1, hk.2, by rw [hv.length]; exact hj, hu, ?_⟩
            exact p u F1 _ g.f ((S.mono g).write hi h1 ⟨_, rfl, hv'.eraseIdx j⟩) ru
          · exact p.elim
        · exact p.elim
      · exact p.elim
    · exact p.elim
def dPop0 (i : Nat) : En → R (D × En) := fun ρ => match ρ[i]? with
  | some (.own (.lst xs)) => match xs[xs.length - 1]? with
      | some y => .ok (y, ρ.set i (.own (.lst xs.dropLast)))
      | none => .st
  | _ => .st
theorem Rps.dropLast {vs : List V} {ds : List D} (r : Rps K cl F vs ds) : Rps K cl F vs.dropLast ds.dropLast := by
  rw [List.dropLast_eq_take, List.dropLast_eq_take, r.length]; exact r.take _
theorem ux_pop {i : Nat} (hp : PE X (.Call (.Attribute o "pop" apos) [] [] cpos) (tBM0 X.K "list" rPop (tVar i))) : UX X cl (.Call (.Attribute o "pop" apos) [] [] cpos) (tBM0 X.K "list" rPop (tVar i)) (dPop0 i) := by
  refine ⟨hp, fun F0 H0 F H σ ρ Q S p => ?_⟩
  unfold dPop0 at p
  split at p
  · rename_i xs hi
    obtain ⟨q, ho, h1, h2, h3, ⟨vs, rfl, hv⟩, h5⟩ := S.own i _ hi
    split at p
    · rename_i y hy
      obtain ⟨u, hu, ru⟩ := hv.get hy
      refine ⟨_, h1, tyV_lst h3, q, vs, u, rfl, rfl, h3, by rw [hv.length]; exact hu, ?_⟩
      exact p u F _ (Ex.refl _) (S.write hi h1 ⟨_, rfl, hv.dropLast⟩) ru
    · exact p.elim
  · exact p.elim
/-- statements upon such -/
def fOfX (r : R (D × En)) (k : D → En → Fl α) : Fl α := match r with
  | .ok (d, ρ) => k d ρ
  | _ => .st
theorem postX_of {me : R (D × En)} {k : D → En → Fl α} {Q : VK} (p : PostS K cl W mp RP F0 H0 F Dn (fOfX me k))
    (h : ∀ d ρ v F1 H1, Ex F F1 → Sr K cl F0 H0 F1 H1 σ ρ → Rp K cl F1 v d → PostS K cl W mp RP F0 H0 F1 Dn (k d ρ) → Q v H1) : PostX K cl F0 H0 F σ Q me := by
  cases me with
  | ok q => exact fun v F1 H1 x S r => h q.1 q.2 v F1 H1 x S r (PostS.mono p x)
  | er x => exact p
  | st => exact p
def fSetX (i : Nat) (me : En → R (D × En)) : En → Fl α := fun ρ => fOfX (me ρ) fun d ρ => .nx (ρ.set i (.val d))
theorem us_setX {i : Nat} {x : Str} {me : En → R (D × En)} (hN : X.N.Nodup) (hi : X.N[i]? = some x) (hx : Loc X.env.scope x) (he : UX X cl e te me) (hp : i ∉ mp.map (·.1)) (hs : swapsWith e (some (.Name x pos')) pos.line X.env = pure false := by rfl)
    (hf : X.fn x = true ∨ X.env.scope.names.lookup x = some .local := by first | exact .inl rfl | exact .inr rfl | assumption) : US X cl W mp RP (.Assign [.Name x pos'] e pos) (tAsg te (gName i)) (fSetX i me) := by
  refine ⟨ps_set hN hi hx he.pe hs hf, fun F0 H0 F H σ ρ Dn S P p => he.es F0 H0 F H σ ρ _ S (postX_of p fun d ρ v F1 H1 x1 S1 r q => ?_)⟩
  exact q _ F1 H1 (Ex.refl _) (S1.set r) (pin_set P hp)
def fExprX (me : En → R (D × En)) : En → Fl α := fun ρ => fOfX (me ρ) fun _ ρ => .nx ρ
theorem us_exprX {me : En → R (D × En)} (he : UX X cl e te me) (hs : swapsWith e none pos.line X.env = pure false := by rfl) : US X cl W mp RP (.Expr e pos) (tDrop te) (fExprX me) :=
  ⟨ps_expr he.pe hs, fun F0 H0 F H σ ρ Dn S P p => he.es F0 H0 F H σ ρ _ S (postX_of p fun d ρ v F1 H1 x1 S1 r q => q σ F1 H1 (Ex.refl _) S1 P)⟩
def fRetX (me : En → R (D × En)) : En → Fl D := fun ρ => fOfX (me ρ) fun d ρ => .rt d ρ
theorem us_retX {me : En → R (D × En)} (he : UX X cl e te me) : US X cl W mp (RPV X.K cl mp) (.Return (some e) pos) (tRet te) (fRetX me) :=
  ⟨ps_ret he.pe, fun F0 H0 F H σ ρ Dn S P p => he.es F0 H0 F H σ ρ _ S (postX_of p fun d ρ v F1 H1 x1 S1 r q => q v σ F1 H1 S1 P r)⟩
def fIfX (me : En → R (D × En)) (a b : En → Fl α) : En → Fl α := fun ρ => fOfX (me ρ) fun d ρ => match d with
  | .bl c => if c = true then a ρ else b ρ
  | _ => .st
theorem us_ifX {c : Expr} {a b : List Stmt} {te : TE} {me : En → R (D × En)} {t u : TS} {m n : En → Fl α} (hc : UX X cl c te me) (ha : USs X cl W mp RP a t m) (hb : USs X cl W mp RP b u n)
    (he : ∀ whole, isTrue c X.env whole = (do let v ← whole; standAt c.pos; holding [v] (truthy v)) := by intro _; rfl) : US X cl W mp RP (.If c a b pos) (tIfS (tB te) t u) (fIfX me m n) := by
  refine ⟨ps_if (pt_val hc.pe he) ha.pe hb.pe, fun F0 H0 F H σ ρ Dn S P p => hc.es F0 H0 F H σ ρ _ S (postX_of p fun d ρ v F1 H1 x1 S1 r q => ?_)⟩
  cases d <;> try exact q.elim
  rename_i k
  refine ⟨k, r.bl_inv, ?_⟩
  cases k with
  | true => exact ha.es F0 H0 F1 H1 σ ρ Dn S1 P q
  | false => exact hb.es F0 H0 F1 H1 σ ρ Dn S1 P q
theorem us_ifCmpX {a b : Expr} {ta tb : TE} {ma mb : En → R (D × En)} {op : CmpOp} {r : R2} {f : D → D → R D} {s1 s2 : List Stmt} {t u : TS} {m n : En → Fl α} {cpos : Pos} (ho : OpR X (compareOp op) r) (hf : Op2 X.K cl r f) (ha : UX X cl a ta ma) (hb : UX X cl b tb mb) (hm : behindInMarks op b = false)
    (h1 : USs X cl W mp RP s1 t m) (h2 : USs X cl W mp RP s2 u n) : US X cl W mp RP (.If (.Compare a [op] [b] cpos) s1 s2 pos) (tIfS (tTest (tOp r ta tb)) t u) (fIfX (dX2 f ma mb) m n) := by
  refine ⟨ps_if (pt_cmpR ho ha.pe hb.pe hm) h1.pe h2.pe, fun F0 H0 F H σ ρ Dn S P p => es_opX ha.es hb.es hf F0 H0 F H σ ρ _ S (postX_of p fun d ρ v F1 H1 x1 S1 r q => ?_)⟩
  cases d <;> try exact q.elim
  rename_i k
  refine ⟨k, r.bl_inv, ?_⟩
  cases k with
  | true => exact h1.es F0 H0 F1 H1 σ ρ Dn S1 P q
  | false => exact h2.es F0 H0 F1 H1 σ ρ Dn S1 P q

/-! ### lists of ours changed -/
def fApp (i : Nat) (me : En → R (D × En)) : En → Fl α := fun ρ => fOfX (me ρ) fun d ρ => match ρ[i]? with
  | some (.own (.lst xs)) => if xs.length < SZ then .nx (ρ.set i (.own (.lst (xs ++ [d])))) else .st
  | _ => .st
theorem us_append {i : Nat} {me : En → R (D × En)} (ho : PE X o (tVar i)) (he : UX X cl e te me) (hi0 : ∀ ρ ρ' d, me ρ = .ok (d, ρ') → (∃ xs, ρ'[i]? = some (.own (.lst xs))) → ∃ xs, ρ[i]? = some (.own (.lst xs)))
    (hp : PE X (.Call (.Attribute o "append" apos) [e] [] cpos) (tBM X.K "list" rAppend (tVar i) (tCons te tNil)))
    (hs : swapsWith (.Call (.Attribute o "append" apos) [e] [] cpos) none pos.line X.env = pure false := by rfl) :
    US X cl W mp RP (.Expr (.Call (.Attribute o "append" apos) [e] [] cpos) pos) (tDrop (tBM X.K "list" rAppend (tVar i) (tCons te tNil))) (fApp i me) := by
  refine ⟨ps_expr hp hs, fun F0 H0 F H σ ρ Dn S P p => ?_⟩
  unfold fApp at p
  cases e1 : me ρ with
  | st => rw [e1] at p; exact p.elim
  | er x => rw [e1] at p; exact p.elim
  | ok q =>
    obtain ⟨d, ρ1⟩ := q
    rw [e1] at p
    have p : PostS X.K cl W mp RP F0 H0 F Dn (match ρ1[i]? with
      | some (.own (.lst xs)) => if xs.length < SZ then .nx (ρ1.set i (.own (.lst (xs ++ [d])))) else .st
      | _ => .st) := p
    split at p
    · rename_i xs hi
      obtain ⟨xs0, hi0'⟩ := hi0 ρ ρ1 d e1 ⟨xs, hi⟩
      obtain ⟨q, ho, h1, h2, h3, ⟨vs, rfl, hv⟩, h5⟩ := S.own i _ hi0'
      refine ⟨_, h1, tyV_lst h3, he.es F0 H0 F H σ ρ _ S ?_⟩
      rw [e1]
      intro v F1 H1 x1 S1 r
      obtain ⟨q', ho', k1, k2, k3, ⟨vs', rfl, hv'⟩, k5⟩ := S1.own i _ hi
      rw [h1] at k1; cases k1
      split at p
      · rename_i hz
        exact ⟨q, vs', v, rfl, rfl, k3, by rw [hv'.length]; exact sz_lt hz, p σ F1 _ x1 (S1.write hi h1 ⟨_, rfl, hv'.append (Rps.cons r Rps.nil)⟩) P⟩
      · exact p.elim
    · exact p.elim
theorem dX_same {i : Nat} {me : En → R D} : ∀ ρ ρ' d, dX me ρ = .ok (d, ρ') → (∃ xs, ρ'[i]? = some (.own (.lst xs))) → ∃ xs, ρ[i]? = some (.own (.lst xs)) := fun ρ ρ' d e h => by
  unfold dX at e
  cases e1 : me ρ with
  | st => rw [e1] at e; cases e
  | er x => rw [e1] at e; cases e
  | ok q => rw [e1] at e; cases e; exact h
theorem dPop_same {i j : Nat} {me : En → R D} (hne : j ≠ i) : ∀ ρ ρ' d, dPop j me ρ = .ok (d, ρ') → (∃ xs, ρ'[i]? = some (.own (.lst xs))) → ∃ xs, ρ[i]? = some (.own (.lst xs)) := fun ρ ρ' d e h => by
  unfold dPop at e
  cases e1 : me ρ with
  | st => rw [e1] at e; cases e
  | er x => rw [e1] at e; cases e
  | ok q =>
    rw [e1] at e
    have e : dPopV j ρ q = .ok (d, ρ') := e
    unfold dPopV at e
    split at e
    · split at e
      · split at e
        · split at e
          · split at e
            · cases e
              obtain ⟨xs, h⟩ := h
              rw [List.getElem?_set_ne hne] at h
              exact ⟨xs, h⟩
            · cases e
          · cases e
        · cases e
      · cases e
    · cases e
/-- x[i] = e -/
def fSetItemV (i : Nat) (ρ : En) (d : D) : D → Fl α
  | .int k => match ρ[i]? with
    | some (.own (.lst xs)) => match ixN xs.length k with
      | some j => .nx (ρ.set i (.own (.lst (xs.set j d))))
      | none => .st
    | _ => .st
  | _ => .st
def fSetItem (i : Nat) (mk : En → R D) (me : En → R D) : En → Fl α := fun ρ => fOf (me ρ) ρ fun d => fOf (noer (mk ρ)) ρ fun k => fSetItemV i ρ d k
theorem us_setitem {i : Nat} {k : Expr} {tk : TE} {mk me : En → R D} {tpos : Pos} (ho : PE X o (tVar i)) (hk : UE X cl W k tk mk) (he : UE X cl W e te me)
    (hp : PS X (.Assign [.Subscript o k tpos] e pos) (tAsg te (gSub (tVar i) tk rSetL))) : US X cl W mp RP (.Assign [.Subscript o k tpos] e pos) (tAsg te (gSub (tVar i) tk rSetL)) (fSetItem i mk me) := by
  refine ⟨hp, fun F0 H0 F H σ ρ Dn S P p => he.es F0 H0 F H σ ρ _ S (post_of S P p fun d v F1 H1 g r p => ?_)⟩
  cases e1 : mk ρ with
  | st => rw [e1] at p; exact p.elim
  | er x => rw [e1] at p; exact p.elim
  | ok dk =>
    rw [e1] at p
    replace p : PostS X.K cl W mp RP F0 H0 F1 Dn (fSetItemV i ρ d dk) := p
    unfold fSetItemV at p
    split at p
    rotate_left
    · exact p.elim
    rename_i kk
    split at p
    · rename_i xs hi
      obtain ⟨q, ho', h1, h2, h3, ⟨vs, rfl, hv⟩, h5⟩ := (S.mono g).own i _ hi
      refine ⟨_, h1, hk.es F0 H0 F1 H1 σ ρ _ (S.mono g) ?_⟩
      rw [e1]
      intro vk F2 H2 g2 rk
      split at p
      · rename_i j hj
        exact ⟨q, vs, kk, j, rfl, rk.int_inv, g2.h _ _ h3, by rw [hv.length]; exact hj, p σ F2 _ g2.f (((S.mono g).mono g2).write hi h1 ⟨_, rfl, (hv.mono g2.f).set j (r.mono g2.f)⟩) P⟩
      · exact p.elim
    · exact p.elim
end
end UP
namespace UP
open PySem L2 PyProof.Rows
section
variable {α : Type} {X : Cx} {cl : Str → Option Addr} {W : WX} {K : PySem.W.Frag} {F0 H0 F H F' H' : Hp} {σ : L2.St} {ρ : En} {mp : List (Nat × Addr)} {RP : RPt α} {Dn : Ends} {e o : Expr} {te : TE} {pos apos cpos pos' : Pos} {es : List Expr} {t : TA}

/-! ### x += e -/
def fAug (i : Nat) (f : D → D → R D) (me : En → R D) : En → Fl α := fun ρ => match ρ[i]? with
  | some (.val c) => fOf (me ρ) ρ fun d => fOf (noer (f c d)) ρ fun z => .nx (ρ.set i (.val z))
  | _ => .st
def AugOk (K : PySem.W.Frag) (cl : Str → Option Addr) (ti : TIp) (f : D → D → R D) : Prop :=
  ∀ (F H : Hp) (x y : V) (dx dy z : D) (Q : VK), Rp K cl F x dx → Rp K cl F y dy → f dx dy = .ok z → (∀ v, Rp K cl F v z → Q v H) → ti x y H Q
theorem us_aug {i : Nat} {x : Str} {me : En → R D} {op : Operator} {ti : TIp} {f : D → D → R D} (hN : X.N.Nodup) (hi : X.N[i]? = some x) (hx : Loc X.env.scope x) (he : UE X cl W e te me) (ho : PIp X op ti) (hf : AugOk X.K cl ti f) (hp : i ∉ mp.map (·.1))
    (hfn : X.fn x = true ∨ X.env.scope.names.lookup x = some .local := by first | exact .inl rfl | exact .inr rfl | assumption) : US X cl W mp RP (.AugAssign (.Name x pos') op e pos) (tAug i te ti) (fAug i f me) := by
  refine ⟨ps_aug hN hi hx he.pe ho hfn, fun F0 H0 F H σ ρ Dn S P p => ?_⟩
  unfold fAug at p
  split at p
  · rename_i c hc
    obtain ⟨v, h1, h2⟩ := S.val i c hc
    refine ⟨v, h1, he.es F0 H0 F H σ ρ _ S (post_of S P p fun d u F1 H1 g r q => ?_)⟩
    cases e2 : f c d with
    | st => rw [e2] at q; exact q.elim
    | er x => rw [e2] at q; exact q.elim
    | ok z =>
      rw [e2] at q
      exact hf F1 H1 v u c d z _ (h2.mono g.f) r e2 fun w rw' => q _ F1 H1 (Ex.refl _) ((S.mono g).set rw') (pin_set P hp)
  · exact p.elim
theorem aug_add : AugOk K cl (ipI fun i j => i + j) (dI0 fun i j => .int (i + j)) := by
  intro F H x y dx dy z Q rx ry e q
  cases dx <;> cases dy <;> try cases e
  exact ⟨_, _, rx.int_inv, ry.int_inv, q _ rp_int⟩
theorem aug_sub : AugOk K cl (ipI fun i j => i - j) (dI0 fun i j => .int (i - j)) := by
  intro F H x y dx dy z Q rx ry e q
  cases dx <;> cases dy <;> try cases e
  exact ⟨_, _, rx.int_inv, ry.int_inv, q _ rp_int⟩
end

/-! ### defs -/
def startE (n : Nat) (ds : List D) : En := ds.map Sl.val ++ List.replicate (n - ds.length) .un
def runV (n : Nat) (mb : En → Fl D) (ds : List D) : R D := match mb (startE n ds) with
  | .rt d _ => .ok d
  | .nx _ => .ok .non
  | .er x _ => .er x
  | _ => .st
def runN (n : Nat) (mb : En → Fl DO) (ds : List D) : R DO := match mb (startE n ds) with
  | .rt d _ => .ok d
  | .er x _ => .er x
  | _ => .st
section
variable {P : Program} {w : World} {K : PySem.W.Frag} {mg : Str → Option Value} {base : Heap} {cl : Str → Option Addr}
theorem sr_start {F H : Hp} {N : List Str} {vs : List V} {ds : List D} (e : Ex F H) (r : Rps K cl F vs ds) (h : vs.length ≤ N.length) : Sr K cl F H F H (L2.start N vs) (startE N.length ds) := by
  have hl := r.length
  unfold L2.start startE
  refine ⟨Grow.refl e, by simp; omega, fun i d hd => ?_, fun i o ho => ?_, fun i j o o' p ho => ?_, trOk_none fun i t ho => ?_⟩
  rotate_right 1
  · have : Sl.tr t ∈ ds.map Sl.val ++ List.replicate (N.length - ds.length) Sl.un := List.mem_of_getElem? ho
    rcases List.mem_append.mp this with h | h
    · obtain ⟨_, _, z⟩ := List.mem_map.mp h; cases z
    · have := List.eq_of_mem_replicate h; cases this
  · by_cases hi : i < ds.length
    · rw [List.getElem?_append_left (by simpa using hi), List.getElem?_map] at hd
      cases q : ds[i]? with
      | none => rw [q] at hd; cases hd
      | some d' =>
        rw [q] at hd
        cases hd
        obtain ⟨v, hv, rv⟩ := r.get q
        exact ⟨v, by rw [List.getElem?_append_left (by simpa using (by omega : i < vs.length)), List.getElem?_map, hv] <;> rfl, rv⟩
    · rw [List.getElem?_append_right (by simpa using hi)] at hd
      have := List.mem_of_getElem? hd
      have := List.eq_of_mem_replicate this
      cases this
  · have : Sl.own o ∈ ds.map Sl.val ++ List.replicate (N.length - ds.length) Sl.un := List.mem_of_getElem? ho
    rcases List.mem_append.mp this with h | h
    · obtain ⟨_, _, z⟩ := List.mem_map.mp h; cases z
    · have := List.eq_of_mem_replicate h; cases this
  · have : Sl.own o ∈ ds.map Sl.val ++ List.replicate (N.length - ds.length) Sl.un := List.mem_of_getElem? ho
    rcases List.mem_append.mp this with h | h
    · obtain ⟨_, _, z⟩ := List.mem_map.mp h; cases z
    · have := List.eq_of_mem_replicate h; cases this
abbrev WD (E : XK) : WX := fun cls d _ H => E cls d H
section
variable {N : List Str} {qual : Str} {scope : Scope} {f : Addr} {cd : Value} {A : Around} {outer : List Env} {s : Shared} {H : Hp} {E : XK}
theorem po_cx : PassesOwn (model (cxOf (L2N.CX P w) P w K mg base N qual scope f cd A outer s H E).prog (cxOf (L2N.CX P w) P w K mg base N qual scope f cd A outer s H E).w) (cxOf (L2N.CX P w) P w K mg base N qual scope f cd A outer s H E).A (cxOf (L2N.CX P w) P w K mg base N qual scope f cd A outer s H E).env (cxOf (L2N.CX P w) P w K mg base N qual scope f cd A outer s H E).xe := passes_of (X := cxOf (L2N.CX P w) P w K mg base N qual scope f cd A outer s H E) rfl
theorem calm_cx : (cxOf (L2N.CX P w) P w K mg base N qual scope f cd A outer s H E).calm = true := rfl
theorem tk_cx : L2N.Takes (cxOf (L2N.CX P w) P w K mg base N qual scope f cd A outer s H E) (WD E) := L2N.takes_of rfl rfl rfl rfl
end
theorem def_V {x qual : Str} {st : Stmt} {f : Addr} {fd : FuncData} {N ps : List Str} {k : Nat} {mb : En → Fl D} (F : Fun K x qual st f fd) (S : FnScope N ps (defScope st)) (hn : ps.length ≤ N.length)
    (hb : ∀ (cdv : Value) (A : Around) (outer : List Env) (s : Shared) (H : Hp) (E : XK), Room k (A.deeper (envOfC qual (defScope st) s.heap.objs.size f cdv)) →
      ∃ t, USs (cxOf (L2N.CX P w) P w K mg base N qual (defScope st) f cdv A outer s H E) cl (WD E) [] (RPV K cl []) (defBody st) t mb) : FnOk P w K mg base (L2N.CX P w) (k + 1) f fd ps (spV K cl ps.length (runV N.length mb)) := by
  refine okXN F S (fun vs H Q E ⟨ds, F, _, _, h, _⟩ => h) (fun cdv A outer s H vs Q E hr h => ?_)
  obtain ⟨ds, Fh, ex, r, hl, p⟩ := h
  obtain ⟨t, U⟩ := hb cdv A outer s H E hr
  refine ⟨t, U.pe, U.es Fh H Fh H _ _ _ (sr_start ex r (by omega)) (fun q hq => by cases hq) ?_⟩
  unfold runV at p
  cases e : mb (startE N.length ds) with
  | nx ρ => rw [e] at p; exact fun σ F' H' _ S' _ => p .non F' H' S'.grow rp_non
  | rt d ρ => rw [e] at p; exact fun v σ F' H' S' _ r' => p v F' H' S'.grow r'
  | bk ρ => rw [e] at p; exact p.elim
  | ct ρ => rw [e] at p; exact p.elim
  | er x ρ => rw [e] at p; exact fun c d σ F' H' _ S' _ r' => p c d F' H' S'.grow r'
  | st => rw [e] at p; exact p.elim
theorem def_N {x qual : Str} {st : Stmt} {f : Addr} {fd : FuncData} {N ps : List Str} {k : Nat} {mb : En → Fl DO} (F : Fun K x qual st f fd) (S : FnScope N ps (defScope st)) (hn : ps.length ≤ N.length)
    (hb : ∀ (cdv : Value) (A : Around) (outer : List Env) (s : Shared) (H : Hp) (E : XK), Room k (A.deeper (envOfC qual (defScope st) s.heap.objs.size f cdv)) →
      ∃ t, USs (cxOf (L2N.CX P w) P w K mg base N qual (defScope st) f cdv A outer s H E) cl (WD E) [] (RPN K cl []) (defBody st) t mb) : FnOk P w K mg base (L2N.CX P w) (k + 1) f fd ps (spN K cl ps.length (runN N.length mb)) := by
  refine okXN F S (fun vs H Q E ⟨ds, F, _, _, h, _⟩ => h) (fun cdv A outer s H vs Q E hr h => ?_)
  obtain ⟨ds, Fh, ex, r, hl, p⟩ := h
  obtain ⟨t, U⟩ := hb cdv A outer s H E hr
  refine ⟨t, U.pe, U.es Fh H Fh H _ _ _ (sr_start ex r (by omega)) (fun q hq => by cases hq) ?_⟩
  unfold runN at p
  cases e : mb (startE N.length ds) with
  | nx ρ => rw [e] at p; exact p.elim
  | rt d ρ => rw [e] at p; exact fun q ho σ F' H' S' _ h1 h2 h3 h4 => p q ho F' H' S'.grow h4 h1 h2 h3
  | bk ρ => rw [e] at p; exact p.elim
  | ct ρ => rw [e] at p; exact p.elim
  | er x ρ => rw [e] at p; exact fun c d σ F' H' _ S' _ r' => p c d F' H' S'.grow r'
  | st => rw [e] at p; exact p.elim
/-- the law -/
theorem law_sp {n : Nat} {m : List D → R D} (hm : ∀ ns : List Int, ns.length ≤ n → m [.lst (ns.map .int)] = .ok (.bl true)) : ∀ (H : Hp) (a : Addr) (ns : List Int), ns.length ≤ n → SqL K H a (ns.map V.int) → spV K cl 1 m [.ref a] H (fun v _ => v = .bl true) fun _ _ _ => False := by
  intro H a ns hl hS
  refine ⟨[.lst (ns.map .int)], H, Ex.refl _, Rps.cons ?_ Rps.nil, rfl, ?_⟩
  · unfold Rp; exact ⟨a, _, rfl, hS, Rps.ints⟩
  · rw [hm ns hl]
    intro v F' H' g r
    exact r.bl_inv
theorem no_ex {H : Hp} {s : Shared} {e : Value} {s' : Shared} (h : L2N.CX P w [] H s (fun _ _ _ => False) e s') : False := by
  obtain ⟨a, B, sI, H', cls, d, h⟩ := h
  simp at h
end
end UP
namespace UP
open PySem L2 PyProof.Rows
section
variable {α : Type} {X : Cx} {cl : Str → Option Addr} {W : WX} {K : PySem.W.Frag} {F0 H0 F H F' H' : Hp} {σ : L2.St} {ρ : En} {mp : List (Nat × Addr)} {RP : RPt α} {Dn : Ends} {e o a b : Expr} {te ta tb : TE} {ma mb me : En → R D} {pos apos cpos pos' : Pos} {es : List Expr} {t : TA}
abbrev q_sub : R2 := rI0 fun i j => .int (i - j)
abbrev q_mul : R2 := rI CMulA fun i j => .int (i * j)
abbrev q_fdiv : R2 := rI CDivA fun i j => .int (i.fdiv j)
abbrev q_mod : R2 := rI (fun _ j => j ≠ 0) fun i j => .int (i.fmod j)
abbrev q_pow : R2 := rI CPow fun i j => .int (i ^ j.toNat)
abbrev q_shl : R2 := rI CPow fun i j => .int (i * 2 ^ j.toNat)
abbrev q_shr : R2 := rI (fun _ j => 0 ≤ j) fun i j => .int (i / 2 ^ j.toNat)
abbrev q_band : R2 := rI0 fun i j => .int (Builtin.bitAnd i j)
abbrev q_bor : R2 := rI0 fun i j => .int (Builtin.bitOr i j)
abbrev q_lt : R2 := rI0 fun i j => .bl (decide (i < j))
abbrev q_le : R2 := rI0 fun i j => .bl (decide (i ≤ j))
abbrev q_gt : R2 := rI0 fun i j => .bl (decide (j < i))
abbrev q_ge : R2 := rI0 fun i j => .bl (decide (j ≤ i))
abbrev dSub := dI0 fun i j => .int (i - j)
abbrev dMul := dI CMulA fun i j => .int (i * j)
abbrev dFdiv := dI CDivA fun i j => .int (i.fdiv j)
abbrev dMod := dI (fun _ j => j ≠ 0) fun i j => .int (i.fmod j)
abbrev dPow := dI CPow fun i j => .int (i ^ j.toNat)
abbrev dShl := dI CPow fun i j => .int (i * 2 ^ j.toNat)
abbrev dShr := dI (fun _ j => 0 ≤ j) fun i j => .int (i / 2 ^ j.toNat)
abbrev dBand := dI0 fun i j => .int (Builtin.bitAnd i j)
abbrev dBor := dI0 fun i j => .int (Builtin.bitOr i j)
abbrev dLt := dI0 fun i j => .bl (decide (i < j))
abbrev dLe := dI0 fun i j => .bl (decide (i ≤ j))
abbrev dGt := dI0 fun i j => .bl (decide (j < i))
abbrev dGe := dI0 fun i j => .bl (decide (j ≤ i))
theorem ue_sub (ha : UE X cl W a ta ma) (hb : UE X cl W b tb mb) : UE X cl W (.BinOp a .Sub b pos) (tOp q_sub ta tb) (d2 dSub ma mb) := ue_op op_sub (op2_I0 fun _ _ _ => rp_int) ha hb
theorem ue_mul (ha : UE X cl W a ta ma) (hb : UE X cl W b tb mb) : UE X cl W (.BinOp a .Mult b pos) (tOp q_mul ta tb) (d2 dMul ma mb) := ue_op op_mulA (op2_I fun _ _ _ => rp_int) ha hb
theorem ue_fdiv (ha : UE X cl W a ta ma) (hb : UE X cl W b tb mb) : UE X cl W (.BinOp a .FloorDiv b pos) (tOp q_fdiv ta tb) (d2 dFdiv ma mb) := ue_op op_fdivA (op2_I fun _ _ _ => rp_int) ha hb
theorem ue_mod (ha : UE X cl W a ta ma) (hb : UE X cl W b tb mb) : UE X cl W (.BinOp a .Mod b pos) (tOp q_mod ta tb) (d2 dMod ma mb) := ue_op op_modN (op2_I fun _ _ _ => rp_int) ha hb
theorem ue_pow (ha : UE X cl W a ta ma) (hb : UE X cl W b tb mb) : UE X cl W (.BinOp a .Pow b pos) (tOp q_pow ta tb) (d2 dPow ma mb) := ue_op op_pow (op2_I fun _ _ _ => rp_int) ha hb
theorem ue_shl (ha : UE X cl W a ta ma) (hb : UE X cl W b tb mb) : UE X cl W (.BinOp a .LShift b pos) (tOp q_shl ta tb) (d2 dShl ma mb) := ue_op op_shl (op2_I fun _ _ _ => rp_int) ha hb
theorem ue_shr (ha : UE X cl W a ta ma) (hb : UE X cl W b tb mb) : UE X cl W (.BinOp a .RShift b pos) (tOp q_shr ta tb) (d2 dShr ma mb) := ue_op op_shr (op2_I fun _ _ _ => rp_int) ha hb
theorem ue_band (ha : UE X cl W a ta ma) (hb : UE X cl W b tb mb) : UE X cl W (.BinOp a .BitAnd b pos) (tOp q_band ta tb) (d2 dBand ma mb) := ue_op op_and (op2_I0 fun _ _ _ => rp_int) ha hb
theorem ue_bor (ha : UE X cl W a ta ma) (hb : UE X cl W b tb mb) : UE X cl W (.BinOp a .BitOr b pos) (tOp q_bor ta tb) (d2 dBor ma mb) := ue_op op_or (op2_I0 fun _ _ _ => rp_int) ha hb
/-- comparisons: the rule and its reading -/
structure Cmp (X : Cx) (cl : Str → Option Addr) (op : CmpOp) (r : R2) (f : D → D → R D) : Prop where
  o : OpR X (compareOp op) r
  f : Op2 X.K cl r f
theorem c_lt : Cmp X cl .Lt q_lt dLt := ⟨op_lt, op2_I0 fun _ _ _ => rp_bl⟩
theorem c_le : Cmp X cl .LtE q_le dLe := ⟨op_le, op2_I0 fun _ _ _ => rp_bl⟩
theorem c_gt : Cmp X cl .Gt q_gt dGt := ⟨op_gt, op2_I0 fun _ _ _ => rp_bl⟩
theorem c_ge : Cmp X cl .GtE q_ge dGe := ⟨op_ge, op2_I0 fun _ _ _ => rp_bl⟩
theorem c_eq (hu : X.A.units + 64 < cLine) : Cmp X cl .Eq (fun x y H Q => rEq x y H Q ∨ rEqD X.K x y H Q) dEq := ⟨op_eqA hu, op2_eq⟩
theorem c_ne (hu : X.A.units + 64 < cLine) : Cmp X cl .NotEq (fun x y H Q => rNe x y H Q ∨ rNeD X.K x y H Q) dNe := ⟨op_neA hu, op2_ne⟩
theorem c_isN : Cmp X cl .Is (fun x y H Q => y = .non ∧ Q (.bl (decide (x = .non))) H) dIsN := ⟨op_isN, op2_isN⟩
theorem c_notN : Cmp X cl .IsNot (fun x y H Q => y = .non ∧ Q (.bl (!decide (x = .non))) H) dNotN := ⟨op_notN, op2_notN⟩
def dIsB : D → D → R D
  | .bl a, .bl b => .ok (.bl (decide (a = b)))
  | _, _ => .st
def dNotB : D → D → R D
  | .bl a, .bl b => .ok (.bl (!decide (a = b)))
  | _, _ => .st
theorem c_isB : Cmp X cl .Is (fun x y H Q => ∃ a b, x = .bl a ∧ y = .bl b ∧ Q (.bl (decide (a = b))) H) dIsB := ⟨op_is_bl, fun W σ F H x y dx dy Q e rx ry p => by
  cases dx <;> cases dy <;> try exact False.elim p
  exact ⟨_, _, rx.bl_inv, ry.bl_inv, post_ok (W := W) (σ := σ) p e rp_bl⟩⟩
theorem c_notB : Cmp X cl .IsNot (fun x y H Q => ∃ a b, x = .bl a ∧ y = .bl b ∧ Q (.bl (!decide (a = b))) H) dNotB := ⟨op_isnot_bl, fun W σ F H x y dx dy Q e rx ry p => by
  cases dx <;> cases dy <;> try exact False.elim p
  exact ⟨_, _, rx.bl_inv, ry.bl_inv, post_ok (W := W) (σ := σ) p e rp_bl⟩⟩
theorem ue_cm {op : CmpOp} {r : R2} {f : D → D → R D} (c : Cmp X cl op r f) (ha : UE X cl W a ta ma) (hb : UE X cl W b tb mb) (hm : behindInMarks op b = false := by rfl) : UE X cl W (.Compare a [op] [b] pos) (tOp r ta tb) (d2 f ma mb) := ue_cmp c.o c.f ha hb hm
theorem ut_cm {op : CmpOp} {r : R2} {f : D → D → R D} (c : Cmp X cl op r f) (ha : UE X cl W a ta ma) (hb : UE X cl W b tb mb) (hm : behindInMarks op b = false := by rfl) : UT X cl W (.Compare a [op] [b] pos) (tTest (tOp r ta tb)) (d1 dBl (d2 f ma mb)) := ut_cmp c.o c.f ha hb hm

/-! ### a look at what is ours -/
def frzs (is : List Nat) (ρ : En) : En := is.foldr frzE ρ
theorem Sr.frzs (S : Sr K cl F0 H0 F H σ ρ) : ∀ is : List Nat, ∃ F', Ex F F' ∧ Sr K cl F0 H0 F' H σ (frzs is ρ)
  | [] => ⟨F, Ex.refl _, S⟩
  | i :: is => by
    obtain ⟨F', e, S'⟩ := Sr.frzs S is
    obtain ⟨F'', e', S''⟩ := S'.frz i
    exact ⟨F'', e.trans e', S''⟩
def dFlat (r : R D) : R D := match r with
  | .ok d => if flatD d = true then .ok d else .st
  | _ => .st
def dPk (is : List Nat) (me : En → R D) : En → R D := fun ρ => dFlat (me (frzs is ρ))
theorem rp_flat_any {F F' : Hp} {v : V} {d : D} (h : flatD d = true) (r : Rp K cl F v d) : Rp K cl F' v d := by
  cases d <;> first | (unfold Rp at r ⊢; exact r) | exact absurd h (by unfold flatD; exact Bool.false_ne_true)
theorem ue_pk (is : List Nat) (he : UE X cl W e te me) : UE X cl W e te (dPk is me) := by
  refine ⟨he.pe, fun F0 H0 F H σ ρ Q S p => ?_⟩
  obtain ⟨F', x, S'⟩ := S.frzs is
  refine he.es F0 H0 F' H σ _ Q S' ?_
  unfold dPk dFlat at p
  cases e1 : me (UP.frzs is ρ) with
  | st => rw [e1] at p; exact p.elim
  | er x => rw [e1] at p; exact p.elim
  | ok d =>
    rw [e1] at p
    have p : Post X.K cl W σ F H Q (if flatD d = true then .ok d else .st) := p
    by_cases hd : flatD d = true
    · rw [if_pos hd] at p
      intro v F1 H1 g r
      exact p v F H1 ⟨Ex.refl _, (x.trans g.f).trans g.s, g.h, fun _ _ _ z => z⟩ (rp_flat_any hd r)
    · rw [if_neg hd] at p; exact p.elim
theorem ue_gi {x : Str} {i : Int} {pos : Pos} (hm : ∃ t, X.mg x = some (.int i t)) (hg : Gl X x := by rfl) (hd : (x == ("__debug__" : Str)) = false := by decide) : UE X cl W (.Name x pos) (tC (.int i)) (dC (.int i)) := by
  obtain ⟨t, hm⟩ := hm
  exact ue_gint hm hg hd
theorem ue_gs {x : Str} {i : Str} {pos : Pos} (hm : ∃ t, X.mg x = some (.str i t)) (hg : Gl X x := by rfl) (hd : (x == ("__debug__" : Str)) = false := by decide) : UE X cl W (.Name x pos) (tC (.str i)) (dC (.str i)) := by
  obtain ⟨t, hm⟩ := hm
  exact ue_gstr hm hg hd
end
end UP
namespace UP
open PySem L2 PyProof.Rows
section
variable {α : Type} {X : Cx} {cl : Str → Option Addr} {W : WX} {K : PySem.W.Frag} {F0 H0 F H F' H' : Hp} {σ : L2.St} {ρ : En} {k v : Expr} {tk tv : TE} {mk mv : En → R D} {pos : Pos}
/-- the size of an int in a slot -/
def natAt (ρ : En) (i : Nat) : Nat := match ρ[i]? with
  | some (Sl.val (D.int k)) => k.natAbs
  | _ => 0
/-! ### dicts -/
def dD0 : En → R DO := fun _ => .ok (.dK [] [])
theorem un_dict0 : UN X cl W (.Dict [] [] pos) tDNewK dD0 := ⟨pe_dnewK, fun F0 H0 F H σ ρ Q S p => fun d hd => p d (.dK []) F _ (Grow.lay' S.ex hd) hd (Grow.fnone S.ex hd) upd_same ⟨[], rfl, rfl, Rps.nil⟩⟩
def dKey : D → Option Key
  | .int i => some (.inl i)
  | .str x => some (.inr x)
  | _ => none
def dD1 : D → D → R DO := fun k v => match dKey k with
  | some q => .ok (.dK [q] [v])
  | none => .st
theorem kV_of {x : V} {d : D} {q : Key} (r : Rp K cl F x d) (h : dKey d = some q) : x = kV q := by
  cases d <;> first | (cases h; exact r.int_inv) | (cases h; exact r.str_inv) | cases h
theorem un_dict1 (hk : UE X cl W k tk mk) (hv : UE X cl W v tv mv) : UN X cl W (.Dict [some k] [v] pos) (tDisp [(tk, tv)]) (d2 dD1 mk mv) := by
  refine ⟨pe_disp (pps_cons hk.pe hv.pe pps_nil) rfl rfl (fun z => by cases z) (by show 1 ≤ 15; decide), fun F0 H0 F H σ ρ Q S p => ?_⟩
  intro a ha
  have g0 := Grow.lay' (o := .dK []) S.ex ha
  unfold d2 at p
  refine hk.es F0 H0 F _ σ ρ _ (S.mono g0) ?_
  cases e1 : mk ρ with
  | st => rw [e1] at p; exact p
  | er x => rw [e1] at p; exact fun c d F1 H1 g q => p c d F1 H1 (g0.trans g) q
  | ok dk =>
    rw [e1, R.bind_ok] at p
    intro x F1 H1 g1 r1
    refine hv.es F0 H0 F1 H1 σ ρ _ ((S.mono g0).mono g1) ?_
    cases e2 : mv ρ with
    | st => rw [e2] at p; exact p
    | er x => rw [e2] at p; exact fun c d F2 H2 g2 q => p c d F2 H2 ((g0.trans g1).trans g2) q
    | ok dv =>
      rw [e2, R.bind_ok] at p
      intro y F2 H2 g2 r2
      unfold dD1 at p
      split at p
      · rename_i q hq
        have hA : H2 a = some (.dK []) := g2.h _ _ (g1.h _ _ upd_same)
        have fA : F2 a = none := g2.n _ _ (g1.h _ _ upd_same) (g1.n _ _ upd_same (Grow.fnone S.ex ha))
        refine ⟨hA, [(q, y)], by simp [kV_of r1 hq], by simp, ?_⟩
        have g := (g0.trans g1).trans g2
        refine p a (.dK [(q, y)]) F2 _ ⟨g.f, fun b u z => ?_, fun b u z => ?_, g.n⟩ ha fA upd_same ⟨[y], rfl, rfl, Rps.cons r2 Rps.nil⟩
        · have : b ≠ a := fun w => by rw [w, fA] at z; cases z
          rw [upd_ne this]; exact g.s b u z
        · have : b ≠ a := fun w => by rw [w, ha] at z; cases z
          rw [upd_ne this]; exact g.h b u z
      · exact p.elim
end
end UP
namespace UP
open PySem L2 PyProof.Rows
/-! ### to reckon with mirrors: equations for simp -/
section
variable {α β γ : Type} {ρ : En}
@[simp] theorem bind_ite {c : Prop} [Decidable c] (a b : R α) (f : α → R β) : R.bind (if c then a else b) f = if c then R.bind a f else R.bind b f := by split <;> rfl
@[simp] theorem d1_ap (f : α → R γ) (a : En → R α) : d1 f a ρ = (a ρ).bind f := id rfl
@[simp] theorem d2_ap (f : α → β → R γ) (a : En → R α) (b : En → R β) : d2 f a b ρ = (a ρ).bind fun x => (b ρ).bind fun y => f x y := id rfl
@[simp] theorem dC_ap (d : D) : dC d ρ = .ok d := id rfl
@[simp] theorem dVar_ap (i : Nat) : dVar i ρ = match ρ[i]? with | some (Sl.val d) => R.ok d | _ => R.st := id rfl
@[simp] theorem dLv_ap (i : Nat) : dLv i ρ = match ρ[i]? with
  | some (Sl.val (D.lst xs)) => R.ok (true, xs)
  | some (Sl.val (D.tup xs)) => R.ok (false, xs)
  | some (Sl.own (DO.lst xs)) => R.ok (true, xs)
  | _ => R.st := id rfl
@[simp] theorem dNil_ap : dNil ρ = .ok [] := id rfl
@[simp] theorem dCons_ap (a : En → R D) (b : En → R (List D)) : dCons a b ρ = (a ρ).bind fun x => (b ρ).bind fun xs => .ok (x :: xs) := id rfl
@[simp] theorem dI0_int (g : Int → Int → D) (i j : Int) : dI0 g (.int i) (.int j) = .ok (g i j) := id rfl
theorem dI_int (C : Int → Int → Prop) [∀ i j, Decidable (C i j)] (g : Int → Int → D) (i j : Int) : dI C g (.int i) (.int j) = if C i j then .ok (g i j) else .st := id rfl
theorem dI_ok {C : Int → Int → Prop} [∀ i j, Decidable (C i j)] {g : Int → Int → D} {i j : Int} (h : C i j) : dI C g (.int i) (.int j) = .ok (g i j) := if_pos h
@[simp] theorem dBl_bl (b : Bool) : dBl (.bl b) = .ok b := id rfl
@[simp] theorem dIx_ap (b : Bool) (xs : List D) (i : Int) : dIx (b, xs) (.int i) = match atI xs i with | some d => .ok d | none => .st := id rfl
@[simp] theorem bLenL_ap (q : Bool × List D) : bLenL q = .ok (.int (q.2.length : Nat)) := id rfl
@[simp] theorem dAdd_int (i j : Int) : dAdd (.int i) (.int j) = .ok (.int (i + j)) := id rfl
@[simp] theorem dEq_int (i j : Int) : dEq (.int i) (.int j) = .ok (.bl (decide (i = j))) := id rfl
@[simp] theorem dNe_int (i j : Int) : dNe (.int i) (.int j) = .ok (.bl (!decide (i = j))) := id rfl
@[simp] theorem dEq_bl (i j : Bool) : dEq (.bl i) (.bl j) = .ok (.bl (decide (i = j))) := id rfl
@[simp] theorem dNeg_int (i : Int) : dNeg (.int i) = .ok (.int (-i)) := id rfl
@[simp] theorem dNotB_bl (i j : Bool) : dNotB (.bl i) (.bl j) = .ok (.bl (!decide (i = j))) := id rfl
@[simp] theorem dIsB_bl (i j : Bool) : dIsB (.bl i) (.bl j) = .ok (.bl (decide (i = j))) := id rfl
@[simp] theorem dAnd_ap (a b : En → R Bool) : dAnd a b ρ = (a ρ).bind fun c => if c = true then b ρ else .ok false := id rfl
@[simp] theorem dOr_ap (a b : En → R Bool) : dOr a b ρ = (a ρ).bind fun c => if c = true then .ok true else b ρ := id rfl
@[simp] theorem dNot_ap (a : En → R Bool) : dNot a ρ = (a ρ).bind fun c => .ok (!c) := id rfl
@[simp] theorem dAndV_ap (a b : En → R D) : dAndV a b ρ = (a ρ).bind fun x => (dBl x).bind fun c => if c = true then b ρ else .ok (.bl false) := id rfl
@[simp] theorem dOrV_ap (a b : En → R D) : dOrV a b ρ = (a ρ).bind fun x => (dBl x).bind fun c => if c = true then .ok (.bl true) else b ρ := id rfl
@[simp] theorem dNotV_ap (a : En → R D) : dNotV a ρ = (a ρ).bind fun x => (dBl x).bind fun c => .ok (.bl (!c)) := id rfl
@[simp] theorem dIfE_ap (c : En → R Bool) (a b : En → R D) : dIfE c a b ρ = (c ρ).bind fun k => if k = true then a ρ else b ρ := id rfl
@[simp] theorem dFz_lst (xs : List D) : dFz (.lst xs) = .ok (.lst xs) := id rfl
@[simp] theorem dFz_dK (ks : List Key) (xs : List D) : dFz (.dK ks xs) = .ok (.dk ks xs) := id rfl
@[simp] theorem dSq_lst (xs : List D) : dSq (.lst xs) = .ok (true, xs) := id rfl
@[simp] theorem dSq_tup (xs : List D) : dSq (.tup xs) = .ok (false, xs) := id rfl
@[simp] theorem dOl_lst (xs : List D) : dOl (.lst xs) = .ok (true, xs) := id rfl
@[simp] theorem dMkT_ap (xs : List D) : dMkT xs = if xs.length ≤ SZ then .ok (.tup xs) else .st := id rfl
@[simp] theorem dMkL_ap (xs : List D) : dMkL xs = if xs.length ≤ SZ then .ok (.lst xs) else .st := id rfl
@[simp] theorem dInt_int (i : Int) : dInt (.int i) = .ok (some i) := id rfl
@[simp] theorem dNoPart_ap : dNoPart ρ = .ok none := id rfl
@[simp] theorem dSl_ap (ml : En → R (Bool × List D)) (mo mh : En → R (Option Int)) : dSl ml mo mh ρ = (ml ρ).bind fun x => (mo ρ).bind fun l => (mh ρ).bind fun h => if x.1 = true then .ok (.lst (cutD x.2 l h)) else .st := id rfl
@[simp] theorem dIt_lst (xs : List D) : dIt (.lst xs) = .ok xs := id rfl
@[simp] theorem dIt_tup (xs : List D) : dIt (.tup xs) = .ok xs := id rfl
@[simp] theorem gSet_ap (i : Nat) (d : D) : gSet i d ρ = .ok (ρ.set i (.val d)) := id rfl
@[simp] theorem bAbs_int (i : Int) : bAbs [.int i] = .ok (.int (if i < 0 then -i else i)) := id rfl
@[simp] theorem bMax2_int (i j : Int) : bMax2 [.int i, .int j] = .ok (.int (if j > i then j else i)) := id rfl
@[simp] theorem bMin2_int (i j : Int) : bMin2 [.int i, .int j] = .ok (.int (if j < i then j else i)) := id rfl
@[simp] theorem dD0_ap : dD0 ρ = .ok (.dK [] []) := id rfl
@[simp] theorem dInts_map (ns : List Int) : dInts (ns.map D.int) = some ns := by
  induction ns with
  | nil => rfl
  | cons n ns ih => simp [dInts, ih]
-- statements
@[simp] theorem fNext_ap : (fNext ρ : Fl α) = .nx ρ := id rfl
@[simp] theorem fThen_nx (k : En → Fl α) : fThen (.nx ρ) k = k ρ := id rfl
@[simp] theorem fThen_rt (a : α) (k : En → Fl α) : fThen (.rt a ρ) k = .rt a ρ := id rfl
@[simp] theorem fThen_bk (k : En → Fl α) : fThen (.bk ρ) k = .bk ρ := id rfl
@[simp] theorem fThen_ct (k : En → Fl α) : fThen (.ct ρ) k = .ct ρ := id rfl
@[simp] theorem fThen_er (x : Exc) (k : En → Fl α) : fThen (.er x ρ) k = .er x ρ := id rfl
@[simp] theorem fThen_st (k : En → Fl α) : fThen .st k = .st := id rfl
@[simp] theorem fThen_ite {c : Prop} [Decidable c] (a b : Fl α) (k : En → Fl α) : fThen (if c then a else b) k = if c then fThen a k else fThen b k := by split <;> rfl
@[simp] theorem fSeq_ap (a b : En → Fl α) : fSeq a b ρ = fThen (a ρ) b := id rfl
@[simp] theorem fOf_ok (d : β) (k : β → Fl α) : fOf (.ok d) ρ k = k d := id rfl
@[simp] theorem fOf_er (x : Exc) (k : β → Fl α) : fOf (.er x) ρ k = .er x ρ := id rfl
@[simp] theorem fOf_st (k : β → Fl α) : fOf .st ρ k = .st := id rfl
@[simp] theorem fOf_ite {c : Prop} [Decidable c] (a b : R β) (k : β → Fl α) : fOf (if c then a else b) ρ k = if c then fOf a ρ k else fOf b ρ k := by split <;> rfl
@[simp] theorem fSet_ap (i : Nat) (me : En → R D) : (fSet i me ρ : Fl α) = fOf (me ρ) ρ fun d => .nx (ρ.set i (.val d)) := id rfl
@[simp] theorem fSetN_ap (i : Nat) (me : En → R DO) : (fSetN i me ρ : Fl α) = fOf (me ρ) ρ fun d => .nx (ρ.set i (.own d)) := id rfl
@[simp] theorem fRet_ap (me : En → R D) : fRet me ρ = fOf (me ρ) ρ fun d => .rt d (wipeA ρ) := id rfl
@[simp] theorem fRetN_ap (me : En → R DO) : fRetN me ρ = fOf (me ρ) ρ fun d => .rt d (wipeA ρ) := id rfl
@[simp] theorem fRetO_ap (i : Nat) : fRetO i ρ = match ρ[i]? with | some (Sl.own o) => .rt o (wipeA ρ) | _ => .st := id rfl
@[simp] theorem fRet0_ap : fRet0 ρ = .rt .non (wipeA ρ) := id rfl
@[simp] theorem wipeA_nil : wipeA [] = [] := id rfl
@[simp] theorem wipeA_cons (s : Sl) (ρ : En) : wipeA (s :: ρ) = .un :: wipeA ρ := id rfl
@[simp] theorem wipeE_nil : wipeE ρ [] = ρ := id rfl
@[simp] theorem wipeE_cons (v : Nat) (vs : List Nat) : wipeE ρ (v :: vs) = (wipeE ρ vs).set v .un := id rfl
@[simp] theorem fWb_ap (Wp : List Nat) (m : En → Fl α) : fWb Wp m ρ = fW Wp (m ρ) := id rfl
@[simp] theorem fWp_ap (Wp : List Nat) (m : En → Fl α) : fWp Wp m ρ = m (wipeE ρ Wp) := id rfl
@[simp] theorem fW_nx (Wp : List Nat) : fW Wp (.nx ρ : Fl α) = .nx (wipeE ρ Wp) := id rfl
@[simp] theorem fW_ct (Wp : List Nat) : fW Wp (.ct ρ : Fl α) = .ct (wipeE ρ Wp) := id rfl
@[simp] theorem fW_bk (Wp : List Nat) : fW Wp (.bk ρ : Fl α) = .bk (wipeE ρ Wp) := id rfl
@[simp] theorem fW_rt (Wp : List Nat) (a : α) : fW Wp (.rt a ρ) = .rt a ρ := id rfl
@[simp] theorem fW_st (Wp : List Nat) : fW Wp (.st : Fl α) = .st := id rfl
@[simp] theorem fW_ite (Wp : List Nat) {c : Prop} [Decidable c] (a b : Fl α) : fW Wp (if c then a else b) = if c then fW Wp a else fW Wp b := by split <;> rfl
@[simp] theorem fIf_ap (mc : En → R Bool) (a b : En → Fl α) : fIf mc a b ρ = fOf (mc ρ) ρ fun c => if c = true then a ρ else b ρ := id rfl
@[simp] theorem fExpr_ap (me : En → R D) : (fExpr me ρ : Fl α) = fOf (me ρ) ρ fun _ => .nx ρ := id rfl
@[simp] theorem fFor_ap (Wp : List Nat) (mi : En → R (List D)) (mg : D → En → R En) (mb : En → Fl α) : fFor Wp mi mg mb ρ = fOf (mi ρ) ρ fun ds => fLoop mg mb ds (wipeE ρ Wp) := id rfl
@[simp] theorem fWhl_ap (fuel : En → Nat) (mc : En → R Bool) (mb : En → Fl α) : fWhl fuel mc mb ρ = fWhile mc mb (fuel ρ) ρ := id rfl
@[simp] theorem fG_ok (k : En → Fl α) : fG (.ok ρ) k = k ρ := id rfl
@[simp] theorem fAft_nx (k : En → Fl α) : fAft (.nx ρ) k = k ρ := id rfl
@[simp] theorem fAft_ct (k : En → Fl α) : fAft (.ct ρ) k = k ρ := id rfl
@[simp] theorem fAft_bk (k : En → Fl α) : fAft (.bk ρ) k = .nx ρ := id rfl
@[simp] theorem fAft_rt (a : α) (k : En → Fl α) : fAft (.rt a ρ) k = .rt a ρ := id rfl
@[simp] theorem fAft_ite {c : Prop} [Decidable c] (a b : Fl α) (k : En → Fl α) : fAft (if c then a else b) k = if c then fAft a k else fAft b k := by split <;> rfl
theorem fLoop_nil (mg : D → En → R En) (mb : En → Fl α) : fLoop mg mb [] ρ = .nx ρ := id rfl
theorem fLoop_cons (mg : D → En → R En) (mb : En → Fl α) (d : D) (ds : List D) : fLoop mg mb (d :: ds) ρ = fG (mg d ρ) fun ρ1 => fAft (mb ρ1) (fLoop mg mb ds) := id rfl
theorem fWhile_succ (mc : En → R Bool) (mb : En → Fl α) (n : Nat) : fWhile mc mb (n + 1) ρ = fOf (mc ρ) ρ fun b => if b = true then fAft (mb ρ) (fWhile mc mb n) else .nx ρ := id rfl
@[simp] theorem fOfX_ok (d : D) (k : D → En → Fl α) : fOfX (.ok (d, ρ)) k = k d ρ := id rfl
@[simp] theorem fApp_ap (i : Nat) (me : En → R (D × En)) : (fApp i me ρ : Fl α) = fOfX (me ρ) fun d ρ => match ρ[i]? with
  | some (Sl.own (DO.lst xs)) => if xs.length < SZ then .nx (ρ.set i (.own (.lst (xs ++ [d])))) else .st
  | _ => .st := id rfl
@[simp] theorem dX_ap (me : En → R D) : dX me ρ = (noer (me ρ)).bind fun d => .ok (d, ρ) := id rfl
@[simp] theorem noer_ok (a : α) : noer (.ok a) = .ok a := id rfl
@[simp] theorem noer_st : noer (.st : R α) = .st := id rfl
@[simp] theorem noer_ite {c : Prop} [Decidable c] (a b : R α) : noer (if c then a else b) = if c then noer a else noer b := by split <;> rfl
@[simp] theorem fFrz_ap (i : Nat) (m : En → Fl α) : fFrz i m ρ = m (frzE i ρ) := id rfl
@[simp] theorem frzE_ap (i : Nat) : frzE i ρ = match ρ[i]? with
  | some (Sl.own o) => match dFz? o with
    | some d => ρ.set i (.val d)
    | none => ρ
  | some (Sl.tr t) => if noT t = true then ρ.set i (.val (frzD t)) else ρ
  | _ => ρ := id rfl
@[simp] theorem dFz?_lst (xs : List D) : dFz? (.lst xs) = some (.lst xs) := id rfl
@[simp] theorem dPk_ap (is : List Nat) (me : En → R D) : dPk is me ρ = dFlat (me (frzs is ρ)) := id rfl
@[simp] theorem frzs_nil : frzs [] ρ = ρ := id rfl
@[simp] theorem frzs_cons (i : Nat) (is : List Nat) : frzs (i :: is) ρ = frzE i (frzs is ρ) := id rfl
@[simp] theorem dFlat_int (i : Int) : dFlat (.ok (.int i)) = .ok (.int i) := id rfl
@[simp] theorem dFlat_bl (i : Bool) : dFlat (.ok (.bl i)) = .ok (.bl i) := id rfl
-- defs
def flV : Fl D → R D
  | .rt d _ => .ok d
  | .nx _ => .ok .non
  | .er x _ => .er x
  | _ => .st
def flN : Fl DO → R DO
  | .rt d _ => .ok d
  | .er x _ => .er x
  | _ => .st
@[simp] theorem runV_ap (n : Nat) (mb : En → Fl D) (ds : List D) : runV n mb ds = flV (mb (startE n ds)) := by
  unfold runV flV; cases mb (startE n ds) <;> rfl
@[simp] theorem runN_ap (n : Nat) (mb : En → Fl DO) (ds : List D) : runN n mb ds = flN (mb (startE n ds)) := by
  unfold runN flN; cases mb (startE n ds) <;> rfl
@[simp] theorem flV_rt (d : D) : flV (.rt d ρ) = .ok d := id rfl
@[simp] theorem flV_nx : flV (.nx ρ) = .ok .non := id rfl
@[simp] theorem flV_st : flV .st = .st := id rfl
@[simp] theorem flV_ite {c : Prop} [Decidable c] (a b : Fl D) : flV (if c then a else b) = if c then flV a else flV b := by split <;> rfl
@[simp] theorem flN_rt (d : DO) : flN (.rt d ρ) = .ok d := id rfl
@[simp] theorem flN_st : flN .st = .st := id rfl
@[simp] theorem flN_ite {c : Prop} [Decidable c] (a b : Fl DO) : flN (if c then a else b) = if c then flN a else flN b := by split <;> rfl
@[simp] theorem startE_ap (n : Nat) (ds : List D) : startE n ds = ds.map Sl.val ++ List.replicate (n - ds.length) .un := id rfl
theorem atI_nat' {α : Type} (xs : List α) (k : Nat) : atI xs (k : Int) = xs[k]? := by
  by_cases h : k < xs.length
  · have e : xs[k]? = some xs[k] := List.getElem?_eq_getElem h
    rw [e]; exact atI_nat e
  · have e : xs[k]? = none := List.getElem?_eq_none (by omega)
    rw [e]
    unfold atI ixN
    have h1 : (0 : Int) ≤ (k : Int) := by omega
    have h2 : ¬ (k : Int) < xs.length := by omega
    rw [if_pos h1, if_neg h2]; rfl
theorem kitB_int_int : kitB "int" "int" = some true := by decide +kernel
theorem kitB_int_bool : kitB "int" "bool" = some false := by decide +kernel
@[simp] theorem isi_int (i : Int) : bIsi [.int i, .ty "int"] = .ok (.bl true) := by simp [bIsi, tyN, kitB_int_int]
@[simp] theorem isi_int_bool (i : Int) : bIsi [.int i, .ty "bool"] = .ok (.bl false) := by simp [bIsi, tyN, kitB_int_bool]
end
end UP
namespace UP
open PySem L2 PyProof.Rows
/-! ### isinstance of a built-in class, by kinds -/
inductive Ty where
  | int | bool | str | list | tuple | dict
  deriving DecidableEq
def Ty.nm : Ty → String
  | .int => "int" | .bool => "bool" | .str => "str" | .list => "list" | .tuple => "tuple" | .dict => "dict"
def isK (t : Ty) : D → R D
  | .non => .ok (.bl false)
  | .bl _ => .ok (.bl (match t with | .int => true | .bool => true | _ => false))
  | .int _ => .ok (.bl (match t with | .int => true | _ => false))
  | .str _ => .ok (.bl (match t with | .str => true | _ => false))
  | .lst _ => .ok (.bl (match t with | .list => true | _ => false))
  | .tup _ => .ok (.bl (match t with | .tuple => true | _ => false))
  | .dk _ _ => .ok (.bl (match t with | .dict => true | _ => false))
  | _ => .st
theorem kit_all : (["NoneType", "bool", "int", "str", "list", "tuple", "dict"].all fun n => [Ty.int, .bool, .str, .list, .tuple, .dict].all fun t => kitB n t.nm == some (n == t.nm || (n == "bool" && t.nm == "int"))) = true := by decide +kernel
theorem kit_at {n : String} {t : Ty} {b : Bool} (h : n ∈ ["NoneType", "bool", "int", "str", "list", "tuple", "dict"]) (e : (n == t.nm || (n == "bool" && t.nm == "int")) = b) : kitB n t.nm = some b := by
  have := List.all_eq_true.mp (List.all_eq_true.mp kit_all n h) t (by cases t <;> decide)
  rw [← e]; exact eq_of_beq this
theorem isK_ok {t : Ty} {d : D} {b : Bool} (h : isK t d = .ok (.bl b)) : ∃ n, tyN d = some n ∧ kitB n t.nm = some b := by
  cases d
  case ty => cases h
  case obj => cases h
  case exc => cases h
  all_goals
    refine ⟨_, rfl, kit_at (by decide) ?_⟩
    unfold isK at h
    cases h
    cases t <;> decide
theorem isK_bl {t : Ty} {d x : D} (h : isK t d = .ok x) : ∃ b, x = .bl b := by
  cases d <;> unfold isK at h <;> cases h <;> exact ⟨_, rfl⟩
section
variable {X : Cx} {cl : Str → Option Addr} {W : WX} {a : Expr} {ta : TE} {ma : En → R D} {p p2 pos : Pos} {x : Str}
theorem boot_ty (t : Ty) : bootBuiltins (Str.ofString t.nm) = some (.type t.nm) := by
  cases t <;> first | exact boot_int | exact boot_bool | exact boot_str | exact boot_list | exact boot_tuple | exact boot_dict
theorem ty_name (t : Ty) : (Str.ofString t.nm) ≠ "__name__" := by cases t <;> decide
theorem ty_dbg (t : Ty) : ((Str.ofString t.nm) == ("__debug__" : Str)) = false := by cases t <;> decide
theorem ue_isi (t : Ty) (hm : X.mg "isinstance" = none) (ht : X.mg (Str.ofString t.nm) = none) (ha : UE X cl W a ta ma) (hg2 : Gl X (Str.ofString t.nm) := by rfl) (hg : Gl X "isinstance" := by rfl)
    (hs1 : starEach (a :: [.Name (Str.ofString t.nm) p2]) X.env = (false, eval a X.env) :: starEach [.Name (Str.ofString t.nm) p2] X.env := by rfl)
    (hs2 : starEach (.Name (Str.ofString t.nm) p2 :: []) X.env = (false, eval (.Name (Str.ofString t.nm) p2) X.env) :: starEach [] X.env := by rfl)
    (hpl : (backTo pos (starEach [.Name (Str.ofString t.nm) p2] X.env)).any (·.1) = false := by rfl) :
    UE X cl W (.Call (.Name "isinstance" p) [a, .Name (Str.ofString t.nm) p2] [] pos) (tCB (rIsi X.K) (tCons ta (tCons (tC (.ty t.nm)) tNil))) (d1 (isK t) ma) := by
  have B : UE X cl W (.Call (.Name "isinstance" p) [a, .Name (Str.ofString t.nm) p2] [] pos) (tCB (rIsi X.K) (tCons ta (tCons (tC (.ty t.nm)) tNil))) (d1 bIsi (dCons ma (dCons (dC (.ty t.nm)) dNil))) :=
    ue_callB call_isi ca_isi hm boot_isinstance (ua_cons ha (ua_cons (ue_bty ht (boot_ty t) hg2 (ty_name t) (ty_dbg t)) ua_nil hs2) hs1) hg (by decide) (by decide) hs1 hpl
  refine ⟨B.pe, fun F0 H0 F H σ ρ Q S p => B.es F0 H0 F H σ ρ Q S ?_⟩
  unfold d1 at p ⊢
  show Post X.K cl W σ F H Q (R.bind (R.bind (ma ρ) fun x => R.bind (R.bind (R.ok (D.ty t.nm)) fun x => R.bind (R.ok []) fun xs => R.ok (x :: xs)) fun xs => R.ok (x :: xs)) bIsi)
  cases e : ma ρ with
  | st => rw [e] at p; exact p
  | er x => rw [e] at p; exact p
  | ok d =>
    rw [e, R.bind_ok] at p
    show Post X.K cl W σ F H Q (bIsi [d, .ty t.nm])
    cases e2 : isK t d with
    | st => rw [e2] at p; exact p.elim
    | er x => cases d <;> (unfold isK at e2; cases e2)
    | ok x =>
      obtain ⟨b, rfl⟩ := isK_bl e2
      rw [e2] at p
      obtain ⟨n, h1, h2⟩ := isK_ok e2
      have : bIsi [d, .ty t.nm] = .ok (.bl b) := by unfold bIsi; simp only [h1, h2]
      rw [this]; exact p
end
section
variable {α : Type} {ρ : En}
@[simp] theorem isK_non (t : Ty) : isK t .non = .ok (.bl false) := id rfl
@[simp] theorem isK_bool (t : Ty) (b : Bool) : isK t (.bl b) = .ok (.bl (match t with | .int => true | .bool => true | _ => false)) := id rfl
@[simp] theorem isK_int (t : Ty) (b : Int) : isK t (.int b) = .ok (.bl (match t with | .int => true | _ => false)) := id rfl
@[simp] theorem isK_str (t : Ty) (b : Str) : isK t (.str b) = .ok (.bl (match t with | .str => true | _ => false)) := id rfl
@[simp] theorem isK_lst (t : Ty) (b : List D) : isK t (.lst b) = .ok (.bl (match t with | .list => true | _ => false)) := id rfl
@[simp] theorem isK_tup (t : Ty) (b : List D) : isK t (.tup b) = .ok (.bl (match t with | .tuple => true | _ => false)) := id rfl
@[simp] theorem isK_dk (t : Ty) (k : List Key) (b : List D) : isK t (.dk k b) = .ok (.bl (match t with | .dict => true | _ => false)) := id rfl

/-! ### loops -/
/-- a loop that runs through: its state told by s -/
theorem fLoop_fold {β γ : Type} {mg : D → En → R En} {mb : En → Fl α} (E : γ → D) (S : β → En) (f : β → γ → β) (Inv : List γ → β → Prop)
    (step : ∀ (pre : List γ) (x : γ) (s : β), Inv pre s → ∃ ρ1, mg (E x) (S s) = .ok ρ1 ∧ (mb ρ1 = .nx (S (f s x)) ∨ mb ρ1 = .ct (S (f s x))) ∧ Inv (pre ++ [x]) (f s x)) :
    ∀ (xs pre : List γ) (s : β), Inv pre s → fLoop mg mb (xs.map E) (S s) = .nx (S (xs.foldl f s)) ∧ Inv (pre ++ xs) (xs.foldl f s)
  | [], pre, s, h => ⟨rfl, by simpa using h⟩
  | x :: xs, pre, s, h => by
    obtain ⟨ρ1, h1, h2, h3⟩ := step pre x s h
    obtain ⟨h4, h5⟩ := fLoop_fold E S f Inv step xs (pre ++ [x]) (f s x) h3
    refine ⟨?_, by simpa using h5⟩
    rw [List.map_cons, fLoop_cons, h1, fG_ok]
    rcases h2 with h2 | h2
    · rw [h2, fAft_nx, h4]; rfl
    · rw [h2, fAft_ct, h4]; rfl
/-- simple: no invariant -/
theorem fLoop_run {β γ : Type} {mg : D → En → R En} {mb : En → Fl α} (E : γ → D) (S : β → En) (f : β → γ → β) (xs : List γ)
    (step : ∀ x ∈ xs, ∀ s : β, ∃ ρ1, mg (E x) (S s) = .ok ρ1 ∧ (mb ρ1 = .nx (S (f s x)) ∨ mb ρ1 = .ct (S (f s x)))) (s : β) : fLoop mg mb (xs.map E) (S s) = .nx (S (xs.foldl f s)) := by
  induction xs generalizing s with
  | nil => rfl
  | cons x xs ih =>
    obtain ⟨ρ1, h1, h2⟩ := step x (by simp) s
    have := ih (fun y hy => step y (by simp [hy])) (f s x)
    rw [List.map_cons, fLoop_cons, h1, fG_ok]
    rcases h2 with h2 | h2
    · rw [h2, fAft_nx, this]; rfl
    · rw [h2, fAft_ct, this]; rfl
/-- a loop that changes nothing and finds nothing: each turn goes on with the same state -/
theorem fLoop_pass {γ : Type} {mg : D → En → R En} {mb : En → Fl α} (E : γ → D) (ρ : En) (xs : List γ)
    (step : ∀ x ∈ xs, ∃ ρ1, mg (E x) ρ = .ok ρ1 ∧ (mb ρ1 = .nx ρ ∨ mb ρ1 = .ct ρ)) : fLoop mg mb (xs.map E) ρ = .nx ρ := by
  have := fLoop_run (α := α) (mg := mg) (mb := mb) E (fun _ : Unit => ρ) (fun _ _ => ()) xs (fun x hx _ => step x hx) ()
  exact this
/-- a loop that is left by a return -/
theorem fLoop_ret {γ : Type} {mg : D → En → R En} {mb : En → Fl α} (E : γ → D) (ρ : En) (a : α) (ρr : En) (p : γ → Bool) (xs : List γ)
    (step : ∀ x ∈ xs, ∃ ρ1, mg (E x) ρ = .ok ρ1 ∧ mb ρ1 = if p x = true then .rt a ρr else .nx ρ) : fLoop mg mb (xs.map E) ρ = if xs.any p = true then .rt a ρr else .nx ρ := by
  induction xs with
  | nil => rfl
  | cons x xs ih =>
    obtain ⟨ρ1, h1, h2⟩ := step x (by simp)
    have := ih fun y hy => step y (by simp [hy])
    rw [List.map_cons, fLoop_cons, h1, fG_ok, h2]
    by_cases hp : p x = true
    · simp [hp]
    · rw [if_neg hp, fAft_nx, this, List.any_cons, Bool.eq_false_iff.mpr hp, Bool.false_or]
/-- a comprehension -/
theorem dLcGo_map {γ : Type} {gm : D → En → R En} {tm : En → R Bool} {em : En → R D} {ρw : En} (E : γ → D) (p : γ → Bool) (f : γ → D) : ∀ (xs : List γ),
    (∀ x ∈ xs, ∃ ρ1, gm (E x) ρw = .ok ρ1 ∧ tm ρ1 = .ok (p x) ∧ (p x = true → em ρ1 = .ok (f x))) → dLcGo gm tm em ρw (xs.map E) = .ok ((xs.filter p).map f)
  | [], _ => rfl
  | x :: xs, h => by
    obtain ⟨ρ1, h1, h2, h3⟩ := h x (by simp)
    have ih := dLcGo_map E p f xs fun y hy => h y (by simp [hy])
    show (gm (E x) ρw).bind _ = _
    rw [h1, R.bind_ok, h2, R.bind_ok]
    by_cases hp : p x = true
    · rw [if_pos hp, h3 hp, R.bind_ok, ih, R.bind_ok, List.filter_cons_of_pos hp, List.map_cons]
    · rw [if_neg hp, ih, List.filter_cons_of_neg hp]
theorem dLc_map {γ : Type} {vs : List Nat} {mi : En → R (List D)} {gm : D → En → R En} {tm : En → R Bool} {em : En → R D} (E : γ → D) (p : γ → Bool) (f : γ → D) (xs : List γ) (hi : mi ρ = .ok (xs.map E)) (hz : xs.length ≤ SZ)
    (h : ∀ x ∈ xs, ∃ ρ1, gm (E x) (wipeE ρ vs) = .ok ρ1 ∧ tm ρ1 = .ok (p x) ∧ (p x = true → em ρ1 = .ok (f x))) : dLc vs mi gm tm em ρ = .ok (.lst ((xs.filter p).map f)) := by
  unfold dLc
  rw [hi, R.bind_ok, List.length_map, if_pos hz, dLcGo_map E p f xs h]
  rfl
theorem dLc_all {γ : Type} {vs : List Nat} {mi : En → R (List D)} {gm : D → En → R En} {em : En → R D} (E : γ → D) (f : γ → D) (xs : List γ) (hi : mi ρ = .ok (xs.map E)) (hz : xs.length ≤ SZ)
    (h : ∀ x ∈ xs, ∃ ρ1, gm (E x) (wipeE ρ vs) = .ok ρ1 ∧ em ρ1 = .ok (f x)) : dLc vs mi gm dYes em ρ = .ok (.lst (xs.map f)) := by
  have := dLc_map (tm := dYes) (ρ := ρ) (vs := vs) (mi := mi) (gm := gm) (em := em) E (fun _ => true) f xs hi hz fun x hx => let ⟨ρ1, h1, h2⟩ := h x hx; ⟨ρ1, h1, rfl, fun _ => h2⟩
  rw [this, List.filter_eq_self.mpr (fun _ _ => rfl)]
@[simp] theorem dRange_eq (lo : Int) (n : Nat) : dRange lo n = (List.range n).map fun k => D.int (lo + (k : Nat)) := id rfl
end
end UP
namespace UP
open PySem L2 PyProof.Rows
/-! ### defs with one default -/
section
variable {P : Program} {w : World} {K : PySem.W.Frag} {mg : Str → Option Value} {base : Heap} {cl : Str → Option Addr}
theorem fund_mk {x qual : Str} {st : Stmt} {f T : Addr} {oc c2 : Value} {od an d2 : Option Addr} {osl s2 : Array (Option Value)} {kV doc pm cdv ct u : Value} {n : Nat} {v : V}
    (l : K.lookup f = some ⟨oc, od, .func (PySem.W.fnOf x qual (defArgs st) (defBody st) (defScope st) (.ref T) kV doc pm an cdv ct), osl⟩)
    (c : PySem.W.codeIn K cdv qual = true) (k : PySem.W.keepIn K (.ref f) = true) (d : K.lookup T = some ⟨c2, d2, .seq #[u] n, s2⟩) (r : RelV v u) :
    FunD K x qual (defArgs st) (defBody st) (defScope st) [v] [] f (PySem.W.fnOf x qual (defArgs st) (defBody st) (defScope st) (.ref T) kV doc pm an cdv ct) :=
  ⟨⟨oc, od, .ref T, kV, doc, pm, an, cdv, ct, osl, rfl, l, c, .inr ⟨by simp, T, _, [u], n, rfl, d, rfl, .cons r .nil⟩, .inl rfl⟩, k⟩
theorem def_VD {x qual : Str} {st : Stmt} {f : Addr} {fd : FuncData} {N ps : List Str} {k : Nat} {mb : En → Fl D} {dvs : List V} {kws : List (Str × V)} (F : FunD K x qual (defArgs st) (defBody st) (defScope st) dvs kws f fd) (S : FnScope N ps (defScope st)) (hn : ps.length ≤ N.length)
    (hb : ∀ (cdv : Value) (A : Around) (outer : List Env) (s : Shared) (H : Hp) (E : XK), Room k (A.deeper (envOfC qual (defScope st) s.heap.objs.size f cdv)) →
      ∃ t, USs (cxOf (L2N.CX P w) P w K mg base N qual (defScope st) f cdv A outer s H E) cl (WD E) [] (RPV K cl []) (defBody st) t mb) : FnOk P w K mg base (L2N.CX P w) (k + 1) f fd ps (spV K cl ps.length (runV N.length mb)) := by
  refine F.ok S (fun vs H Q E ⟨ds, F, _, _, h, _⟩ => h) (fun cdv A outer s H vs Q E hr h => ?_)
  obtain ⟨ds, Fh, ex, r, hl, p⟩ := h
  obtain ⟨t, U⟩ := hb cdv A outer s H E hr
  refine ⟨t, U.pe, U.es Fh H Fh H _ _ _ (sr_start ex r (by omega)) (fun q hq => by cases hq) ?_⟩
  unfold runV at p
  cases e : mb (startE N.length ds) with
  | nx ρ => rw [e] at p; exact fun σ F' H' _ S' _ => p .non F' H' S'.grow rp_non
  | rt d ρ => rw [e] at p; exact fun v σ F' H' S' _ r' => p v F' H' S'.grow r'
  | bk ρ => rw [e] at p; exact p.elim
  | ct ρ => rw [e] at p; exact p.elim
  | er x ρ => rw [e] at p; exact fun c d σ F' H' _ S' _ r' => p c d F' H' S'.grow r'
  | st => rw [e] at p; exact p.elim
theorem def_ND {x qual : Str} {st : Stmt} {f : Addr} {fd : FuncData} {N ps : List Str} {k : Nat} {mb : En → Fl DO} {dvs : List V} {kws : List (Str × V)} (F : FunD K x qual (defArgs st) (defBody st) (defScope st) dvs kws f fd) (S : FnScope N ps (defScope st)) (hn : ps.length ≤ N.length)
    (hb : ∀ (cdv : Value) (A : Around) (outer : List Env) (s : Shared) (H : Hp) (E : XK), Room k (A.deeper (envOfC qual (defScope st) s.heap.objs.size f cdv)) →
      ∃ t, USs (cxOf (L2N.CX P w) P w K mg base N qual (defScope st) f cdv A outer s H E) cl (WD E) [] (RPN K cl []) (defBody st) t mb) : FnOk P w K mg base (L2N.CX P w) (k + 1) f fd ps (spN K cl ps.length (runN N.length mb)) := by
  refine F.ok S (fun vs H Q E ⟨ds, F, _, _, h, _⟩ => h) (fun cdv A outer s H vs Q E hr h => ?_)
  obtain ⟨ds, Fh, ex, r, hl, p⟩ := h
  obtain ⟨t, U⟩ := hb cdv A outer s H E hr
  refine ⟨t, U.pe, U.es Fh H Fh H _ _ _ (sr_start ex r (by omega)) (fun q hq => by cases hq) ?_⟩
  unfold runN at p
  cases e : mb (startE N.length ds) with
  | nx ρ => rw [e] at p; exact p.elim
  | rt d ρ => rw [e] at p; exact fun q ho σ F' H' S' _ h1 h2 h3 h4 => p q ho F' H' S'.grow h4 h1 h2 h3
  | bk ρ => rw [e] at p; exact p.elim
  | ct ρ => rw [e] at p; exact p.elim
  | er x ρ => rw [e] at p; exact fun c d σ F' H' _ S' _ r' => p c d F' H' S'.grow r'
  | st => rw [e] at p; exact p.elim
theorem binds_nil {fd : FuncData} {ps : List Str} (h : ∃ ds, Vals [] ds ∧ Binds K fd ps ds) : Binds K fd ps [] := by
  obtain ⟨ds, r, b⟩ := h
  cases r; exact b
/-- a def that can be called by its name with the last argument left out -/
def CalD (P : Program) (w : World) (K : PySem.W.Frag) (mg : Str → Option Value) (base : Heap) (k : Nat) (x : Str) (ps : List Str) (v : V) (sp : Sp) : Prop :=
  ∃ (f : Addr) (fd : FuncData) (ds : List Value), FnOk P w K mg base (L2N.CX P w) k f fd ps sp ∧ mg x = some (.ref f) ∧ PySem.W.keepIn K (.ref f) = true ∧ Binds K fd ps ds ∧ Vals [v] ds
end
section
variable {X : Cx} {cl : Str → Option Addr} {W : WX} {K : PySem.W.Frag} {σ : L2.St} {F H F' H' : Hp} {x : Str} {ps : List Str} {p pos : Pos} {e : Expr} {es : List Expr} {t : TA} {k n : Nat}
theorem dNil_len1 : ∀ ρ ds, dNil ρ = .ok ds → ds.length + 1 = 1 := fun ρ ds h => by cases h; rfl
theorem dCons_len1 {a : En → R D} {b : En → R (List D)} {n : Nat} (h : ∀ ρ ds, b ρ = .ok ds → ds.length + 1 = n) : ∀ ρ ds, dCons a b ρ = .ok ds → ds.length + 1 = n + 1 := fun ρ ds q => by
  unfold dCons d2 at q
  cases e : a ρ with
  | st => rw [e] at q; cases q
  | er x => rw [e] at q; cases q
  | ok d =>
    rw [e, R.bind_ok] at q
    cases e2 : b ρ with
    | st => rw [e2] at q; cases q
    | er x => rw [e2] at q; cases q
    | ok r =>
      rw [e2] at q; cases q
      rw [List.length_cons, h ρ r e2]
theorem ue_callD {ma : En → R (List D)} {m : List D → R D} {v : V} {dv : D} (hv : ∀ F, Rp X.K cl F v dv) (G : CalD X.prog X.w X.K X.mg X.base k x ps v (spV X.K cl n m)) (hr : Room k X.A) (tk : L2N.Takes X W) (hn : ps.length = n) (ha : UA X cl W (e :: es) t ma) (hl : ∀ ρ ds, ma ρ = .ok ds → ds.length + 1 = n) (hg : Gl X x := by rfl)
    (hdb : (x == ("__debug__" : Str)) = false := by decide) (he : starEach (e :: es) X.env = (false, eval e X.env) :: starEach es X.env := by rfl) (hpl : (backTo pos (starEach es X.env)).any (·.1) = false := by rfl) :
    UE X cl W (.Call (.Name x p) (e :: es) [] pos) (tCallSD (spV X.K cl n m) [v] (WE W) t) (d1 (fun ds => m (ds ++ [dv])) ma) := by
  obtain ⟨f, fd, dsv, F, hm, hk, hb, hvs⟩ := G
  refine ⟨pe_callSD F hr hg hm hk hb hvs (fun σ => L2N.passAt tk σ) ha.pe hdb he hpl, fun F0 H0 F H σ ρ Q S p => ha.es F0 H0 F H σ ρ _ S ?_⟩
  unfold d1 at p
  cases e : ma ρ with
  | st => rw [e] at p; exact p
  | er x => rw [e] at p; exact p
  | ok ds =>
    rw [e, R.bind_ok] at p
    intro vs F1 H1 g r
    refine ⟨ds ++ [dv], F1, g.s, r.append (Rps.cons (hv F1) Rps.nil), by rw [List.length_append, r.length]; exact hl ρ ds e, ?_⟩
    cases e2 : m (ds ++ [dv]) with
    | st => rw [e2] at p; exact p
    | er x => rw [e2] at p; exact fun c d F2 H2 g2 q => p c d F2 H2 (g.trans g2) q
    | ok d => rw [e2] at p; exact fun v F2 H2 g2 q => p v F2 H2 (g.trans g2) q
theorem un_callD {ma : En → R (List D)} {m : List D → R DO} {v : V} {dv : D} (hv : ∀ F, Rp X.K cl F v dv) (G : CalD X.prog X.w X.K X.mg X.base k x ps v (spN X.K cl n m)) (hr : Room k X.A) (tk : L2N.Takes X W) (hn : ps.length = n) (ha : UA X cl W (e :: es) t ma) (hl : ∀ ρ ds, ma ρ = .ok ds → ds.length + 1 = n) (hg : Gl X x := by rfl)
    (hdb : (x == ("__debug__" : Str)) = false := by decide) (he : starEach (e :: es) X.env = (false, eval e X.env) :: starEach es X.env := by rfl) (hpl : (backTo pos (starEach es X.env)).any (·.1) = false := by rfl) :
    UN X cl W (.Call (.Name x p) (e :: es) [] pos) (tCallSD (spN X.K cl n m) [v] (WE W) t) (d1 (fun ds => m (ds ++ [dv])) ma) := by
  obtain ⟨f, fd, dsv, F, hm, hk, hb, hvs⟩ := G
  refine ⟨pe_callSD F hr hg hm hk hb hvs (fun σ => L2N.passAt tk σ) ha.pe hdb he hpl, fun F0 H0 F H σ ρ Q S p => ha.es F0 H0 F H σ ρ _ S ?_⟩
  unfold d1 at p
  cases e : ma ρ with
  | st => rw [e] at p; exact p
  | er x => rw [e] at p; exact p
  | ok ds =>
    rw [e, R.bind_ok] at p
    intro vs F1 H1 g r
    refine ⟨ds ++ [dv], F1, g.s, r.append (Rps.cons (hv F1) Rps.nil), by rw [List.length_append, r.length]; exact hl ρ ds e, ?_⟩
    cases e2 : m (ds ++ [dv]) with
    | st => rw [e2] at p; exact p
    | er x => rw [e2] at p; exact fun c d F2 H2 g2 q => p c d F2 H2 (g.trans g2) q
    | ok o => rw [e2] at p; exact fun q ho F2 H2 g2 h0 h1 h2 h3 => p q ho F2 H2 (g.trans g2) (g.old q h0) h1 h2 h3
end
end UP
namespace UP
open PySem L2 PyProof.Rows
/-! ### plain facts -/
theorem band_nat (a b : Nat) : Builtin.bitAnd (a : Int) (b : Int) = ((a &&& b : Nat) : Int) := by
  rw [PyProof.Rows.bitAnd_pp (by omega) (by omega)]; simp
theorem bor_nat (a b : Nat) : Builtin.bitOr (a : Int) (b : Int) = ((a ||| b : Nat) : Int) := by
  rw [PyProof.Rows.bitOr_and, band_nat]
  have : ∀ n a b : Nat, a < 2 ^ n → (a ||| b) + (a &&& b) = a + b := by
    intro n
    induction n with
    | zero => intro a b h; have : a = 0 := by omega
              subst this; simp
    | succ n ih =>
      intro a b h
      have h2 := ih (a / 2) (b / 2) (by omega)
      rw [← Nat.or_div_two, ← Nat.and_div_two] at h2
      have m1 : (a ||| b) % 2 = (a % 2 ||| b % 2) := by
        have := Nat.or_mod_two_pow (a := a) (b := b) (n := 1); simpa using this
      have m2 : (a &&& b) % 2 = (a % 2 &&& b % 2) := by
        have := Nat.and_mod_two_pow (a := a) (b := b) (n := 1); simpa using this
      rcases Nat.mod_two_eq_zero_or_one a with x | x <;> rcases Nat.mod_two_eq_zero_or_one b with y | y <;> rw [x, y] at m1 m2 <;> simp only [Nat.zero_or, Nat.or_zero, Nat.or_self, Nat.and_self, Nat.zero_and, Nat.and_zero] at m1 m2 <;> omega
  have := this a a b Nat.lt_two_pow_self
  omega
theorem fdiv_nat (a b : Nat) : Int.fdiv (a : Int) (b : Int) = ((a / b : Nat) : Int) := by
  rw [Int.fdiv_eq_ediv_of_nonneg _ (by omega)]; rfl
theorem fmod_nat (a b : Nat) : Int.fmod (a : Int) (b : Int) = ((a % b : Nat) : Int) := by
  rw [Int.fmod_eq_emod_of_nonneg _ (by omega)]; rfl
theorem fmod_lt (a : Int) {b : Int} (h : 0 < b) : 0 ≤ a.fmod b ∧ a.fmod b < b := ⟨Int.fmod_nonneg_of_pos a h, Int.fmod_lt_of_pos a h⟩
/-- a rest, as a natural number -/
theorem fmod_is (a : Int) (b : Nat) (h : 0 < b) : ∃ k : Nat, k < b ∧ a.fmod (b : Int) = (k : Int) := by
  have := fmod_lt a (b := b) (by omega)
  exact ⟨(a.fmod b).toNat, by omega, by omega⟩
theorem divA (i : Int) {j : Int} (h : 0 < j) (h2 : j < 1073741824) : CDivA i j := .inl ⟨by omega, by omega⟩
theorem mulA (i : Int) {j : Int} (h : -(2 ^ 64) < j) (h2 : j < 2 ^ 64) : CMulA i j := .inl (.inr ⟨h, h2⟩)
theorem mulA' {i : Int} (j : Int) (h : -(2 ^ 64) < i) (h2 : i < 2 ^ 64) : CMulA i j := .inl (.inl ⟨h, h2⟩)
@[simp] theorem fmod_lit (x : Int) (n : Nat) : Int.fmod x (no_index (@OfNat.ofNat Int n instOfNat)) = x % (@OfNat.ofNat Int n instOfNat) := Int.fmod_eq_emod_of_nonneg _ (by show (0 : Int) ≤ (n : Int); omega)
@[simp] theorem fdiv_lit (x : Int) (n : Nat) : Int.fdiv x (no_index (@OfNat.ofNat Int n instOfNat)) = x / (@OfNat.ofNat Int n instOfNat) := Int.fdiv_eq_ediv_of_nonneg _ (by show (0 : Int) ≤ (n : Int); omega)
@[simp] theorem dMod_lit (i : Int) (n : Nat) (h : n ≠ 0) : dMod (.int i) (.int (no_index (@OfNat.ofNat Int n instOfNat))) = .ok (.int (i % (@OfNat.ofNat Int n instOfNat))) := by
  have : (fun _ j : Int => j ≠ 0) i (@OfNat.ofNat Int n instOfNat) := by show ((n : Int)) ≠ 0; omega
  rw [← fmod_lit]; exact dI_ok this
@[simp] theorem dFdiv_lit (i : Int) (n : Nat) (h : 0 < n ∧ n < 1073741824) : dFdiv (.int i) (.int (no_index (@OfNat.ofNat Int n instOfNat))) = .ok (.int (i / (@OfNat.ofNat Int n instOfNat))) := by
  have h1 : (0 : Int) < (@OfNat.ofNat Int n instOfNat) := by show (0 : Int) < (n : Int); omega
  have h2 : (@OfNat.ofNat Int n instOfNat) < (1073741824 : Int) := by show (n : Int) < 1073741824; omega
  rw [← fdiv_lit]; exact dI_ok (.inl ⟨by omega, by omega⟩)
@[simp] theorem dMul_lit (i : Int) (n : Nat) (h : n < 18446744073709551616) : dMul (.int i) (.int (no_index (@OfNat.ofNat Int n instOfNat))) = .ok (.int (i * (@OfNat.ofNat Int n instOfNat))) := by
  have h1 : (-(2 ^ 64) : Int) < (@OfNat.ofNat Int n instOfNat) := by show (-(2 ^ 64) : Int) < (n : Int); omega
  have h2 : (@OfNat.ofNat Int n instOfNat) < (2 ^ 64 : Int) := by show (n : Int) < 2 ^ 64; omega
  exact dI_ok (.inl (.inr ⟨h1, h2⟩))
@[simp] theorem dMul_lit' (i : Int) (n : Nat) (h : n < 18446744073709551616) : dMul (.int (no_index (@OfNat.ofNat Int n instOfNat))) (.int i) = .ok (.int ((@OfNat.ofNat Int n instOfNat) * i)) := by
  have h1 : (-(2 ^ 64) : Int) < (@OfNat.ofNat Int n instOfNat) := by show (-(2 ^ 64) : Int) < (n : Int); omega
  have h2 : (@OfNat.ofNat Int n instOfNat) < (2 ^ 64 : Int) := by show (n : Int) < 2 ^ 64; omega
  exact dI_ok (.inl (.inl ⟨h1, h2⟩))
@[simp] theorem dPow_lit (i n : Nat) (h : n ≤ 1000000 ∧ i < 18446744073709551616) : dPow (.int (no_index (@OfNat.ofNat Int i instOfNat))) (.int (no_index (@OfNat.ofNat Int n instOfNat))) = .ok (.int ((@OfNat.ofNat Int i instOfNat) ^ n)) := by
  have h1 : CPow (@OfNat.ofNat Int i instOfNat) (@OfNat.ofNat Int n instOfNat) := by
    show (0 : Int) ≤ (n : Int) ∧ (n : Int) ≤ 1000000 ∧ ((i : Nat) : Int).natAbs < 2 ^ 64
    omega
  exact dI_ok h1
@[simp] theorem dShr_nat (i : Int) (k : Nat) : dShr (.int i) (.int (k : Int)) = .ok (.int (i / 2 ^ k)) := by
  have h : (0 : Int) ≤ (k : Int) := by omega
  have := dI_ok (C := fun _ j : Int => 0 ≤ j) (g := fun i j => D.int (i / 2 ^ j.toNat)) (i := i) (j := (k : Int)) h
  rw [Int.toNat_natCast] at this
  exact this
@[simp] theorem dShr_lit (i : Int) (k : Nat) : dShr (.int i) (.int (no_index (@OfNat.ofNat Int k instOfNat))) = .ok (.int (i / 2 ^ k)) := dShr_nat i k
theorem dShl_nat (i : Int) (k : Nat) (h : k ≤ 1000000 ∧ i.natAbs < 18446744073709551616) : dShl (.int i) (.int (k : Int)) = .ok (.int (i * 2 ^ k)) := by
  have h : CPow i (k : Int) := by
    show (0 : Int) ≤ (k : Int) ∧ (k : Int) ≤ 1000000 ∧ i.natAbs < 2 ^ 64
    omega
  have := dI_ok (C := CPow) (g := fun i j => D.int (i * 2 ^ j.toNat)) (i := i) (j := (k : Int)) h
  rw [Int.toNat_natCast] at this
  exact this
@[simp] theorem dShl_one (k : Nat) (h : k ≤ 1000000) : dShl (.int 1) (.int (k : Int)) = .ok (.int (2 ^ k)) := by
  rw [dShl_nat 1 k ⟨h, by decide⟩, Int.one_mul]
@[simp] theorem dShl_one_lit (k : Nat) (h : k ≤ 1000000) : dShl (.int 1) (.int (no_index (@OfNat.ofNat Int k instOfNat))) = .ok (.int (2 ^ k)) := dShl_one k h
theorem dRng1_ok {j : Int} (h : -(2 ^ 62) ≤ j ∧ j < 2 ^ 62) : dRng1 [.int j] = .ok (dRange 0 j.toNat) := if_pos h
@[simp] theorem dRng1_nat (n : Nat) : dRng1 [.int (n : Int)] = if n < 4611686018427387904 then .ok (dRange 0 n) else .st := by
  by_cases h : n < 4611686018427387904
  · have e := dRng1_ok (j := (n : Int)) (by omega)
    rw [if_pos h, e, Int.toNat_natCast]
  · rw [if_neg h]
    have h' : ¬ (-(2 ^ 62) ≤ (n : Int) ∧ (n : Int) < 2 ^ 62) := by omega
    simp only [dRng1, if_neg h']
@[simp] theorem dRng1_lit (n : Nat) : dRng1 [.int (no_index (@OfNat.ofNat Int n instOfNat))] = if n < 4611686018427387904 then .ok (dRange 0 n) else .st := by
  have := dRng1_nat n
  exact this
@[simp] theorem fSetItem_ap {α : Type} {ρ : En} (i : Nat) (mk me : En → R D) : (fSetItem i mk me ρ : Fl α) = fOf (me ρ) ρ fun d => fOf (noer (mk ρ)) ρ fun k => fSetItemV i ρ d k := id rfl
theorem fSetItemV_at {α : Type} {ρ : En} {i : Nat} {xs : List D} {k : Nat} {d : D} (h : ρ[i]? = some (.own (.lst xs))) (hk : k < xs.length) : (fSetItemV i ρ d (.int (k : Int)) : Fl α) = .nx (ρ.set i (.own (.lst (xs.set k d)))) := by
  unfold fSetItemV
  have e : ixN xs.length (k : Int) = some k := by
    unfold ixN
    rw [if_pos (by omega), if_pos (by omega)]
    simp
  simp only [h, e]
@[simp] theorem fSetItemV_nat {α : Type} {ρ : En} (i : Nat) (d : D) (k : Nat) : (fSetItemV i ρ d (.int (k : Int)) : Fl α) = match ρ[i]? with
  | some (Sl.own (DO.lst xs)) => if k < xs.length then .nx (ρ.set i (.own (.lst (xs.set k d)))) else .st
  | _ => .st := by
  split
  · rename_i xs h
    by_cases hk : k < xs.length
    · rw [if_pos hk, fSetItemV_at h hk]
    · rw [if_neg hk]
      unfold fSetItemV
      have e : ixN xs.length (k : Int) = none := by
        unfold ixN
        rw [if_pos (by omega), if_neg (by omega)]
      simp only [h, e]
  · rename_i h
    show (match ρ[i]? with
      | some (.own (.lst xs)) => match ixN xs.length (k : Int) with
        | some j => (.nx (ρ.set i (.own (.lst (xs.set j d)))) : Fl α)
        | none => .st
      | _ => .st) = .st
    split
    · rename_i xs h2
      exact (h xs h2).elim
    · rfl
@[simp] theorem fSetItemV_lit {α : Type} {ρ : En} (i : Nat) (d : D) (k : Nat) : (fSetItemV i ρ d (.int (no_index (@OfNat.ofNat Int k instOfNat))) : Fl α) = match ρ[i]? with
  | some (Sl.own (DO.lst xs)) => if k < xs.length then .nx (ρ.set i (.own (.lst (xs.set k d)))) else .st
  | _ => .st := fSetItemV_nat i d k
def isT : R D → Bool
  | .ok (.bl true) => true
  | _ => false
theorem isT_ok {r : R D} (h : isT r = true) : r = .ok (.bl true) := by
  unfold isT at h
  split at h
  · rfl
  · cases h
theorem all_lt {n : Nat} {p : Nat → Bool} (h : (List.range n).all p = true) {a : Nat} (ha : a < n) : p a = true := List.all_eq_true.mp h a (List.mem_range.mpr ha)
theorem lt_SZ {n : Nat} (h : n < 16777216) : n < SZ := h
theorem sz_nat {n : Nat} (h : n ≤ 16777216) : n ≤ SZ := h
end UP
namespace UP
open PySem L2 PyProof.Rows
/-! ### equality of plain data (None, ints, texts, lists, tuples: no truths) -/
def pl : Nat → D → Bool
  | _, .non => true
  | _, .int _ => true
  | _, .str x => PyData.canLay0 (.str x)
  | n + 1, .lst xs => xs.all (pl n)
  | n + 1, .tup xs => xs.all (pl n)
  | _, _ => false
theorem toPys_pl {n : Nat} (h : ∀ d, pl n d = true → ∃ y, toPy d = some y ∧ y.canLay0 = true ∧ y.depth ≤ n) : ∀ {xs : List D}, xs.all (pl n) = true → ∃ ys, toPys xs = some ys ∧ PyData.canLayAll0 ys = true ∧ PyData.depthAll ys ≤ n
  | [], _ => ⟨[], rfl, rfl, Nat.zero_le _⟩
  | x :: xs, hx => by
    rw [List.all_cons, Bool.and_eq_true] at hx
    obtain ⟨y, e1, e2, e3⟩ := h x hx.1
    obtain ⟨ys, f1, f2, f3⟩ := toPys_pl h hx.2
    refine ⟨y :: ys, by unfold toPys; rw [e1, f1], by unfold PyData.canLayAll0; rw [e2, f2]; rfl, ?_⟩
    unfold PyData.depthAll
    exact Nat.max_le.mpr ⟨e3, f3⟩
theorem toPy_pl : ∀ (n : Nat) (d : D), pl n d = true → ∃ y, toPy d = some y ∧ y.canLay0 = true ∧ y.depth ≤ n
  | n, .non, _ => ⟨.none, by unfold toPy; rfl, rfl, by unfold PyData.depth; omega⟩
  | n, .int i, _ => ⟨.int i, by unfold toPy; rfl, rfl, by unfold PyData.depth; omega⟩
  | n, .str x, h => ⟨.str x, by unfold toPy; rfl, by cases n <;> exact h, by unfold PyData.depth; omega⟩
  | 0, .lst xs, h => by cases h
  | 0, .tup xs, h => by cases h
  | n + 1, .lst xs, h => by
    obtain ⟨ys, f1, f2, f3⟩ := toPys_pl (toPy_pl n) (xs := xs) h
    exact ⟨.list ys, by unfold toPy; rw [f1]; rfl, by unfold PyData.canLay0; exact f2, by unfold PyData.depth; omega⟩
  | n + 1, .tup xs, h => by
    obtain ⟨ys, f1, f2, f3⟩ := toPys_pl (toPy_pl n) (xs := xs) h
    exact ⟨.tuple ys, by unfold toPy; rw [f1]; rfl, by unfold PyData.canLay0; exact f2, by unfold PyData.depth; omega⟩
  | 0, .bl _, h => by cases h
  | n + 1, .bl _, h => by cases h
  | 0, .ty _, h => by cases h
  | n + 1, .ty _, h => by cases h
  | 0, .dk _ _, h => by cases h
  | n + 1, .dk _ _, h => by cases h
  | 0, .obj _ _ _, h => by cases h
  | n + 1, .obj _ _ _, h => by cases h
  | 0, .exc _ _ _, h => by cases h
  | n + 1, .exc _ _ _, h => by cases h
theorem pl_up : ∀ {n : Nat} {d : D}, pl n d = true → pl (n + 1) d = true
  | n, .non, _ => by cases n <;> rfl
  | n, .int i, _ => by cases n <;> rfl
  | n, .str x, h => by cases n <;> exact h
  | 0, .lst xs, h => by cases h
  | 0, .tup xs, h => by cases h
  | n + 1, .lst xs, h => by
    show xs.all (pl (n + 1)) = true
    exact List.all_eq_true.mpr fun x hx => pl_up (List.all_eq_true.mp (show xs.all (pl n) = true from h) x hx)
  | n + 1, .tup xs, h => by
    show xs.all (pl (n + 1)) = true
    exact List.all_eq_true.mpr fun x hx => pl_up (List.all_eq_true.mp (show xs.all (pl n) = true from h) x hx)
  | 0, .bl _, h => by cases h
  | n + 1, .bl _, h => by cases h
  | 0, .ty _, h => by cases h
  | n + 1, .ty _, h => by cases h
  | 0, .dk _ _, h => by cases h
  | n + 1, .dk _ _, h => by cases h
  | 0, .obj _ _ _, h => by cases h
  | n + 1, .obj _ _ _, h => by cases h
  | 0, .exc _ _ _, h => by cases h
  | n + 1, .exc _ _ _, h => by cases h
theorem eqvAll_pl {n : Nat} (ih : ∀ x z a b, pl n x = true → pl n z = true → toPy x = some a → toPy z = some b → (PyData.eqv a b = true ↔ x = z)) :
    ∀ (xs zs : List D) (as bs : List PyData), xs.all (pl n) = true → zs.all (pl n) = true → toPys xs = some as → toPys zs = some bs → (PyData.eqvAll as bs = true ↔ xs = zs)
  | [], [], as, bs, _, _, e, f => by unfold toPys at e f; cases e; cases f; unfold PyData.eqvAll; simp
  | [], z :: zs, as, bs, _, hz, e, f => by
    obtain ⟨b, _, _⟩ : ∃ b, toPy z = some b ∧ True := by
      rw [List.all_cons, Bool.and_eq_true] at hz
      obtain ⟨y, h, _⟩ := toPy_pl n z hz.1
      exact ⟨y, h, trivial⟩
    unfold toPys at e f; cases e
    split at f
    · cases f; unfold PyData.eqvAll; simp
    · cases f
  | x :: xs, [], as, bs, hx, _, e, f => by
    unfold toPys at e f; cases f
    split at e
    · cases e; unfold PyData.eqvAll; simp
    · cases e
  | x :: xs, z :: zs, as, bs, hx, hz, e, f => by
    rw [List.all_cons, Bool.and_eq_true] at hx hz
    unfold toPys at e f
    split at e
    · rename_i a as' h1 h2
      cases e
      split at f
      · rename_i b bs' h3 h4
        cases f
        unfold PyData.eqvAll
        rw [Bool.and_eq_true, ih x z a b hx.1 hz.1 h1 h3, eqvAll_pl ih xs zs as' bs' hx.2 hz.2 h2 h4]
        simp
      · cases f
    · cases e
theorem pl_cases {n : Nat} {x : D} (h : pl n x = true) : x = .non ∨ (∃ i, x = .int i) ∨ (∃ s, x = .str s) ∨ (∃ m xs, n = m + 1 ∧ x = .lst xs ∧ xs.all (pl m) = true) ∨ (∃ m xs, n = m + 1 ∧ x = .tup xs ∧ xs.all (pl m) = true) := by
  cases x with
  | non => exact .inl rfl
  | int i => exact .inr (.inl ⟨i, rfl⟩)
  | str s => exact .inr (.inr (.inl ⟨s, rfl⟩))
  | lst xs => cases n with
    | zero => cases h
    | succ m => exact .inr (.inr (.inr (.inl ⟨m, xs, rfl, rfl, h⟩)))
  | tup xs => cases n with
    | zero => cases h
    | succ m => exact .inr (.inr (.inr (.inr ⟨m, xs, rfl, rfl, h⟩)))
  | bl b => cases n <;> cases h
  | ty b => cases n <;> cases h
  | dk _ _ => cases n <;> cases h
  | obj _ _ _ => cases n <;> cases h
  | exc _ _ _ => cases n <;> cases h
theorem eqv_pl : ∀ (n : Nat) (x z : D) (a b : PyData), pl n x = true → pl n z = true → toPy x = some a → toPy z = some b → (PyData.eqv a b = true ↔ x = z) := by
  intro n
  induction n with
  | zero =>
    intro x z a b hx hz e f
    rcases pl_cases hx with rfl | ⟨i, rfl⟩ | ⟨s, rfl⟩ | ⟨m, xs, h, _⟩ | ⟨m, xs, h, _⟩
    case inr.inr.inr.inl => cases h
    case inr.inr.inr.inr => cases h
    all_goals
      rcases pl_cases hz with rfl | ⟨j, rfl⟩ | ⟨t, rfl⟩ | ⟨m, xs, h, _⟩ | ⟨m, xs, h, _⟩
      case inr.inr.inr.inl => cases h
      case inr.inr.inr.inr => cases h
      all_goals
        unfold toPy at e f; cases e; cases f; unfold PyData.eqv; simp
  | succ n ih =>
    intro x z a b hx hz e f
    rcases pl_cases hx with rfl | ⟨i, rfl⟩ | ⟨s, rfl⟩ | ⟨m, xs, h, rfl, h2⟩ | ⟨m, xs, h, rfl, h2⟩
    case inr.inr.inr.inl =>
      cases h
      unfold toPy at e
      cases e1 : toPys xs with
      | none => rw [e1] at e; cases e
      | some as =>
        rw [e1] at e; cases e
        rcases pl_cases hz with rfl | ⟨j, rfl⟩ | ⟨t, rfl⟩ | ⟨m, zs, h, rfl, h3⟩ | ⟨m, zs, h, rfl, h3⟩
        case inr.inr.inr.inl =>
          cases h
          unfold toPy at f
          cases f1 : toPys zs with
          | none => rw [f1] at f; cases f
          | some bs =>
            rw [f1] at f; cases f
            unfold PyData.eqv
            rw [eqvAll_pl ih xs zs as bs h2 h3 e1 f1]; simp
        case inr.inr.inr.inr =>
          unfold toPy at f
          cases f1 : toPys zs with
          | none => rw [f1] at f; cases f
          | some bs => rw [f1] at f; cases f; unfold PyData.eqv; simp
        all_goals
          unfold toPy at f; cases f; unfold PyData.eqv; simp
    case inr.inr.inr.inr =>
      cases h
      unfold toPy at e
      cases e1 : toPys xs with
      | none => rw [e1] at e; cases e
      | some as =>
        rw [e1] at e; cases e
        rcases pl_cases hz with rfl | ⟨j, rfl⟩ | ⟨t, rfl⟩ | ⟨m, zs, h, rfl, h3⟩ | ⟨m, zs, h, rfl, h3⟩
        case inr.inr.inr.inr =>
          cases h
          unfold toPy at f
          cases f1 : toPys zs with
          | none => rw [f1] at f; cases f
          | some bs =>
            rw [f1] at f; cases f
            unfold PyData.eqv
            rw [eqvAll_pl ih xs zs as bs h2 h3 e1 f1]; simp
        case inr.inr.inr.inl =>
          unfold toPy at f
          cases f1 : toPys zs with
          | none => rw [f1] at f; cases f
          | some bs => rw [f1] at f; cases f; unfold PyData.eqv; simp
        all_goals
          unfold toPy at f; cases f; unfold PyData.eqv; simp
    all_goals
      rcases pl_cases hz with rfl | ⟨j, rfl⟩ | ⟨t, rfl⟩ | ⟨m, zs, h, rfl, h3⟩ | ⟨m, zs, h, rfl, h3⟩
      case inr.inr.inr.inl =>
        unfold toPy at e f
        cases f1 : toPys zs with
        | none => rw [f1] at f; cases f
        | some bs => rw [f1] at f; cases e; cases f; unfold PyData.eqv; simp
      case inr.inr.inr.inr =>
        unfold toPy at e f
        cases f1 : toPys zs with
        | none => rw [f1] at f; cases f
        | some bs => rw [f1] at f; cases e; cases f; unfold PyData.eqv; simp
      all_goals
        unfold toPy at e f; cases e; cases f; unfold PyData.eqv; simp
theorem eqDeep_pl {n : Nat} {x z : D} (hn : n ≤ 64) (hx : pl n x = true) (hz : pl n z = true) : ∃ b, eqDeep x z = some b ∧ (b = true ↔ x = z) := by
  obtain ⟨a, e1, e2, e3⟩ := toPy_pl n x hx
  obtain ⟨b, f1, f2, f3⟩ := toPy_pl n z hz
  refine ⟨PyData.eqv a b, ?_, eqv_pl n x z a b hx hz e1 f1⟩
  unfold eqDeep
  rw [e1, f1]
  have s1 : SeqAt.shaped a = true := by unfold SeqAt.shaped; rw [e2, Bool.true_and]; exact decide_eq_true (by omega)
  have s2 : SeqAt.shaped b = true := by unfold SeqAt.shaped; rw [f2, Bool.true_and]; exact decide_eq_true (by omega)
  simp only [s1, s2, and_self, if_true]
theorem eqD_pl {n : Nat} {x z : D} (hn : n ≤ 64) (hx : pl n x = true) (hz : pl n z = true) : ∃ b, eqD x z = some b ∧ (b = true ↔ x = z) := by
  unfold eqD
  split
  · exact ⟨_, rfl, by simp⟩
  · exact ⟨_, rfl, by simp⟩
  · exact ⟨_, rfl, by simp⟩
  · exact ⟨_, rfl, by simp⟩
  · exact ⟨_, rfl, by simp⟩
  · exact ⟨_, rfl, by simp⟩
  · exact eqDeep_pl hn hx hz
theorem dEq_pl {n : Nat} {x z : D} (hn : n ≤ 64) (hx : pl n x = true) (hz : pl n z = true) : ∃ b, dEq x z = .ok (.bl b) ∧ (b = true ↔ x = z) := by
  obtain ⟨b, h, h2⟩ := eqD_pl hn hx hz
  exact ⟨b, by unfold dEq; rw [h], h2⟩
theorem dNe_pl {n : Nat} {x z : D} (hn : n ≤ 64) (hx : pl n x = true) (hz : pl n z = true) : ∃ b, dNe x z = .ok (.bl (!b)) ∧ (b = true ↔ x = z) := by
  obtain ⟨b, h, h2⟩ := eqD_pl hn hx hz
  exact ⟨b, by unfold dNe; rw [h], h2⟩
theorem dEq_self {n : Nat} {x : D} (hn : n ≤ 64) (hx : pl n x = true) : dEq x x = .ok (.bl true) := by
  obtain ⟨b, h, h2⟩ := dEq_pl hn hx hx
  rw [h, h2.mpr rfl]
theorem dNe_self {n : Nat} {x : D} (hn : n ≤ 64) (hx : pl n x = true) : dNe x x = .ok (.bl false) := by
  obtain ⟨b, h, h2⟩ := dNe_pl hn hx hx
  rw [h, h2.mpr rfl]; rfl
section
variable {α : Type} {ρ : En}
/-- a loop by its invariant -/
theorem fLoop_ex {mg : D → En → R En} {mb : En → Fl α} (I : Nat → En → Prop) : ∀ (xs : List D) (n : Nat) (ρ : En), I n ρ →
    (∀ i d ρ, xs[i]? = some d → I (n + i) ρ → ∃ ρ1 ρ2, mg d ρ = .ok ρ1 ∧ (mb ρ1 = .nx ρ2 ∨ mb ρ1 = .ct ρ2) ∧ I (n + i + 1) ρ2) → ∃ ρ', fLoop mg mb xs ρ = .nx ρ' ∧ I (n + xs.length) ρ'
  | [], n, ρ, h0, _ => ⟨ρ, rfl, h0⟩
  | x :: xs, n, ρ, h0, step => by
    obtain ⟨ρ1, ρ2, h1, h2, h3⟩ := step 0 x ρ rfl h0
    obtain ⟨ρ', h4, h5⟩ := fLoop_ex (mg := mg) (mb := mb) I xs (n + 1) ρ2 h3 fun i d ρ hd hi => by
      have := step (i + 1) d ρ (by simpa using hd) (by rw [show n + (i + 1) = n + 1 + i by omega]; exact hi)
      rw [show n + 1 + i + 1 = n + (i + 1) + 1 by omega]; exact this
    refine ⟨ρ', ?_, by rw [List.length_cons, show n + (xs.length + 1) = n + 1 + xs.length by omega]; exact h5⟩
    rw [fLoop_cons, h1, fG_ok]
    rcases h2 with h2 | h2
    · rw [h2, fAft_nx, h4]
    · rw [h2, fAft_ct, h4]
/-- over range(n) -/
theorem fLoop_rng {mg : D → En → R En} {mb : En → Fl α} (I : Nat → En → Prop) (n : Nat) (ρ : En) (h0 : I 0 ρ)
    (step : ∀ i ρ, i < n → I i ρ → ∃ ρ1 ρ2, mg (.int (i : Nat)) ρ = .ok ρ1 ∧ (mb ρ1 = .nx ρ2 ∨ mb ρ1 = .ct ρ2) ∧ I (i + 1) ρ2) : ∃ ρ', fLoop mg mb (dRange 0 n) ρ = .nx ρ' ∧ I n ρ' := by
  have := fLoop_ex (mg := mg) (mb := mb) I (dRange 0 n) 0 ρ h0 fun i d ρ hd hi => by
    rw [dRange_eq, List.getElem?_map] at hd
    cases q : (List.range n)[i]? with
    | none => rw [q] at hd; cases hd
    | some k =>
      rw [q] at hd
      obtain ⟨h1, h2⟩ := List.getElem?_eq_some_iff.mp q
      have hin : i < n := by simpa using h1
      have hik : i = k := by simpa using h2
      cases hd
      subst hik
      rw [Nat.zero_add] at hi ⊢
      have := step i ρ hin hi
      simpa using this
  simpa using this
/-- a loop by its invariant, that may be left by a return -/
theorem fLoop_exR {mg : D → En → R En} {mb : En → Fl α} (I : Nat → En → Prop) (Z : α → Prop) : ∀ (xs : List D) (n : Nat) (ρ : En), I n ρ →
    (∀ i d ρ, xs[i]? = some d → I (n + i) ρ → ∃ ρ1, mg d ρ = .ok ρ1 ∧ ((∃ ρ2, (mb ρ1 = .nx ρ2 ∨ mb ρ1 = .ct ρ2) ∧ I (n + i + 1) ρ2) ∨ ∃ a ρr, mb ρ1 = .rt a ρr ∧ Z a)) →
    (∃ ρ', fLoop mg mb xs ρ = .nx ρ' ∧ I (n + xs.length) ρ') ∨ ∃ a ρr, fLoop mg mb xs ρ = .rt a ρr ∧ Z a
  | [], n, ρ, h0, _ => .inl ⟨ρ, rfl, h0⟩
  | x :: xs, n, ρ, h0, step => by
    obtain ⟨ρ1, h1, h⟩ := step 0 x ρ rfl h0
    rcases h with ⟨ρ2, h2, h3⟩ | ⟨a, ρr, h2, h3⟩
    · have ih := fLoop_exR (mg := mg) (mb := mb) I Z xs (n + 1) ρ2 h3 fun i d ρ hd hi => by
        have := step (i + 1) d ρ (by simpa using hd) (by rw [show n + (i + 1) = n + 1 + i by omega]; exact hi)
        rw [show n + 1 + i + 1 = n + (i + 1) + 1 by omega]; exact this
      have e : fLoop mg mb (x :: xs) ρ = fLoop mg mb xs ρ2 := by
        rw [fLoop_cons, h1, fG_ok]
        rcases h2 with h2 | h2
        · rw [h2, fAft_nx]
        · rw [h2, fAft_ct]
      rw [e]
      rcases ih with ⟨ρ', h4, h5⟩ | h4
      · exact .inl ⟨ρ', h4, by rw [List.length_cons, show n + (xs.length + 1) = n + 1 + xs.length by omega]; exact h5⟩
      · exact .inr h4
    · refine .inr ⟨a, ρr, ?_, h3⟩
      rw [fLoop_cons, h1, fG_ok, h2, fAft_rt]
end
theorem pl_ints (ns : List Int) : pl 1 (.lst (ns.map .int)) = true := by
  show (ns.map D.int).all (pl 0) = true
  rw [List.all_map]
  exact List.all_eq_true.mpr fun _ _ => rfl
end UP
namespace UP
open PySem L2 PyProof.Rows
/-! ### sizes of ints -/
def Sm (n : Nat) (i : Int) : Prop := i.natAbs < 2 ^ n
theorem Sm.up {m n : Nat} {i : Int} (h : Sm m i) (hn : m ≤ n) : Sm n i := Nat.lt_of_lt_of_le h (Nat.pow_le_pow_right (by decide) hn)
theorem Sm.mul {m n : Nat} {i j : Int} (h : Sm m i) (k : Sm n j) : Sm (m + n) (i * j) := wide_lt h k
theorem Sm.add {n : Nat} {i j : Int} (h : Sm n i) (k : Sm n j) : Sm (n + 1) (i + j) := by
  unfold Sm at *; rw [Nat.pow_succ]; omega
theorem Sm.sub {n : Nat} {i j : Int} (h : Sm n i) (k : Sm n j) : Sm (n + 1) (i - j) := by
  unfold Sm at *; rw [Nat.pow_succ]; omega
theorem Sm.neg {n : Nat} {i : Int} (h : Sm n i) : Sm n (-i) := by unfold Sm at *; omega
theorem Sm.le {n : Nat} {i j : Int} (h : Sm n i) (k : j.natAbs ≤ i.natAbs) : Sm n j := Nat.lt_of_le_of_lt k h
theorem Sm.of {n : Nat} {i : Int} (b : Nat) (h : i.natAbs ≤ b) (hb : b < 2 ^ n) : Sm n i := Nat.lt_of_le_of_lt h hb
theorem mulS {m n : Nat} {i j : Int} (h : Sm m i) (k : Sm n j) (h0 : 0 < m) (h1 : 0 < n) (hs : m + n ≤ 1000000) : dMul (.int i) (.int j) = .ok (.int (i * j)) := dI_ok (.inr (wide_mul h k h0 h1 hs))
theorem fdivS {n : Nat} {i j : Int} (h : 0 < j) (k : Sm n j) (h0 : 0 < n) (h9 : n ≤ 9000) : dFdiv (.int i) (.int j) = .ok (.int (i / j)) := by
  rw [← Int.fdiv_eq_ediv_of_nonneg _ (by omega)]
  exact dI_ok (.inr (.inl (wide_div h k h0 h9)))
theorem fdivM {n : Nat} {i j : Int} (h : j ≠ 0) (k : Sm n j) (h0 : 0 < n) (h9 : n ≤ 9000) : dFdiv (.int i) (.int j) = .ok (.int (i.fdiv j)) :=
  dI_ok (.inr (.inr ⟨h, Nat.lt_of_lt_of_le (PySem.Flt.log2_lt_of h0 k) h9⟩))
theorem fmodS {i j : Int} (h : 0 < j) : dMod (.int i) (.int j) = .ok (.int (i % j)) := by
  rw [← Int.fmod_eq_emod_of_nonneg _ (by omega)]
  exact dI_ok (C := fun _ j : Int => j ≠ 0) (g := fun i j => D.int (i.fmod j)) (by omega)
theorem abs_is (a : Int) : (if a < 0 then -a else a) = (a.natAbs : Int) := by split <;> omega
/-- what is in lowest terms -/
theorem low_of {t b : Int} (hb : 0 < b) : ∃ p q : Int, t = (Int.gcd t b : Int) * p ∧ b = (Int.gcd t b : Int) * q ∧ t / (Int.gcd t b : Int) = p ∧ b / (Int.gcd t b : Int) = q ∧ Int.gcd p q = 1 ∧ 0 < q ∧ p.natAbs ≤ t.natAbs ∧ q.natAbs ≤ b.natAbs ∧ 0 < Int.gcd t b ∧ Int.gcd t b ≤ b.natAbs := by
  have hg : 0 < Int.gcd t b := Int.gcd_pos_of_ne_zero_right t (by omega)
  obtain ⟨p, hp⟩ := Int.gcd_dvd_left (a := t) (b := b)
  obtain ⟨q, hq⟩ := Int.gcd_dvd_right (a := t) (b := b)
  generalize hgd : Int.gcd t b = g at *
  subst hp hq
  rw [Int.gcd_mul_left] at hgd
  have h2 : Int.gcd p q = 1 := by
    have : g * Int.gcd p q = g * 1 := by simpa using hgd
    exact Nat.eq_of_mul_eq_mul_left hg this
  have hq0 : 0 < q := by
    rcases Int.lt_or_le 0 q with h | h
    · exact h
    · have : (g : Int) * q ≤ 0 := Int.mul_nonpos_of_nonneg_of_nonpos (by omega) h
      omega
  refine ⟨p, q, rfl, rfl, Int.mul_ediv_cancel_left _ (by omega), Int.mul_ediv_cancel_left _ (by omega), h2, hq0, ?_, ?_, hg, ?_⟩
  · rw [Int.natAbs_mul]; exact Nat.le_mul_of_pos_left _ (by simpa using hg)
  · rw [Int.natAbs_mul]; exact Nat.le_mul_of_pos_left _ (by simpa using hg)
  · rw [Int.natAbs_mul]; exact Nat.le_mul_of_pos_right _ (by omega)
/-- a ratio in lowest terms is the ratio -/
theorem low_cross {t b p q : Int} {g : Nat} (h1 : t = (g : Int) * p) (h2 : b = (g : Int) * q) : p * b = t * q := by
  subst h1 h2
  rw [Int.mul_left_comm, Int.mul_comm p q, Int.mul_comm q p, Int.mul_assoc]
end UP
set_option maxHeartbeats 1000000
/-! ### list(reversed(a list)) -/
namespace RT
open PySem PySem.Spec PyProof.Rows
section
variable {prog : Program} {w : World} {A : Around} {E : Value → Shared → Prop} {s : Shared}
theorem init_rev {it l S : Addr} {items : Array Value} {R : Result → Shared → Prop} (hh : A.handled = none) (hit : s.heap.IsRevIter it l ((items.size : Int) - 1)) (hl : s.heap.IsList l items) (hne : l ≠ it) (hn : items.size ≤ sizeLine) (hSi : S ≠ it) (hSl : S ≠ l)
    (hS : s.heap.get? S = some { cls := .type "list", data := .seq #[] })
    (hR : ∀ (h' : Heap) (tk : Nat) (acc : Array Value) (c : Nat), (∀ b o, b ≠ it → b ≠ S → s.heap.get? b = some o → h'.get? b = some o) → h'.get? S = some { cls := .type "list", dict := none, data := .seq acc c, slots := #[] } →
      ItemsOf (fun i v => items[items.size - 1 - i]? = some v) acc items.size → R (.ok (.ret .none)) { s with heap := h', toks := tk }) :
    wpAny (model prog w) A.in1 (Builtin.«list.__init__» ⟨[.ref S, .ref it], []⟩)
      (fun fin s' => match fin with | .done f => R (.ok f) s' | .again c' => c'.quiet = true ∧ codeAny (model prog w) A c' R s') (fun e s' => R (.error e) s') s := by
  have W := (Walks.listRev (prog := prog) (w := w) (A := A.in1) hh it l hne items).toS
  have hSf : S ∉ [it, l] := by simp only [List.mem_cons, List.not_mem_nil, or_false, not_or]; exact ⟨hSi, hSl⟩
  show wpAny _ A.in1 (do let old ← Builtin.List.listItems (.ref S); Builtin.List.listUpdate (.ref S) (fun _ => #[]); letGo old.toList.reverse; Builtin.List.listExtendWith (.ref S) (.ref it) .none) _ _ s
  refine wpAny_bind ?_
  unfold Builtin.List.listItems
  refine wpAny_bind (wpAny_seqItems hS rfl (wpAny_pure ?_))
  show wpAny _ A.in1 (updateSeq S (fun _ => #[]) >>= fun _ => letGo (#[] : Array Value).toList.reverse >>= fun _ => Builtin.List.listExtendWith (.ref S) (.ref it) .none) _ _ s
  refine wpAny_bind (wpAny_updateSeq hS rfl ?_)
  have hS₂ := Heap.get?_update_self (Obj.mapSeq (fun _ => (#[] : Array Value))) hS rfl
  have oth : ∀ b o, b ≠ S → s.heap.get? b = some o → (s.heap.update S (Obj.mapSeq (fun _ => (#[] : Array Value)))).get? b = some o :=
    fun b o hb e => (Heap.get?_update_other _ _ (Ne.symm hb)).trans e
  refine wpAny_bind (wpAny_letGo ?_)
  have hit1 : (s.heap.update S (Obj.mapSeq (fun _ => (#[] : Array Value)))).IsRevIter it l ((items.size : Int) - 1) := hit.at fun o e => oth it o (Ne.symm hSi) e
  have hl1 : (s.heap.update S (Obj.mapSeq (fun _ => (#[] : Array Value)))).IsList l items := by
    obtain ⟨o, h1, h2⟩ := hl
    exact ⟨o, oth l o (Ne.symm hSl) h1, h2⟩
  generalize hH : s.heap.update S (Obj.mapSeq (fun _ => (#[] : Array Value))) = H1 at *
  have hT : ({ s with heap := H1 } : Shared).TypeIs (.ref it) "list_reverseiterator" := Heap.IsRevIter.typeIs (s := { s with heap := H1 }) hit1
  have h1 : Builtin.List.listSameRef (.ref S) (.ref it) = false := by simp [Builtin.List.listSameRef, hSi]
  unfold Builtin.List.listExtendWith
  refine wpAny_bind (wpAny_typeOf hT ?_)
  rw [if_neg (by rw [h1]; decide)]
  refine wpAny_bind (wpAny_pyIter_revIter (s := { s with heap := H1 }) hit1 ?_)
  refine wpAny_bind (wpAny_holding ?_)
  unfold Builtin.List.listLengthHint
  refine wpAny_bind (wpAny_specialOf hT nolen_lri ?_)
  show wpAny _ A.in1 (specialOf (Value.ref it) (Str.ofString "__length_hint__") >>= _) _ _ _
  refine wpAny_bind (wpAny_specialOf hT hint_lri ?_)
  generalize hid : ("list_reverseiterator.__length_hint__" : String) = id0
  wp_delta
  rw [show splitId id0 = some ("list_reverseiterator", "__length_hint__") from by subst hid; decide +kernel]
  subst hid
  refine wpAny_bind (wpAny_isInstance (b := true) hT (by rw [isSubtype_type]; kernel_rfl) ?_)
  refine wpAny_pure ?_
  rw [if_neg (by decide)]
  have e0 : ((items.size : Nat) : Int) - 1 - ((0 : Nat) : Int) = (items.size : Int) - 1 := by omega
  refine wpAny_pure ⟨plainId_quiet F.plain_extend_loop _, codeAny_extend_loopS W hn _ hSf _ items.size 0 _ _ _ rfl (Nat.zero_le _) ⟨Nat.zero_le _, by rw [e0]; exact hit1, hl1⟩ hS₂ (ItemsOf.nil _) fun s' acc' c' hm hS' hacc => ?_⟩
  rw [Moved.eq_with hm]
  refine hR s'.heap s'.toks acc' c' (fun b o hb hb2 e => hm.heap b o (fun hmem => ?_) (oth b o hb2 e)) hS' hacc
  rcases List.mem_cons.mp hmem with e' | hmem
  · exact hb2 e'
  · exact hb (List.mem_singleton.mp hmem)
theorem call_list_rev {it l : Addr} {items : Array Value} {Q : Value → Shared → Prop} (hh : A.handled = none) (hit : s.heap.IsRevIter it l ((items.size : Int) - 1)) (hl : s.heap.IsList l items) (hne : l ≠ it) (hn : items.size ≤ sizeLine)
    (hQ : ∀ (h' : Heap) (tk : Nat) (acc : Array Value) (c : Nat), (∀ b o, b ≠ it → s.heap.get? b = some o → h'.get? b = some o) → h'.get? s.heap.objs.size = some { cls := .type "list", dict := none, data := .seq acc c, slots := #[] } →
      ItemsOf (fun i v => items[items.size - 1 - i]? = some v) acc items.size → Q (.ref s.heap.objs.size) { s with heap := h', toks := tk }) :
    wpAny (model prog w) A (call (.type "list") [.ref it]) Q E s := by
  obtain ⟨oi, hoi, _⟩ := id hit
  obtain ⟨ol, hol, _⟩ := id hl
  have hSi : s.heap.objs.size ≠ it := Nat.ne_of_gt (Heap.lt_size hoi)
  have hSl : s.heap.objs.size ≠ l := Nat.ne_of_gt (Heap.lt_size hol)
  refine callType_codes (Q₁ := fun obj s₁ => obj = .ref s.heap.objs.size ∧ s₁ = { s with heap := s.heap.push { cls := .type "list", data := .seq #[] } }) F.called_list (F.typeCall_list_1 _) F.entry_list_init
    (code_list_new _ ⟨rfl, rfl⟩) fun obj s₁ h₁ => ?_
  obtain ⟨rfl, rfl⟩ := h₁
  have hS : (s.heap.push { cls := .type "list", data := .seq #[] }).get? s.heap.objs.size = some { cls := .type "list", data := .seq #[] } := Heap.get?_push_size _ rfl
  refine ⟨⟨_, hS, rfl⟩, F.args_list_init_2 _ _, init_rev (A := A.in1) (s := { s with heap := s.heap.push { cls := .type "list", data := .seq #[] } }) hh (hit.at fun o e => Heap.get?_push_of_some _ e) (hl.push _) hne hn hSi hSl hS fun h' tk acc c hk hS' hacc => ?_⟩
  exact ⟨rfl, hQ h' tk acc c (fun b o hb e => hk b o hb (Nat.ne_of_lt (Heap.lt_size e)) (Heap.get?_push_of_some _ e)) hS' hacc⟩
end
end RT
namespace UP
open PySem L2 PyProof.Rows RT
def tListRev (K : PySem.W.Frag) (te : TE) : TE := fun σ H Q => te σ H fun v H1 => ∃ (a : Addr) (xs : List V), v = .ref a ∧ SqL K H1 a xs ∧ ∀ q, H1 q = none → Q (.ref q) (upd H1 q (.lst xs.reverse))
section
variable {X : Cx} {cl : Str → Option Addr} {W : WX}
theorem pe_listRev {e : Expr} {te : TE} {p p2 pos pos2 : Pos} (hc : X.calm = true) (hg : Gl X "list") (hm : X.mg "list" = none) (hg2 : Gl X "reversed") (hm2 : X.mg "reversed" = none) (he : PE X e te)
    (hs : starEach [e] X.env = (false, eval e X.env) :: starEach [] X.env := by rfl)
    (hs2 : starEach [.Call (.Name "reversed" p2) [e] [] pos2] X.env = (false, eval (.Call (.Name "reversed" p2) [e] [] pos2) X.env) :: starEach [] X.env := by rfl) :
    PE X (.Call (.Name "list" p) [.Call (.Name "reversed" p2) [e] [] pos2] [] pos) (tListRev X.K te) := by
  refine ⟨fun pins s σ H Q I h => ?_⟩
  refine Call_ (ld_blt I hg hm boot_list (PyProof.Rows.callWith_type1 (args_cons (Call_ (ld_blt I hg2 hm2 PyProof.Rows.boot_reversed (PyProof.Rows.callWith_type1 (args_cons (thn (he.run pins s σ H _ I h) fun u s1 ⟨v, H1, I1, r1, q1⟩ => args_nil ?_) hs) hs rfl))) hs2) hs2 rfl))
  obtain ⟨a, xs, ev, hq, q⟩ := q1
  subst ev
  obtain rfl : u = Value.ref a := r1
  obtain ⟨its, rv, p', hz⟩ := I1.list hq
  refine call_reversed_list p'.isList (args_nil ?_)
  have k0 : ∀ b o, s1.heap.get? b = some o → (s1.heap.push (revObj a ((its.toArray.size : Int) - 1))).get? b = some o := fun b o e => Heap.get?_push_of_some _ e
  have I2 : Inv X pins σ H1 { s1 with heap := s1.heap.push (revObj a ((its.toArray.size : Int) - 1)) } := I1.kept (t' := s1.toks) k0
  obtain ⟨f0, f1, f2, f3, f4, f5⟩ := I1.fpOk (H' := H1) (b := s1.heap.objs.size) (Nat.le_refl _) (I1.hok.fresh (Nat.le_refl _))
  have hl := p'.isList
  obtain ⟨ol, hol, _⟩ := id hl
  have hne : a ≠ s1.heap.objs.size := Nat.ne_of_lt (Heap.lt_size hol)
  have hn : its.toArray.size ≤ sizeLine := by rw [List.size_toArray, ← rv.length]; exact hz
  refine RT.call_list_rev (s := { s1 with heap := s1.heap.push (revObj a ((its.toArray.size : Int) - 1)) }) (I1.ok.hd hc) ⟨_, Heap.get?_push_size _ rfl, rfl, rfl⟩ (hl.push _) hne hn fun h' tk acc c hk hS hi => ?_
  have I3 := I2.turnedNew (t' := tk) (h' := h') (ch := [s1.heap.objs.size]) (T := (s1.heap.push (revObj a ((its.toArray.size : Int) - 1))).objs.size) (ob := .lst xs.reverse) (fun b o hb e => hk b o (fun z => hb (by simp [z])) e)
    (fun b hb => by
      have e : b = s1.heap.objs.size := by simpa using hb
      subst e
      exact ⟨f0, f1, f2, f3, f4, f5⟩) (Nat.le_refl _) ⟨by rw [List.length_reverse]; exact hz, acc.toList, c, vals_rev rv hi, by simpa using hS⟩
  exact ⟨.ref _, _, I3, rfl, q _ (I1.hok.fresh (by simp [Heap.push]))⟩
theorem un_listRev {e : Expr} {te : TE} {ml : En → R (Bool × List D)} {p p2 pos pos2 : Pos} (hc : X.calm = true) (hm : X.mg "list" = none) (hm2 : X.mg "reversed" = none) (h : UL X cl W e te ml) (hg : Gl X "list" := by rfl) (hg2 : Gl X "reversed" := by rfl)
    (hs : starEach [e] X.env = (false, eval e X.env) :: starEach [] X.env := by rfl)
    (hs2 : starEach [.Call (.Name "reversed" p2) [e] [] pos2] X.env = (false, eval (.Call (.Name "reversed" p2) [e] [] pos2) X.env) :: starEach [] X.env := by rfl) :
    UN X cl W (.Call (.Name "list" p) [.Call (.Name "reversed" p2) [e] [] pos2] [] pos) (tListRev X.K te) (d1 (fun q => if q.1 = true then .ok (.lst q.2.reverse) else .st) ml) := by
  refine ⟨pe_listRev hc hg hm hg2 hm2 h.pe hs hs2, fun F0 H0 F H σ ρ Q S p => h.es F0 H0 F H σ ρ _ S ?_⟩
  unfold d1 at p
  cases e : ml ρ with
  | st => rw [e] at p; exact p
  | er x => rw [e] at p; exact p
  | ok q =>
    obtain ⟨b, ds⟩ := q
    rw [e, R.bind_ok] at p
    cases b with
    | false => exact p.elim
    | true =>
      replace p : PostN X.K cl W σ F H Q (.ok (.lst ds.reverse)) := p
      intro a vs F1 H1 g s r
      exact ⟨a, vs, rfl, s, fun l hl => p l (.lst vs.reverse) F1 _ (g.trans (Grow.lay' g.s hl)) (g.old l hl) (Grow.fnone g.s hl) upd_same ⟨_, rfl, r.reverse⟩⟩
end
end UP
namespace UP
open PySem L2 PyProof.Rows
section
variable {X : Cx} {cl : Str → Option Addr} {W : WX} {K : PySem.W.Frag} {σ : L2.St} {F H F' H' : Hp} {pos : Pos}
/-! ### divmod, str, f-strings -/
def bDivmod : List D → R D
  | [.int i, .int j] => if 0 < j ∧ j.natAbs.log2 < 9000 then .ok (.tup [.int (i / j), .int (i % j)]) else .st
  | _ => .st
theorem ca_divmod : CaR K cl (fun xs H Q => ∃ i j, xs = [.int i, .int j] ∧ CDivP i j ∧ ∀ p, H p = none → Q (.ref p) (upd H p (.tup [.int (i / j), .int (i % j)]))) bDivmod := by
  intro W σ F H vs ds Q e r p
  unfold bDivmod at p
  split at p
  · rename_i i j
    split at p
    · rename_i hj
      obtain ⟨v, r', rfl, h1, h2⟩ := r.cons_inv
      obtain ⟨v', r'', rfl, h3, h4⟩ := h2.cons_inv
      rw [h4.nil_inv, h1.int_inv, h3.int_inv]
      refine ⟨i, j, rfl, ⟨hj.1, PyProof.noPylong_of_log2 hj.2⟩, fun q hq => ?_⟩
      have g := Grow.lay (o := .tup [.int (i / j), .int (i % j)]) e hq
      refine p _ _ _ g ?_
      unfold Rp
      exact ⟨q, _, rfl, upd_same, Rps.cons rp_int (Rps.cons rp_int Rps.nil)⟩
    · exact False.elim p
  · exact False.elim p
def bStr1 : List D → R D
  | [.int i] => if i.natAbs.log2 < 1920 then .ok (.str (toString i)) else .st
  | _ => .st
theorem ca_str1 : CaR K cl (fun xs H Q => ∃ i, xs = [.int i] ∧ i.natAbs.log2 < 1920 ∧ Q (.str (toString i)) H) bStr1 := by
  intro W σ F H vs ds Q e r p
  unfold bStr1 at p
  split at p
  · rename_i i
    split at p
    · rename_i hi
      obtain ⟨v, r', rfl, h1, h2⟩ := r.cons_inv
      rw [h2.nil_inv, h1.int_inv]
      exact ⟨i, rfl, hi, post_ok p e rp_str⟩
    · exact False.elim p
  · exact False.elim p
def dFmt : D → R D
  | .str y => if y.length ≤ SZ then .ok (.str y) else .st
  | .int i => if i.natAbs.log2 < 1920 then .ok (.str (toString i)) else .st
  | _ => .st
theorem ue_fmt {e : Expr} {te : TE} {me : En → R D} (h : UE X cl W e te me) : UE X cl W (.FormattedValue e (-1) none pos) (tFmt te) (d1 dFmt me) := by
  refine ⟨pe_fmt h.pe, fun F0 H0 F H σ ρ Q S p => h.es F0 H0 F H σ ρ _ S ?_⟩
  unfold d1 at p
  cases e : me ρ with
  | st => rw [e] at p; exact p
  | er x => rw [e] at p; exact p
  | ok d =>
    rw [e, R.bind_ok] at p
    intro v F1 H1 g r
    replace p := Post.grow p g
    unfold dFmt at p
    split at p
    · rename_i y
      split at p
      · rename_i hz
        exact .inl ⟨y, r.str_inv, sz_le hz, post_ok p g.s rp_str⟩
      · exact p.elim
    · rename_i i
      split at p
      · rename_i hz
        exact .inr ⟨i, r.int_inv, hz, post_ok p g.s rp_str⟩
      · exact p.elim
    · exact p.elim
def dJs : List (En → R D) → Str → En → R D
  | [], acc, _ => .ok (.str acc)
  | m :: ms, acc, ρ => (m ρ).bind fun x => match x with
    | .str y => if (acc ++ y).length ≤ SZ then dJs ms (acc ++ y) ρ else .st
    | _ => .st
structure UJ (X : Cx) (cl : Str → Option Addr) (W : WX) (es : List Expr) (ts : List TE) (ms : List (En → R D)) : Prop where
  pe : PJ X es ts
  es : ∀ acc F0 H0 F H σ ρ Q, Sr X.K cl F0 H0 F H σ ρ → Post X.K cl W σ F H Q (dJs ms acc ρ) → tJs ts acc σ H fun out H1 => Q (.str out) H1
theorem uj_nil : UJ X cl W [] [] [] := ⟨.nil, fun acc F0 H0 F H σ ρ Q S p => p.here S.ex rp_str⟩
theorem uj_cons {e : Expr} {es : List Expr} {te : TE} {ts : List TE} {me : En → R D} {ms : List (En → R D)} (h : UE X cl W e te me) (hr : UJ X cl W es ts ms) (hs : evalEach (e :: es) X.env = eval e X.env :: evalEach es X.env := by rfl) : UJ X cl W (e :: es) (te :: ts) (me :: ms) := by
  refine ⟨.cons h.pe hr.pe, fun acc F0 H0 F H σ ρ Q S p => h.es F0 H0 F H σ ρ _ S ?_⟩
  unfold dJs at p
  cases e : me ρ with
  | st => rw [e] at p; exact p
  | er x => rw [e] at p; exact p
  | ok d =>
    rw [e, R.bind_ok] at p
    intro v F1 H1 g r
    replace p := Post.grow p g
    split at p
    · rename_i y
      split at p
      · rename_i hz
        exact ⟨y, r.str_inv, sz_le hz, hr.es _ F0 H0 F1 H1 σ ρ Q (S.mono g) p⟩
      · exact p.elim
    · exact p.elim
theorem ue_joined {v1 v2 : Expr} {rest : List Expr} {ts : List TE} {ms : List (En → R D)} (h : UJ X cl W (v1 :: v2 :: rest) ts ms) : UE X cl W (.JoinedStr (v1 :: v2 :: rest) pos) (fun σ H Q => tJs ts Str.empty σ H fun out H1 => Q (.str out) H1) (dJs ms Str.empty) :=
  ⟨pe_joined h.pe, fun F0 H0 F H σ ρ Q S p => h.es _ F0 H0 F H σ ρ Q S p⟩
end
section
variable {ρ : En}
@[simp] theorem dJs_nil (acc : Str) : dJs [] acc ρ = .ok (.str acc) := id rfl
@[simp] theorem dJs_cons (m : En → R D) (ms : List (En → R D)) (acc : Str) : dJs (m :: ms) acc ρ = (m ρ).bind fun x => match x with
    | .str y => if (acc ++ y).length ≤ SZ then dJs ms (acc ++ y) ρ else .st
    | _ => .st := id rfl
@[simp] theorem fAsg_ap {α : Type} (mg : D → En → R En) (me : En → R D) : (fAsg mg me ρ : Fl α) = fOf (me ρ) ρ fun d => fG (mg d ρ) fun ρ' => .nx ρ' := by
  unfold fAsg
  cases me ρ with
  | ok d => show (match mg d ρ with | .ok ρ' => (.nx ρ' : Fl α) | _ => .st) = fG (mg d ρ) fun ρ' => .nx ρ'; cases mg d ρ <;> rfl
  | er x => rfl
  | st => rfl
@[simp] theorem gTupD_tup (n : Nat) (b : List D → En → R En) (ds : List D) : gTupD n b (.tup ds) ρ = if ds.length = n then b ds ρ else .st := id rfl
@[simp] theorem gTupD_lst (n : Nat) (b : List D → En → R En) (ds : List D) : gTupD n b (.lst ds) ρ = if ds.length = n then b ds ρ else .st := id rfl
@[simp] theorem gsNil_nil : gsNil [] ρ = .ok ρ := id rfl
@[simp] theorem gsCons_cons (a : D → En → R En) (b : List D → En → R En) (d : D) (ds : List D) : gsCons a b (d :: ds) ρ = (a d ρ).bind fun ρ1 => b ds ρ1 := id rfl
@[simp] theorem fG_st {α : Type} (k : En → Fl α) : fG .st k = .st := id rfl
@[simp] theorem fG_ite {α : Type} {c : Prop} [Decidable c] (a b : R En) (k : En → Fl α) : fG (if c then a else b) k = if c then fG a k else fG b k := by split <;> rfl
@[simp] theorem bListL_ap (q : Bool × List D) : bListL q = .ok (.lst q.2) := id rfl
@[simp] theorem dCat_ap (x y : Bool × List D) : dCat x y = if x.1 = true ∧ y.1 = true ∧ x.2.length + y.2.length ≤ SZ then .ok (.lst (x.2 ++ y.2)) else .st := id rfl
@[simp] theorem dAdd_lst (xs ys : List D) : dAdd (.lst xs) (.lst ys) = if xs.length + ys.length ≤ SZ then .ok (.lst (xs ++ ys)) else .st := id rfl
@[simp] theorem dAdd_tup (xs ys : List D) : dAdd (.tup xs) (.tup ys) = if 0 < xs.length ∧ xs.length + ys.length ≤ SZ then .ok (.tup (xs ++ ys)) else .st := id rfl
@[simp] theorem dAdd_str (i j : Str) : dAdd (.str i) (.str j) = if i.length + j.length ≤ SZ then .ok (.str (i ++ j)) else .st := id rfl
@[simp] theorem dEq_str (i j : Str) : dEq (.str i) (.str j) = .ok (.bl (decide (i = j))) := id rfl
@[simp] theorem dIsN_ap_non : dIsN .non .non = .ok (.bl true) := id rfl
theorem dvd_of_gcd {q p b : Int} (h : q ∣ p * b) (g : Int.gcd p q = 1) : q ∣ b := by
  have h1 : q.natAbs ∣ p.natAbs * b.natAbs := by rw [← Int.natAbs_mul]; exact Int.natAbs_dvd_natAbs.mpr h
  have g1 : Nat.Coprime q.natAbs p.natAbs := by
    unfold Nat.Coprime
    rw [Nat.gcd_comm]; exact g
  exact Int.natAbs_dvd_natAbs.mp (g1.dvd_of_dvd_mul_left h1)
theorem gcd_mod (t b : Int) : Int.gcd (t % b) b = Int.gcd t b := by
  conv => rhs; rw [← Int.emod_add_mul_ediv t b]
  rw [Int.gcd_comm, Int.gcd_comm _ b, Int.gcd_add_mul_left_right]
theorem divmodS {n : Nat} {i j : Int} (h : 0 < j) (k : Sm n j) (h0 : 0 < n) (h9 : n ≤ 9000) : bDivmod [.int i, .int j] = .ok (.tup [.int (i / j), .int (i % j)]) := by
  have e : 0 < j ∧ j.natAbs.log2 < 9000 := ⟨h, Nat.lt_of_lt_of_le (PySem.Flt.log2_lt_of h0 k) h9⟩
  simp only [bDivmod, if_pos e]
/-- the text of an int -/
def txt (i : Int) : Str := Str.ofString (toString i)
theorem txt_len {n : Nat} {i : Int} (k : Sm n i) (h0 : 0 < n) : (txt i).length ≤ n + 1 := by
  unfold txt
  rw [PySem.ofString_length]
  exact int_text_length_le h0 (PySem.Flt.log2_lt_of h0 k)
theorem str1S {n : Nat} {i : Int} (k : Sm n i) (h0 : 0 < n) (h9 : n ≤ 1920) : bStr1 [.int i] = .ok (.str (txt i)) := by
  have e : i.natAbs.log2 < 1920 := Nat.lt_of_lt_of_le (PySem.Flt.log2_lt_of h0 k) h9
  simp only [bStr1, if_pos e, txt]
theorem fmtS {n : Nat} {i : Int} (k : Sm n i) (h0 : 0 < n) (h9 : n ≤ 1920) : dFmt (.int i) = .ok (.str (txt i)) := by
  have e : i.natAbs.log2 < 1920 := Nat.lt_of_lt_of_le (PySem.Flt.log2_lt_of h0 k) h9
  simp only [dFmt, if_pos e, txt]
end
end UP
namespace UP
open PySem L2 PyProof.Rows
/-! ### dicts of ours -/
section
variable {κ : Type} [DecidableEq κ]
def dLk : List κ → List D → κ → Option D
  | k :: ks, x :: xs, q => if k = q then some x else dLk ks xs q
  | _, _, _ => none
def hasK (ks : List κ) (k : κ) : Bool := ks.any fun q => decide (q = k)
theorem hasK_iff {ks : List κ} {k : κ} : hasK ks k = true ↔ k ∈ ks := by
  unfold hasK; rw [List.any_eq_true]; simp
def dUp (ks : List κ) (xs : List D) (k : κ) (d : D) : List D := List.zipWith (fun q x => if q = k then d else x) ks xs
variable {K : PySem.W.Frag} {cl : Str → Option Addr} {F : Hp}
theorem dLk_rps : ∀ {ks : List κ} {vs : List V} {xs : List D} (q : κ), ks.length = vs.length → Rps K cl F vs xs → (∃ v x, valV (ks.zip vs) q = some v ∧ dLk ks xs q = some x ∧ Rp K cl F v x) ∨ (valV (ks.zip vs) q = none ∧ dLk ks xs q = none)
  | [], vs, xs, q, _, _ => .inr ⟨rfl, rfl⟩
  | k :: ks, [], xs, q, h, _ => by cases h
  | k :: ks, v :: vs, [], q, _, r => by have := r.nil_inv; cases this
  | k :: ks, v :: vs, x :: xs, q, h, r => by
    obtain ⟨v', r', e, h1, h2⟩ := r.cons_inv
    cases e
    by_cases hk : k = q
    · exact .inl ⟨v, x, by rw [List.zip_cons_cons]; exact valV_pos hk, by unfold dLk; rw [if_pos hk], h1⟩
    · rw [List.zip_cons_cons, valV_neg (by exact hk)]
      unfold dLk
      rw [if_neg hk]
      exact dLk_rps q (by simpa using h) h2
theorem zipWith_rps : ∀ {ks : List κ} {vs : List V} {xs : List D} (k : κ) {v : V} {d : D}, ks.length = vs.length → Rps K cl F vs xs → Rp K cl F v d → Rps K cl F (List.zipWith (fun q x => if q = k then v else x) ks vs) (dUp ks xs k d)
  | [], vs, xs, k, v, d, h, r, rv => by unfold dUp; simp; exact Rps.nil
  | q :: ks, [], xs, k, v, d, h, r, rv => by cases h
  | q :: ks, u :: vs, [], k, v, d, h, r, rv => by have := r.nil_inv; cases this
  | q :: ks, u :: vs, x :: xs, k, v, d, h, r, rv => by
    obtain ⟨v', r', e, h1, h2⟩ := r.cons_inv
    cases e
    unfold dUp
    rw [List.zipWith_cons_cons, List.zipWith_cons_cons]
    refine Rps.cons ?_ (zipWith_rps k (by simpa using h) h2 rv)
    by_cases hk : q = k
    · rw [if_pos hk, if_pos hk]; exact rv
    · rw [if_neg hk, if_neg hk]; exact h1
theorem putK_zip : ∀ (ks : List κ) (vs : List V) (k : κ) (v : V), ks.length = vs.length → putK (ks.zip vs) k v = if hasK ks k = true then ks.zip (List.zipWith (fun q x => if q = k then v else x) ks vs) else (ks ++ [k]).zip (vs ++ [v]) := by
  intro ks vs k v h
  have e1 : ((ks.zip vs).any fun kv => decide (kv.1 = k)) = decide (k ∈ ks) := by
    rw [Bool.eq_iff_iff, List.any_eq_true, decide_eq_true_eq]
    constructor
    · rintro ⟨⟨a, b⟩, hm, he⟩
      have := (List.of_mem_zip hm).1
      simp at he; subst he; exact this
    · intro hm
      obtain ⟨i, hi⟩ := List.mem_iff_getElem?.mp hm
      have hl : i < vs.length := by rw [← h]; exact (List.getElem?_eq_some_iff.mp hi).1
      refine ⟨(k, vs[i]), List.mem_iff_getElem?.mpr ⟨i, ?_⟩, by simp⟩
      rw [List.getElem?_zip_eq_some]
      exact ⟨hi, List.getElem?_eq_getElem hl⟩
  unfold putK
  rw [e1]
  by_cases hm : k ∈ ks
  · rw [if_pos (by simpa using hm), if_pos (hasK_iff.mpr hm)]
    clear e1 hm
    induction ks generalizing vs with
    | nil => rfl
    | cons q ks ih =>
      cases vs with
      | nil => rfl
      | cons u vs =>
        rw [List.zip_cons_cons, List.map_cons, List.zipWith_cons_cons, List.zip_cons_cons, ih vs (by simpa using h)]
        by_cases hq : q = k
        · simp [hq]
        · simp [hq]
  · rw [if_neg (by simpa using hm), if_neg (fun z => hm (hasK_iff.mp z)), List.zip_append h]; rfl
end
def dKeys : List D → Option (List Key)
  | [] => some []
  | d :: ds => match dKey d, dKeys ds with
    | some k, some ks => some (k :: ks)
    | _, _ => none
/-- what stands at a key -/
def dLook : DO → D → Option (Option D)
  | .dK ks xs, d => (dKey d).map fun k => dLk ks xs k
  | .dT ks xs, .tup ds => (dKeys ds).map fun k => dLk ks xs k
  | _, _ => none
/-- a store at a key -/
def dPutO : DO → D → D → Option DO
  | .dK ks xs, d, v => (dKey d).bind fun k => if ks.length < SZ then some (if hasK ks k = true then .dK ks (dUp ks xs k v) else .dK (ks ++ [k]) (xs ++ [v])) else none
  | .dT ks xs, .tup ds, v => (dKeys ds).bind fun k => if ks.length < SZ then some (if hasK ks k = true then .dT ks (dUp ks xs k v) else .dT (ks ++ [k]) (xs ++ [v])) else none
  | _, _, _ => none
section
variable {X : Cx} {cl : Str → Option Addr} {W : WX} {K : PySem.W.Frag} {σ : L2.St} {F H F' H' : Hp} {pos : Pos} {y v : V} {d dv : D} {p : Addr} {ho : HO} {o o' : DO} {od : Option D}
theorem keys_of : ∀ {ds : List D} {vs : List V} {ks : List Key}, Rps K cl F vs ds → dKeys ds = some ks → vs = ks.map kV
  | [], vs, ks, r, h => by cases h; exact r.nil_inv
  | d :: ds, vs, ks, r, h => by
    obtain ⟨v, r', rfl, h1, h2⟩ := r.cons_inv
    unfold dKeys at h
    split at h
    · rename_i k ks' e1 e2
      cases h
      rw [kV_of h1 e1, keys_of h2 e2]; rfl
    · cases h
theorem dLook_ok (e : Ex F H) (hr : HR K cl F ho o) (hp : H p = some ho) (r : Rp K cl F y d) (h : dLook o d = some od) : ∃ ov, DGet H p y ov ∧ ((∃ v x, ov = some v ∧ od = some x ∧ Rp K cl F v x) ∨ (ov = none ∧ od = none)) := by
  cases o with
  | lst xs => cases h
  | ins c ns xs => cases h
  | dK ks xs =>
    obtain ⟨vs, rfl, hl, rv⟩ := hr
    replace h : (dKey d).map (fun k => dLk ks xs k) = some od := h
    cases q : dKey d with
    | none => rw [q] at h; cases h
    | some k =>
      rw [q] at h; cases h
      rw [kV_of r q]
      refine ⟨_, DGet.k hp, ?_⟩
      rcases dLk_rps k hl rv with ⟨v, x, a, b, c⟩ | ⟨a, b⟩
      · exact .inl ⟨v, x, a, b, c⟩
      · exact .inr ⟨a, b⟩
  | dT ks xs =>
    obtain ⟨vs, rfl, hl, rv⟩ := hr
    cases d <;> try cases h
    rename_i ds
    unfold Rp at r
    obtain ⟨b, us, rfl, hb, ru⟩ := r
    have h : (dKeys ds).map (fun k => dLk ks xs k) = some od := h
    cases q : dKeys ds with
    | none => rw [q] at h; cases h
    | some k =>
      rw [q] at h; cases h
      have hb' := e _ _ hb
      rw [keys_of ru q] at hb'
      refine ⟨_, DGet.t hp hb', ?_⟩
      rcases dLk_rps k hl rv with ⟨v, x, a, b, c⟩ | ⟨a, b⟩
      · exact .inl ⟨v, x, a, b, c⟩
      · exact .inr ⟨a, b⟩
theorem zip_len {α : Type} {ks : List α} {vs : List V} (h : ks.length = vs.length) : (ks.zip vs).length = ks.length := by rw [List.length_zip, ← h, Nat.min_self]
theorem dPutO_ok (e : Ex F H) (hr : HR K cl F ho o) (hp : H p = some ho) (r : Rp K cl F y d) (rv : Rp K cl F v dv) (h : dPutO o d dv = some o') : ∃ ho', DPut H p y v (upd H p ho') ∧ HR K cl F ho' o' := by
  cases o with
  | lst xs => cases h
  | ins c ns xs => cases h
  | dK ks xs =>
    obtain ⟨vs, rfl, hl, rx⟩ := hr
    replace h : ((dKey d).bind fun k => if ks.length < SZ then some (if hasK ks k = true then DO.dK ks (dUp ks xs k dv) else .dK (ks ++ [k]) (xs ++ [dv])) else none) = some o' := h
    cases q : dKey d with
    | none => rw [q] at h; cases h
    | some k =>
      rw [q] at h
      replace h : (if ks.length < SZ then some (if hasK ks k = true then DO.dK ks (dUp ks xs k dv) else .dK (ks ++ [k]) (xs ++ [dv])) else none) = some o' := h
      split at h
      · rename_i hz
        cases h
        rw [kV_of r q]
        refine ⟨_, DPut.k hp (by rw [zip_len hl]; exact sz_lt hz), ?_⟩
        rw [putK_zip ks vs k v hl]
        by_cases hm : hasK ks k = true
        · rw [if_pos hm, if_pos hm]
          exact ⟨_, rfl, by rw [List.length_zipWith, ← hl, Nat.min_self], zipWith_rps k hl rx rv⟩
        · rw [if_neg hm, if_neg hm]
          exact ⟨_, rfl, by rw [List.length_append, List.length_append, hl]; rfl, rx.append (Rps.cons rv Rps.nil)⟩
      · cases h
  | dT ks xs =>
    obtain ⟨vs, rfl, hl, rx⟩ := hr
    cases d <;> try cases h
    rename_i ds
    unfold Rp at r
    obtain ⟨b, us, rfl, hb, ru⟩ := r
    replace h : ((dKeys ds).bind fun k => if ks.length < SZ then some (if hasK ks k = true then DO.dT ks (dUp ks xs k dv) else .dT (ks ++ [k]) (xs ++ [dv])) else none) = some o' := h
    cases q : dKeys ds with
    | none => rw [q] at h; cases h
    | some k =>
      rw [q] at h
      replace h : (if ks.length < SZ then some (if hasK ks k = true then DO.dT ks (dUp ks xs k dv) else .dT (ks ++ [k]) (xs ++ [dv])) else none) = some o' := h
      split at h
      · rename_i hz
        cases h
        have hb' := e _ _ hb
        rw [keys_of ru q] at hb'
        refine ⟨_, DPut.t hp hb' (by rw [zip_len hl]; exact sz_lt hz), ?_⟩
        rw [putK_zip ks vs k v hl]
        by_cases hm : hasK ks k = true
        · rw [if_pos hm, if_pos hm]
          exact ⟨_, rfl, by rw [List.length_zipWith, ← hl, Nat.min_self], zipWith_rps k hl rx rv⟩
        · rw [if_neg hm, if_neg hm]
          exact ⟨_, rfl, by rw [List.length_append, List.length_append, hl]; rfl, rx.append (Rps.cons rv Rps.nil)⟩
      · cases h
/-- the dict that a slot holds -/
def ownAt (i : Nat) (ρ : En) : R DO := match ρ[i]? with
  | some (.own o) => .ok o
  | _ => .st
def dInD (i : Nat) (mk : En → R D) : En → R D := fun ρ => (mk ρ).bind fun k => (ownAt i ρ).bind fun o => match dLook o k with
  | some od => .ok (.bl od.isSome)
  | none => .st
def dGetD (i : Nat) (mk : En → R D) : En → R D := fun ρ => (ownAt i ρ).bind fun o => (mk ρ).bind fun k => match dLook o k with
  | some (some x) => .ok x
  | _ => .st
variable {e o : Expr} {te : TE} {mk me : En → R D} {i : Nat}
theorem ue_inD (hu : X.A.units + 1 < cLine) (he : UE X cl W e te mk) (ho : PE X o (tVar i)) (hm : behindInMarks .In o = false := by rfl) : UE X cl W (.Compare e [.In] [o] pos) (tDIn te (tVar i)) (dInD i mk) := by
  refine ⟨pe_cmp (pc_din hu he.pe ho) hm, fun F0 H0 F H σ ρ Q S p => he.es F0 H0 F H σ ρ _ S ?_⟩
  unfold dInD at p
  cases e1 : mk ρ with
  | st => rw [e1] at p; exact p
  | er x => rw [e1] at p; exact p
  | ok d =>
    rw [e1, R.bind_ok] at p
    intro y F1 H1 g r
    unfold ownAt at p
    split at p
    · rename_i od hi
      rw [R.bind_ok] at p
      obtain ⟨q, hob, h1, h2, h3, h4, h5⟩ := (S.mono g).own i _ hi
      split at p
      · rename_i ox hx
        obtain ⟨ov, k1, k2⟩ := dLook_ok g.s h4 h3 r hx
        refine ⟨_, h1, q, ov, rfl, k1, ?_⟩
        have : ov.isSome = ox.isSome := by
          rcases k2 with ⟨v, x, rfl, rfl, _⟩ | ⟨rfl, rfl⟩ <;> rfl
        rw [this]
        exact post_ok (Post.grow p g) g.s rp_bl
      · exact p.elim
    · exact p.elim
theorem ut_inD (hu : X.A.units + 1 < cLine) (he : UE X cl W e te mk) (ho : PE X o (tVar i)) (hm : behindInMarks .In o = false := by rfl) : UT X cl W (.Compare e [.In] [o] pos) (tB (tDIn te (tVar i))) (d1 dBl (dInD i mk)) :=
  ⟨pt_cmp (pc_din hu he.pe ho) hm, es_tb (ue_inD (pos := pos) hu he ho hm).es⟩
theorem ue_getD (hu : X.A.units + 1 < cLine) (ho : PE X o (tVar i)) (he : UE X cl W e te mk) (hs : NoSl e := by exact fun _ _ => rfl) : UE X cl W (.Subscript o e pos) (tDGet (tVar i) te) (dGetD i mk) := by
  refine ⟨pe_dget hu ho he.pe hs, fun F0 H0 F H σ ρ Q S p => ?_⟩
  unfold dGetD ownAt at p
  split at p
  · rename_i od hi
    rw [R.bind_ok] at p
    obtain ⟨q, hob, h1, h2, h3, h4, h5⟩ := S.own i _ hi
    refine ⟨_, h1, he.es F0 H0 F H σ ρ _ S ?_⟩
    cases e1 : mk ρ with
    | st => rw [e1] at p; exact p
    | er x => rw [e1] at p; exact p
    | ok d =>
      rw [e1, R.bind_ok] at p
      intro y F1 H1 g r
      split at p
      · rename_i x hx
        obtain ⟨ov, k1, k2⟩ := dLook_ok g.s (h4.mono g.f) (g.h _ _ h3) r hx
        rcases k2 with ⟨v, x', rfl, h, rv⟩ | ⟨rfl, h⟩
        · cases h
          exact ⟨q, v, rfl, k1, p v F1 H1 g rv⟩
        · cases h
      · exact p.elim
  · exact p.elim
end
section
variable {α : Type} {X : Cx} {cl : Str → Option Addr} {W : WX} {mp : List (Nat × Addr)} {RP : RPt α} {o k e : Expr} {te tk : TE} {mk me : En → R D} {i : Nat} {pos tpos : Pos}
/-- d[k] = e -/
def fPutD (i : Nat) (mk me : En → R D) : En → Fl α := fun ρ => fOf (me ρ) ρ fun d => fOf (noer (mk ρ)) ρ fun k => fOf (ownAt i ρ) ρ fun o => match dPutO o k d with
  | some o' => .nx (ρ.set i (.own o'))
  | none => .st
theorem us_putD (hu : X.A.units + 1 < cLine) (ho : PE X o (tVar i)) (hk : UE X cl W k tk mk) (he : UE X cl W e te me) (hs : swapsWith e (some (.Subscript o k tpos)) pos.line X.env = pure false := by rfl) :
    US X cl W mp RP (.Assign [.Subscript o k tpos] e pos) (sDPut (tVar i) tk te) (fPutD i mk me) := by
  refine ⟨ps_dput hu ho hk.pe he.pe hs, fun F0 H0 F H σ ρ Dn S P p => he.es F0 H0 F H σ ρ _ S (post_of S P p fun d v F1 H1 g r p => ?_)⟩
  cases e1 : mk ρ with
  | st => rw [e1] at p; exact p.elim
  | er x => rw [e1] at p; exact p.elim
  | ok dk =>
    rw [e1] at p
    replace p : PostS X.K cl W mp RP F0 H0 F1 Dn (fOf (ownAt i ρ) ρ fun o => match dPutO o dk d with
      | some o' => .nx (ρ.set i (.own o'))
      | none => .st) := p
    unfold ownAt at p
    split at p
    · rename_i od hi
      replace p : PostS X.K cl W mp RP F0 H0 F1 Dn (match dPutO od dk d with
        | some o' => .nx (ρ.set i (.own o'))
        | none => .st) := p
      obtain ⟨q, hob, h1, h2, h3, h4, h5⟩ := (S.mono g).own i _ hi
      refine ⟨_, h1, hk.es F0 H0 F1 H1 σ ρ _ (S.mono g) ?_⟩
      rw [e1]
      intro y F2 H2 g2 rk
      split at p
      · rename_i o' hx
        obtain ⟨ho', k1, k2⟩ := dPutO_ok g2.s (h4.mono g2.f) (g2.h _ _ h3) rk (r.mono g2.f) hx
        exact ⟨q, _, rfl, k1, p σ F2 _ g2.f (((S.mono g).mono g2).write hi h1 k2) P⟩
      · exact p.elim
    · exact p.elim
def dDT0 : En → R DO := fun _ => .ok (.dT [] [])
theorem un_dictT0 : UN X cl W (.Dict [] [] pos) tDNewT dDT0 := ⟨pe_dnewT, fun F0 H0 F H σ ρ Q S p => fun d hd => p d (.dT []) F _ (Grow.lay' S.ex hd) hd (Grow.fnone S.ex hd) upd_same ⟨[], rfl, rfl, Rps.nil⟩⟩
end
end UP
namespace UP
open PySem L2 PyProof.Rows
/-! ### defs that change their last argument, an object of the caller's -/
def dl (H : Hp) (p : Addr) : Hp := fun a => if a = p then none else H a
theorem dl_same {H : Hp} {p : Addr} : dl H p p = none := if_pos rfl
theorem dl_ne {H : Hp} {p a : Addr} (h : a ≠ p) : dl H p a = H a := if_neg h
theorem dl_ex {H : Hp} {p : Addr} : Ex (dl H p) H := fun a o e => by
  by_cases h : a = p
  · subst h; rw [dl_same] at e; cases e
  · rw [dl_ne h] at e; exact e
theorem dl_some {H : Hp} {p a : Addr} {o : HO} (h : a ≠ p) (e : H a = some o) : dl H p a = some o := by rw [dl_ne h]; exact e
section
variable {K : PySem.W.Frag} {cl : Str → Option Addr} {F0 H0 F H F' H' : Hp} {σ : L2.St} {ρ : En}
theorem Sr.inout {i : Nat} {p : Addr} {ho' : HO} {o o' : DO} (S : Sr K cl F0 H0 F H σ ρ) (hi : ρ[i]? = some (.own o)) (hp : σ[i]? = some (some (.ref p))) (g : Grow F (dl H p) F' H') (hf : F' p = none) (hH : H' p = some ho') (r : HR K cl F' ho' o') :
    Sr K cl F0 H0 F' H' σ (ρ.set i (.own o')) := by
  obtain ⟨q, ho, h1, h2, h3, h4, h5⟩ := S.own i o hi
  rw [hp] at h1; cases h1
  have hi' : i < ρ.length := (List.getElem?_eq_some_iff.mp hi).1
  have g2 : Grow F0 H0 F' H' := ⟨S.grow.f.trans g.f, g.s, fun a u e => g.h a u (dl_some (ne_of_none e h5) (S.grow.h a u e)), fun a u e z => by
    have ha := ne_of_none e h5
    exact g.n a u (dl_some ha (S.grow.h a u e)) (S.grow.n a u e z)⟩
  have S1 : Sr K cl F0 H0 F' H' σ (ρ.set i .un) := by
    have S0 := S.unE (i := i)
    refine ⟨g2, S0.len, fun j d e => ?_, fun j o2 e => ?_, S0.dis, S.tr.to (fun j t e => ⟨(set_un e tr_ne).2, rfl⟩) (fun j o p e1 e2 => .inl ⟨o, (set_un e1 own_ne).2, e2⟩) g.f fun a u hu hf _ hne => ⟨(g.h a u (dl_some (hne i o p hi hp) hu)).trans hu.symm, g.n a u (dl_some (hne i o p hi hp) hu) hf⟩⟩
    · obtain ⟨v, q1, q2⟩ := S0.val j d e
      exact ⟨v, q1, q2.mono g.f⟩
    · obtain ⟨q, ho2, q1, q2, q3, q4, q5⟩ := S0.own j o2 e
      have hji : j ≠ i := fun z => by
        rw [z, List.getElem?_set_self hi'] at e; cases e
      have hj : ρ[j]? = some (.own o2) := by rwa [List.getElem?_set_ne (Ne.symm hji)] at e
      have hqp : q ≠ p := fun z => by
        rw [z] at q1
        exact hji (S.dis j i o2 o p hj hi q1 hp)
      exact ⟨q, ho2, q1, g.n q ho2 (dl_some hqp q3) q2, g.h _ _ (dl_some hqp q3), q4.mono g.f, q5⟩
  have S2 := S1.setOwn (i := i) (p := p) (o := o') hf hH r h5 (fun j o2 e z => by
    have hji : j ≠ i := fun w => by
      rw [w, List.getElem?_set_self hi'] at e; cases e
    have hj : ρ[j]? = some (.own o2) := by rwa [List.getElem?_set_ne (Ne.symm hji)] at e
    exact hji (S.dis j i o2 o p hj hi z hp)) (S.tr.notin hi hp g.f (fun a u hu _ _ hn => (g.h a u (dl_some hn hu)).trans hu.symm) fun j t e => (set_un e tr_ne).2)
  rw [List.set_set] at S2
  have : σ.set i (some (.ref p)) = σ := by
    have hl := S.len
    refine List.ext_getElem? fun k => ?_
    by_cases hk : i = k
    · subst hk; rw [List.getElem?_set_self (by omega), hp]
    · rw [List.getElem?_set_ne hk]
  rw [this] at S2
  exact S2
end
/-- what the caller wants -/
def PostM (K : PySem.W.Frag) (cl : Str → Option Addr) (F H : Hp) (p : Addr) (Q : VK) : R (D × DO) → Prop
  | .ok (d, o) => ∀ v F' H' ho, Grow F (dl H p) F' H' → F' p = none → H' p = some ho → HR K cl F' ho o → Rp K cl F' v d → Q v H'
  | _ => False
def spM (K : PySem.W.Frag) (cl : Str → Option Addr) (n : Nat) (m : List D → DO → R (D × DO)) : Sp := fun vs H Q _ => ∃ ds F us p ho o, Ex F H ∧ Rps K cl F us ds ∧ vs = us ++ [.ref p] ∧ vs.length = n ∧ F p = none ∧ H p = some ho ∧ HR K cl F ho o ∧ PostM K cl F H p Q (m ds o)
/-- the body of such a def: its last parameter stands in slot j -/
def startM (n : Nat) (ds : List D) (o : DO) : En := ds.map Sl.val ++ .own o :: List.replicate (n - ds.length - 1) .un
def runM (n j : Nat) (mb : En → Fl D) (ds : List D) (o : DO) : R (D × DO) := match mb (startM n ds o) with
  | .rt d ρ => match ρ[j]? with
    | some (.own o') => .ok (d, o')
    | _ => .st
  | .nx ρ => match ρ[j]? with
    | some (.own o') => .ok (.non, o')
    | _ => .st
  | _ => .st
section
variable {P : Program} {w : World} {K : PySem.W.Frag} {mg : Str → Option Value} {base : Heap} {cl : Str → Option Addr}
theorem sr_startM {F H : Hp} {N : List Str} {us : List V} {ds : List D} {p : Addr} {ho : HO} {o : DO} (e : Ex F H) (r : Rps K cl F us ds) (hl : us.length + 1 ≤ N.length) (hf : F p = none) (hp : H p = some ho) (hr : HR K cl F ho o) :
    Sr K cl F (dl H p) F H (L2.start N (us ++ [.ref p])) (startM N.length ds o) ∧ (L2.start N (us ++ [.ref p]))[ds.length]? = some (some (.ref p)) := by
  have hlen := r.length
  have g : Grow F (dl H p) F H := ⟨Ex.refl _, e, dl_ex, fun _ _ _ z => z⟩
  have S0 := sr_start (K := K) (cl := cl) (N := N) (vs := us ++ [.ref p]) (ds := ds ++ [.non]) (F := F) (H := H)
  have hs : (L2.start N (us ++ [.ref p]))[ds.length]? = some (some (.ref p)) := by
    unfold L2.start
    rw [List.getElem?_append_left (by simp; omega), List.getElem?_map, List.getElem?_append_right (by omega)]
    simp [hlen]
  have at_ : ∀ {i : Nat} {q : Sl}, (startM N.length ds o)[i]? = some q → (i < ds.length ∧ ∃ d, ds[i]? = some d ∧ q = .val d) ∨ (i = ds.length ∧ q = .own o) ∨ q = .un := fun {i q} h => by
    unfold startM at h
    by_cases h1 : i < ds.length
    · rw [List.getElem?_append_left (by simpa using h1), List.getElem?_map] at h
      cases q2 : ds[i]? with
      | none => rw [q2] at h; cases h
      | some d => rw [q2] at h; cases h; exact .inl ⟨h1, d, rfl, rfl⟩
    · rw [List.getElem?_append_right (by simpa using h1)] at h
      have hi : i - (ds.map Sl.val).length = i - ds.length := by simp
      rw [hi] at h
      cases q3 : i - ds.length with
      | zero =>
        rw [q3] at h
        simp at h
        exact .inr (.inl ⟨by omega, h.symm⟩)
      | succ k =>
        rw [q3, List.getElem?_cons_succ] at h
        exact .inr (.inr (List.eq_of_mem_replicate (List.mem_of_getElem? h)))
  refine ⟨⟨g, ?_, fun i d h => ?_, fun i o' h => ?_, fun i j o1 o2 q e1 e2 _ _ => ?_, trOk_none fun i t h => ?_⟩, hs⟩
  rotate_right 1
  · rcases at_ h with ⟨h1, d', h2, h3⟩ | ⟨h1, h2⟩ | h1
    · cases h3
    · cases h2
    · cases h1
  · unfold L2.start startM; simp; omega
  · rcases at_ h with ⟨h1, d', h2, h3⟩ | ⟨h1, h2⟩ | h1
    · cases h3
      obtain ⟨v, hv, rv⟩ := r.get h2
      refine ⟨v, ?_, rv⟩
      unfold L2.start
      rw [List.getElem?_append_left (by simp; omega), List.getElem?_map, List.getElem?_append_left (by omega), hv]
      rfl
    · cases h2
    · cases h1
  · rcases at_ h with ⟨h1, d', h2, h3⟩ | ⟨h1, h2⟩ | h1
    · cases h3
    · cases h2; subst h1
      exact ⟨p, ho, hs, hf, hp, hr, dl_same⟩
    · cases h1
  · rcases at_ e1 with ⟨_, _, _, h3⟩ | ⟨h1, _⟩ | h1
    · cases h3
    · rcases at_ e2 with ⟨_, _, _, h3⟩ | ⟨h2, _⟩ | h2
      · cases h3
      · rw [h1, h2]
      · cases h2
    · cases h1
/-- wishes of such a body: what is told back is a value, the slot's object stands where it stood -/
theorem def_M {x qual : Str} {st : Stmt} {f : Addr} {fd : FuncData} {N ps : List Str} {k j : Nat} {mb : En → Fl D} (F : Fun K x qual st f fd) (S : FnScope N ps (defScope st)) (hn : ps.length ≤ N.length) (hj : ps.length = j + 1)
    (hb : ∀ (p : Addr) (cdv : Value) (A : Around) (outer : List Env) (s : Shared) (H : Hp) (E : XK), Room k (A.deeper (envOfC qual (defScope st) s.heap.objs.size f cdv)) →
      ∃ t, USs (cxOf (L2N.CX P w) P w K mg base N qual (defScope st) f cdv A outer s H E) cl WF [(j, p)] (RPV K cl [(j, p)]) (defBody st) t mb) : FnOk P w K mg base (L2N.CX P w) (k + 1) f fd ps (spM K cl ps.length (runM N.length j mb)) := by
  refine okXN F S (fun vs H Q E ⟨ds, F, us, p, ho, o, _, _, _, h, _⟩ => h) (fun cdv A outer s H vs Q E hr h => ?_)
  obtain ⟨ds, Fh, us, p, ho, o, ex, r, rfl, hl, hf, hp, hro, post⟩ := h
  obtain ⟨t, U⟩ := hb p cdv A outer s H E hr
  have hul : us.length = j := by simp at hl; omega
  have hdl : ds.length = j := by rw [← r.length]; exact hul
  obtain ⟨S0, hs⟩ := sr_startM (K := K) (cl := cl) (N := N) (p := p) ex r (by omega) hf hp hro
  rw [hdl] at hs
  have pin0 : Pin [(j, p)] (L2.start N (us ++ [.ref p])) := fun q hq => by
    have : q = (j, p) := by simpa using hq
    subst this; exact hs
  refine ⟨t, U.pe, U.es Fh (dl H p) Fh H _ _ _ S0 pin0 ?_⟩
  have fin : ∀ {v : V} {d : D} {σ : L2.St} {ρ : En} {F' H' : Hp} {o' : DO}, Sr K cl Fh (dl H p) F' H' σ ρ → Pin [(j, p)] σ → Rp K cl F' v d → ρ[j]? = some (.own o') → PostM K cl Fh H p Q (.ok (d, o')) → Q v H' := fun {v d σ ρ F' H' o'} S' P' r' e' q => by
    obtain ⟨p', ho', k1, k2, k3, k4, k5⟩ := S'.own j o' e'
    have := P' (j, p) (by simp)
    simp only at this
    rw [k1] at this
    cases this
    exact q v F' H' ho' S'.grow k2 k3 k4 r'
  unfold runM at post
  cases e : mb (startM N.length ds o) with
  | nx ρ =>
    rw [e] at post
    simp only at post
    split at post
    · rename_i o' ho'
      exact fun σ F' H' _ S' P' => fin S' P' rp_non ho' post
    · exact post.elim
  | rt d ρ =>
    rw [e] at post
    simp only at post
    split at post
    · rename_i o' ho'
      exact fun v σ F' H' S' P' r' => fin S' P' r' ho' post
    · exact post.elim
  | bk ρ => rw [e] at post; exact post.elim
  | ct ρ => rw [e] at post; exact post.elim
  | er x ρ => rw [e] at post; exact post.elim
  | st => rw [e] at post; exact post.elim
/-- nothing is promised: a def at any level -/
theorem fnok_no {k : Nat} {f : Addr} {fd : FuncData} {ps : List Str} {sp : Sp} (h : ∀ vs H Q E, ¬ sp vs H Q E) : FnOk P w K mg base (L2N.CX P w) k f fd ps sp :=
  ⟨fun vs H Q E q => (h _ _ _ _ q).elim, fun A outer s H args us vs Q E _ _ _ _ q => (h _ _ _ _ q).elim⟩
theorem fnok_noM {k n : Nat} {f : Addr} {fd : FuncData} {ps : List Str} : FnOk P w K mg base (L2N.CX P w) k f fd ps (spM K cl n fun _ _ => .st) := fnok_no fun vs H Q E ⟨_, _, _, _, _, _, _, _, _, _, _, _, _, q⟩ => q
theorem fnok_noV {k n : Nat} {f : Addr} {fd : FuncData} {ps : List Str} : FnOk P w K mg base (L2N.CX P w) k f fd ps (spV K cl n fun _ => .st) := fnok_no fun vs H Q E ⟨_, _, _, _, _, q⟩ => q
theorem fnok_noN {k n : Nat} {f : Addr} {fd : FuncData} {ps : List Str} : FnOk P w K mg base (L2N.CX P w) k f fd ps (spN K cl n fun _ => .st) := fnok_no fun vs H Q E ⟨_, _, _, _, _, q⟩ => q
end
/-! ### calls of such -/
section
variable {X : Cx} {cl : Str → Option Addr} {W : WX} {K : PySem.W.Frag} {e : Expr} {es : List Expr} {te : TE} {t : TA} {me : En → R D} {ma : En → R (List D)} {i n k : Nat} {x : Str} {ps : List Str} {p pos : Pos}
def PostAM (K : PySem.W.Frag) (cl : Str → Option Addr) (σ : L2.St) (i : Nat) (F H : Hp) (Q : List V → Hp → Prop) : R (List D) → Prop
  | .ok ds => ∀ vs F' H' p, Grow F H F' H' → Rps K cl F' vs ds → σ[i]? = some (some (.ref p)) → Q (vs ++ [.ref p]) H'
  | _ => False
structure UAM (X : Cx) (cl : Str → Option Addr) (es : List Expr) (t : TA) (ma : En → R (List D)) (i : Nat) : Prop where
  pe : PA X es t
  es : ∀ F0 H0 F H σ ρ Q, Sr X.K cl F0 H0 F H σ ρ → (∃ o, ρ[i]? = some (.own o)) → PostAM X.K cl σ i F H Q (ma ρ) → t σ H Q
theorem uam_last (h : PE X e (tVar i)) (hs : starEach [e] X.env = (false, eval e X.env) :: starEach [] X.env := by rfl) : UAM X cl [e] (tCons (tVar i) tNil) dNil i := by
  refine ⟨pa_cons h pa_nil hs, fun F0 H0 F H σ ρ Q S ⟨o, ho⟩ q => ?_⟩
  obtain ⟨p, _, h1, _⟩ := S.own i o ho
  exact ⟨_, h1, q [] F H p (Grow.refl S.ex) Rps.nil h1⟩
theorem uam_cons (h : UE X cl WF e te me) (hr : UAM X cl es t ma i) (hs : starEach (e :: es) X.env = (false, eval e X.env) :: starEach es X.env := by rfl) : UAM X cl (e :: es) (tCons te t) (dCons me ma) i := by
  refine ⟨pa_cons h.pe hr.pe hs, fun F0 H0 F H σ ρ Q S ho p => ?_⟩
  unfold dCons d2 at p
  refine h.es F0 H0 F H σ ρ _ S ?_
  cases e1 : me ρ with
  | st => rw [e1] at p; exact p
  | er x => rw [e1] at p; exact p.elim
  | ok dx =>
    rw [e1, R.bind_ok] at p
    intro x F1 H1 g1 r1
    refine hr.es F0 H0 F1 H1 σ ρ _ (S.mono g1) ho ?_
    cases e2 : ma ρ with
    | st => rw [e2] at p; exact p
    | er x => rw [e2] at p; exact p
    | ok dy =>
      rw [e2, R.bind_ok] at p
      exact fun ys F2 H2 q g2 r2 hq => p (x :: ys) F2 H2 q (g1.trans g2) (Rps.cons (r1.mono g2.f) r2) hq
def dCallM (i : Nat) (m : List D → DO → R (D × DO)) (ma : En → R (List D)) : En → R (D × En) := fun ρ => (ma ρ).bind fun ds => (ownAt i ρ).bind fun o => (m ds o).bind fun q => .ok (q.1, ρ.set i (.own q.2))
theorem ux_callM {m : List D → DO → R (D × DO)} (G : Cal X.prog X.w X.K X.mg X.base k x ps (spM X.K cl n m)) (hr : Room k X.A) (hn : ps.length = n) (ha : UAM X cl (e :: es) t ma i) (hl : ∀ ρ ds, ma ρ = .ok ds → ds.length + 1 = n) (hg : Gl X x := by rfl)
    (hdb : (x == ("__debug__" : Str)) = false := by decide) (he : starEach (e :: es) X.env = (false, eval e X.env) :: starEach es X.env := by rfl) (hpl : (backTo pos (starEach es X.env)).any (·.1) = false := by rfl) :
    UX X cl (.Call (.Name x p) (e :: es) [] pos) (tCallSD (spM X.K cl n m) [] (WE WF) t) (dCallM i m ma) := by
  obtain ⟨f, fd, F, hm, hk, hb⟩ := G
  refine ⟨pe_callSD F hr hg hm hk hb .nil (fun σ => L2N.passAt takesN0 σ) ha.pe hdb he hpl, fun F0 H0 F H σ ρ Q S p => ?_⟩
  unfold dCallM at p
  cases e1 : ma ρ with
  | st => rw [e1] at p; exact p.elim
  | er x => rw [e1] at p; exact p.elim
  | ok ds =>
    rw [e1, R.bind_ok] at p
    unfold ownAt at p
    split at p
    rotate_left
    · exact p.elim
    rename_i o hi
    rw [R.bind_ok] at p
    refine ha.es F0 H0 F H σ ρ _ S ⟨o, hi⟩ ?_
    rw [e1]
    intro vs F1 H1 q g r hq
    rw [List.append_nil]
    have S1 := S.mono g
    obtain ⟨q', ho, h1, h2, h3, h4, h5⟩ := S1.own i o hi
    rw [hq] at h1; cases h1
    refine ⟨ds, F1, vs, q, ho, o, g.s, r, rfl, by rw [List.length_append, r.length]; exact hl ρ ds e1, h2, h3, h4, ?_⟩
    cases e2 : m ds o with
    | st => rw [e2] at p; exact p.elim
    | er x => rw [e2] at p; exact p.elim
    | ok z =>
      obtain ⟨d, o'⟩ := z
      rw [e2, R.bind_ok] at p
      intro v F2 H2 ho2 g2 k1 k2 k3 k4
      exact p v F2 H2 (g.f.trans g2.f) (S1.inout hi hq g2 k1 k2 k3) k4
/-- the last argument is a new dict -/
def dCallMF (m : List D → DO → R (D × DO)) (o : DO) (ma : En → R (List D)) : En → R D := fun ρ => (ma ρ).bind fun ds => (noer (m ds o)).bind fun q => .ok q.1
structure UAF (X : Cx) (cl : Str → Option Addr) (W : WX) (es : List Expr) (t : TA) (ma : En → R (List D)) (o : DO) : Prop where
  pe : PA X es t
  es : ∀ F0 H0 F H σ ρ (Q : List V → Hp → Prop), Sr X.K cl F0 H0 F H σ ρ → (match ma ρ with
    | .ok ds => ∀ vs F' H' p ho, Grow F H F' H' → Rps X.K cl F' vs ds → H' p = none → HR X.K cl F' ho o → Q (vs ++ [.ref p]) (upd H' p ho)
    | .er x => ∀ cls dd F' H', Grow F H F' H' → ExR X.K cl F' x cls dd → W cls dd σ H'
    | .st => False) → t σ H Q
theorem uaf_dictT (hs : starEach [.Dict [] [] pos] X.env = (false, eval (.Dict [] [] pos) X.env) :: starEach [] X.env := by rfl) : UAF X cl W [.Dict [] [] pos] (tCons tDNewT tNil) dNil (.dT [] []) :=
  ⟨pa_cons pe_dnewT pa_nil hs, fun F0 H0 F H σ ρ Q S q => fun p hp => q [] F H p (.dT []) (Grow.refl S.ex) Rps.nil hp ⟨[], rfl, rfl, Rps.nil⟩⟩
theorem uaf_dictK (hs : starEach [.Dict [] [] pos] X.env = (false, eval (.Dict [] [] pos) X.env) :: starEach [] X.env := by rfl) : UAF X cl W [.Dict [] [] pos] (tCons tDNewK tNil) dNil (.dK [] []) :=
  ⟨pa_cons pe_dnewK pa_nil hs, fun F0 H0 F H σ ρ Q S q => fun p hp => q [] F H p (.dK []) (Grow.refl S.ex) Rps.nil hp ⟨[], rfl, rfl, Rps.nil⟩⟩
theorem uaf_cons {o : DO} (h : UE X cl W e te me) (hr : UAF X cl W es t ma o) (hs : starEach (e :: es) X.env = (false, eval e X.env) :: starEach es X.env := by rfl) : UAF X cl W (e :: es) (tCons te t) (dCons me ma) o := by
  refine ⟨pa_cons h.pe hr.pe hs, fun F0 H0 F H σ ρ Q S p => ?_⟩
  unfold dCons d2 at p
  refine h.es F0 H0 F H σ ρ _ S ?_
  cases e1 : me ρ with
  | st => rw [e1] at p; exact p
  | er x => rw [e1] at p; exact p
  | ok dx =>
    rw [e1, R.bind_ok] at p
    intro x F1 H1 g1 r1
    refine hr.es F0 H0 F1 H1 σ ρ _ (S.mono g1) ?_
    cases e2 : ma ρ with
    | st => rw [e2] at p; exact p
    | er x => rw [e2] at p; exact fun c d F2 H2 g2 q => p c d F2 H2 (g1.trans g2) q
    | ok dy =>
      rw [e2, R.bind_ok] at p
      exact fun ys F2 H2 q ho g2 r2 hq hr => p (x :: ys) F2 H2 q ho (g1.trans g2) (Rps.cons (r1.mono g2.f) r2) hq hr
theorem ue_callMF {m : List D → DO → R (D × DO)} {o : DO} (G : Cal X.prog X.w X.K X.mg X.base k x ps (spM X.K cl n m)) (hr : Room k X.A) (tk : L2N.Takes X W) (hn : ps.length = n) (ha : UAF X cl W (e :: es) t ma o) (hl : ∀ ρ ds, ma ρ = .ok ds → ds.length + 1 = n) (hg : Gl X x := by rfl)
    (hdb : (x == ("__debug__" : Str)) = false := by decide) (he : starEach (e :: es) X.env = (false, eval e X.env) :: starEach es X.env := by rfl) (hpl : (backTo pos (starEach es X.env)).any (·.1) = false := by rfl) :
    UE X cl W (.Call (.Name x p) (e :: es) [] pos) (tCallSD (spM X.K cl n m) [] (WE W) t) (dCallMF m o ma) := by
  obtain ⟨f, fd, F, hm, hk, hb⟩ := G
  refine ⟨pe_callSD F hr hg hm hk hb .nil (fun σ => L2N.passAt tk σ) ha.pe hdb he hpl, fun F0 H0 F H σ ρ Q S p => ha.es F0 H0 F H σ ρ _ S ?_⟩
  unfold dCallMF at p
  cases e1 : ma ρ with
  | st => rw [e1] at p; exact p.elim
  | er x => rw [e1] at p; exact p
  | ok ds =>
    rw [e1, R.bind_ok] at p
    intro vs F1 H1 q ho g r hq hro
    rw [List.append_nil]
    have g0 := Grow.lay' (o := ho) g.s hq
    refine ⟨ds, F1, vs, q, ho, o, g0.s, r, rfl, by rw [List.length_append, r.length]; exact hl ρ ds e1, Grow.fnone g.s hq, upd_same, hro, ?_⟩
    cases e2 : m ds o with
    | st => rw [e2] at p; exact p.elim
    | er x => rw [e2] at p; exact p.elim
    | ok z =>
      obtain ⟨d, o'⟩ := z
      rw [e2] at p
      replace p : Post X.K cl W σ F H Q (.ok d) := p
      have hd : dl (upd H1 q ho) q = H1 := by
        funext a
        by_cases ha : a = q
        · subst ha; rw [dl_same, hq]
        · rw [dl_ne ha, upd_ne ha]
      intro v F2 H2 ho2 g2 k1 k2 k3 k4
      rw [hd] at g2
      exact p v F2 H2 (g.trans g2) k4
end
end UP
namespace UP
open PySem L2 PyProof.Rows
/-! ### sorted: ints, pairs of ints -/
def ple (a b : Int × Int) : Bool := decide (a.1 < b.1) || (decide (a.1 = b.1) && decide (a.2 ≤ b.2))
theorem ple_iff {a b : Int × Int} : ple a b = true ↔ a.1 < b.1 ∨ (a.1 = b.1 ∧ a.2 ≤ b.2) := by unfold ple; simp
theorem ple_anti {a b : Int × Int} (h : ple a b = true) (k : ple b a = true) : a = b := by
  rw [ple_iff] at h k
  exact Prod.ext (by omega) (by omega)
theorem ple_tr (a b c : Int × Int) (h : ple a b = true) (k : ple b c = true) : ple a c = true := by
  rw [ple_iff] at h k ⊢; omega
theorem ple_tot (a b : Int × Int) : (ple a b || ple b a) = true := by
  rw [Bool.or_eq_true, ple_iff, ple_iff]; omega
/-- one item put into a sorted list -/
def insP (a : Int × Int) : List (Int × Int) → List (Int × Int)
  | [] => [a]
  | b :: l => if ple a b = true then a :: b :: l else b :: insP a l
def sortP : List (Int × Int) → List (Int × Int)
  | [] => []
  | a :: l => insP a (sortP l)
theorem insP_perm (a : Int × Int) : ∀ l, (insP a l).Perm (a :: l)
  | [] => .refl _
  | b :: l => by
    unfold insP
    split
    · exact .refl _
    · exact ((insP_perm a l).cons b).trans (.swap _ _ _)
theorem sortP_perm : ∀ l, (sortP l).Perm l
  | [] => .refl _
  | a :: l => (insP_perm a (sortP l)).trans ((sortP_perm l).cons a)
theorem insP_sorted (a : Int × Int) : ∀ l, l.Pairwise (fun x y => ple x y = true) → (insP a l).Pairwise fun x y => ple x y = true
  | [], _ => by unfold insP; exact List.pairwise_singleton _ _
  | b :: l, h => by
    unfold insP
    have hb := List.pairwise_cons.mp h
    split
    · rename_i q
      refine List.pairwise_cons.mpr ⟨fun y hy => ?_, h⟩
      rcases List.mem_cons.mp hy with e | hy
      · rw [e]; exact q
      · exact ple_tr _ _ _ q (hb.1 y hy)
    · rename_i q
      refine List.pairwise_cons.mpr ⟨fun y hy => ?_, insP_sorted a l hb.2⟩
      rcases List.mem_cons.mp ((insP_perm a l).mem_iff.mp hy) with e | hy
      · rw [e]
        have := ple_tot a b
        rw [Bool.or_eq_true] at this
        exact this.resolve_left q
      · exact hb.1 y hy
theorem sortP_sorted : ∀ l, (sortP l).Pairwise fun x y => ple x y = true
  | [] => .nil
  | a :: l => insP_sorted a _ (sortP_sorted l)
theorem sortP_is {l m : List (Int × Int)} (h : m.Pairwise fun x y => ple x y = true) (p : m.Perm l) : m = sortP l :=
  List.Perm.eq_of_pairwise (le := fun x y => ple x y = true) (fun a b _ _ h k => ple_anti h k) h (sortP_sorted l) (p.trans (sortP_perm l).symm)
/-- the pairs of a list of data -/
def dPairs : List D → Option (List (Int × Int))
  | [] => some []
  | .tup [.int i, .int j] :: ds => (dPairs ds).map ((i, j) :: ·)
  | _ => none
abbrev dPair (p : Int × Int) : D := .tup [.int p.1, .int p.2]
@[simp] theorem dPairs_map (l : List (Int × Int)) : dPairs (l.map dPair) = some l := by
  induction l with
  | nil => rfl
  | cons a l ih => rw [List.map_cons]; show (dPairs (l.map dPair)).map _ = _; rw [ih]; rfl
theorem dPairs_eq : ∀ {ds : List D} {l : List (Int × Int)}, dPairs ds = some l → ds = l.map dPair
  | [], l, h => by cases h; rfl
  | d :: ds, l, h => by
    unfold dPairs at h
    split at h
    · cases ‹_ :: _ = _›
    · rename_i i j ds' e
      cases e
      cases q : dPairs ds with
      | none => rw [q] at h; cases h
      | some m =>
        rw [q] at h; cases h
        rw [List.map_cons, ← dPairs_eq q]
    · cases h
section
variable {X : Cx} {cl : Str → Option Addr} {W : WX} {K : PySem.W.Frag} {σ : L2.St} {F H F' H' : Hp}
/-- which pair a value tells -/
def pairAt (H : Hp) : V → Int × Int
  | .ref t => match H t with
    | some (.tup [.int i, .int j]) => (i, j)
    | _ => (0, 0)
  | _ => (0, 0)
theorem rp_pair {v : V} {p : Int × Int} (e : Ex F H) (r : Rp K cl F v (dPair p)) : ∃ t, v = .ref t ∧ H t = some (.tup [.int p.1, .int p.2]) ∧ pairAt H v = p := by
  unfold Rp at r
  obtain ⟨t, vs, rfl, h1, h2⟩ := r
  obtain ⟨v1, r1, rfl, k1, k2⟩ := h2.cons_inv
  obtain ⟨v2, r2, rfl, k3, k4⟩ := k2.cons_inv
  rw [k4.nil_inv, k1.int_inv, k3.int_inv] at h1
  have := e _ _ h1
  exact ⟨t, rfl, this, by unfold pairAt; simp only [this]⟩
theorem rps_pairs (e : Ex F H) : ∀ {l : List (Int × Int)} {vs : List V}, Rps K cl F vs (l.map dPair) → vs.map (pairAt H) = l ∧ ∀ v ∈ vs, ∃ t, v = .ref t ∧ H t = some (.tup [.int (pairAt H v).1, .int (pairAt H v).2]) ∧ Rp K cl F v (dPair (pairAt H v))
  | [], vs, r => by rw [r.nil_inv]; exact ⟨rfl, fun v h => by cases h⟩
  | p :: l, vs, r => by
    obtain ⟨v, r', rfl, h1, h2⟩ := r.cons_inv
    obtain ⟨t, k1, k2, k3⟩ := rp_pair e h1
    obtain ⟨k4, k5⟩ := rps_pairs e h2
    refine ⟨by rw [List.map_cons, k3, k4], fun u hu => ?_⟩
    rcases List.mem_cons.mp hu with q | q
    · rw [q, k3]; exact ⟨t, k1, k2, h1⟩
    · exact k5 u q
theorem rps_of_all : ∀ {vs : List V} {k : V → Int × Int}, (∀ v ∈ vs, Rp K cl F v (dPair (k v))) → Rps K cl F vs ((vs.map k).map dPair)
  | [], k, _ => Rps.nil
  | v :: vs, k, h => Rps.cons (h v (by simp)) (rps_of_all fun u hu => h u (by simp [hu]))
def bSortP : Bool × List D → R DO := fun x => if x.1 = true then match dPairs x.2 with
  | some l => .ok (.lst ((sortP l).map dPair))
  | none => .st
  else .st
theorem ca_sortP : CaN K cl (rSortedPO K) bSortP := by
  intro W σ F H a vs b ds Q e s r p
  unfold bSortP at p
  split at p
  · rename_i hb
    have hb : b = true := hb
    subst hb
    split at p
    · rename_i l hl
      have ed := dPairs_eq hl
      simp only at ed
      subst ed
      obtain ⟨k1, k2⟩ := rps_pairs e r
      refine ⟨a, vs, pairAt H, rfl, s, fun x hx => let ⟨t, h1, h2, _⟩ := k2 x hx; ⟨t, h1, h2⟩, fun ys q hs hp hq => ?_⟩
      have hperm : (ys.map (pairAt H)).Perm l := by rw [← k1]; exact hp.perm.map _
      have hsrt : (ys.map (pairAt H)).Pairwise fun x y => ple x y = true := by
        rw [List.pairwise_map]
        refine hs.imp fun {x y} h => ?_
        have := SrtO.lexB_no.mp h
        rw [ple_iff]; omega
      have hy := sortP_is hsrt hperm
      have ry : Rps K cl F ys ((sortP l).map dPair) := by
        rw [← hy]
        exact rps_of_all fun v hv => (k2 v (hp.perm.mem_iff.mp hv)).elim fun _ h => h.2.2
      exact p q (.lst ys) F _ (Grow.lay' e hq) hq (Grow.fnone e hq) upd_same ⟨_, rfl, ry⟩
    · exact p.elim
  · exact p.elim
end
/-- ints -/
def insI (a : Int) : List Int → List Int
  | [] => [a]
  | b :: l => if a ≤ b then a :: b :: l else b :: insI a l
def sortI : List Int → List Int
  | [] => []
  | a :: l => insI a (sortI l)
theorem insI_perm (a : Int) : ∀ l, (insI a l).Perm (a :: l)
  | [] => .refl _
  | b :: l => by
    unfold insI
    split
    · exact .refl _
    · exact ((insI_perm a l).cons b).trans (.swap _ _ _)
theorem sortI_perm : ∀ l, (sortI l).Perm l
  | [] => .refl _
  | a :: l => (insI_perm a (sortI l)).trans ((sortI_perm l).cons a)
theorem insI_sorted (a : Int) : ∀ l, l.Pairwise (· ≤ ·) → (insI a l).Pairwise (· ≤ ·)
  | [], _ => by unfold insI; exact List.pairwise_singleton _ _
  | b :: l, h => by
    unfold insI
    have hb := List.pairwise_cons.mp h
    split
    · rename_i q
      refine List.pairwise_cons.mpr ⟨fun y hy => ?_, h⟩
      rcases List.mem_cons.mp hy with e | hy
      · rw [e]; exact q
      · exact Int.le_trans q (hb.1 y hy)
    · rename_i q
      refine List.pairwise_cons.mpr ⟨fun y hy => ?_, insI_sorted a l hb.2⟩
      rcases List.mem_cons.mp ((insI_perm a l).mem_iff.mp hy) with e | hy
      · rw [e]; omega
      · exact hb.1 y hy
theorem sortI_sorted : ∀ l, (sortI l).Pairwise (· ≤ ·)
  | [] => .nil
  | a :: l => insI_sorted a _ (sortI_sorted l)
theorem sortI_is {l m : List Int} (h : m.Pairwise (· ≤ ·)) (p : m.Perm l) : m = sortI l :=
  List.Perm.eq_of_pairwise (le := fun x y : Int => x ≤ y) (fun a b _ _ h k => Int.le_antisymm h k) h (sortI_sorted l) (p.trans (sortI_perm l).symm)
section
variable {cl : Str → Option Addr} {K : PySem.W.Frag}
def bSortI : Bool × List D → R DO := fun x => if x.1 = true then match dInts x.2 with
  | some l => .ok (.lst ((sortI l).map .int))
  | none => .st
  else .st
theorem ca_sortI : CaN K cl (rSortedI K) bSortI := by
  intro W σ F H a vs b ds Q e s r p
  unfold bSortI at p
  split at p
  · rename_i hb
    have hb : b = true := hb
    subst hb
    split at p
    · rename_i l hl
      have ev := dInts_rps r hl
      subst ev
      refine ⟨a, l, rfl, s, fun ns' q hp hs hq => ?_⟩
      rw [sortI_is hs hp]
      exact p q (.lst _) F _ (Grow.lay' e hq) hq (Grow.fnone e hq) upd_same ⟨_, rfl, Rps.ints⟩
    · exact p.elim
  · exact p.elim
end
/-! ### to reckon with defs that change an argument -/
section
variable {α : Type} {ρ : En}
def flM (j : Nat) : Fl D → R (D × DO)
  | .rt d ρ => (ownAt j ρ).bind fun o => .ok (d, o)
  | .nx ρ => (ownAt j ρ).bind fun o => .ok (.non, o)
  | _ => .st
theorem ownAt_ap (j : Nat) : ownAt j ρ = match ρ[j]? with | some (Sl.own o) => .ok o | _ => .st := id rfl
@[simp] theorem runM_ap (n j : Nat) (mb : En → Fl D) (ds : List D) (o : DO) : runM n j mb ds o = flM j (mb (startM n ds o)) := by
  unfold runM flM ownAt
  cases mb (startM n ds o) with
  | nx ρ => show (match ρ[j]? with | some (.own o') => R.ok (D.non, o') | _ => .st) = (match ρ[j]? with | some (.own o) => R.ok o | _ => .st).bind _; split <;> rfl
  | rt d ρ => show (match ρ[j]? with | some (.own o') => R.ok (d, o') | _ => .st) = (match ρ[j]? with | some (.own o) => R.ok o | _ => .st).bind _; split <;> rfl
  | bk ρ => rfl
  | ct ρ => rfl
  | er x ρ => rfl
  | st => rfl
@[simp] theorem flM_rt (j : Nat) (d : D) : flM j (.rt d ρ) = (ownAt j ρ).bind fun o => .ok (d, o) := id rfl
@[simp] theorem flM_nx (j : Nat) : flM j (.nx ρ) = (ownAt j ρ).bind fun o => .ok (.non, o) := id rfl
@[simp] theorem flM_st (j : Nat) : flM j .st = .st := id rfl
@[simp] theorem flM_ite (j : Nat) {c : Prop} [Decidable c] (a b : Fl D) : flM j (if c then a else b) = if c then flM j a else flM j b := by split <;> rfl
@[simp] theorem startM_ap (n : Nat) (ds : List D) (o : DO) : startM n ds o = ds.map Sl.val ++ .own o :: List.replicate (n - ds.length - 1) .un := id rfl
@[simp] theorem dCallM_ap (i : Nat) (m : List D → DO → R (D × DO)) (ma : En → R (List D)) : dCallM i m ma ρ = (ma ρ).bind fun ds => (ownAt i ρ).bind fun o => (m ds o).bind fun q => .ok (q.1, ρ.set i (.own q.2)) := id rfl
@[simp] theorem dCallMF_ap (m : List D → DO → R (D × DO)) (o : DO) (ma : En → R (List D)) : dCallMF m o ma ρ = (ma ρ).bind fun ds => (noer (m ds o)).bind fun q => .ok q.1 := id rfl
@[simp] theorem dInD_ap (i : Nat) (mk : En → R D) : dInD i mk ρ = (mk ρ).bind fun k => (ownAt i ρ).bind fun o => match dLook o k with | some od => .ok (.bl od.isSome) | none => .st := id rfl
@[simp] theorem dGetD_ap (i : Nat) (mk : En → R D) : dGetD i mk ρ = (ownAt i ρ).bind fun o => (mk ρ).bind fun k => match dLook o k with | some (some x) => .ok x | _ => .st := id rfl
@[simp] theorem fPutD_ap (i : Nat) (mk me : En → R D) : (fPutD i mk me ρ : Fl α) = fOf (me ρ) ρ fun d => fOf (noer (mk ρ)) ρ fun k => fOf (ownAt i ρ) ρ fun o => match dPutO o k d with | some o' => .nx (ρ.set i (.own o')) | none => .st := id rfl
@[simp] theorem dDT0_ap : dDT0 ρ = .ok (.dT [] []) := id rfl
@[simp] theorem fSetX_ap (i : Nat) (me : En → R (D × En)) : (fSetX i me ρ : Fl α) = fOfX (me ρ) fun d ρ => .nx (ρ.set i (.val d)) := id rfl
@[simp] theorem fRetX_ap (me : En → R (D × En)) : fRetX me ρ = fOfX (me ρ) fun d ρ => .rt d ρ := id rfl
@[simp] theorem fExprX_ap (me : En → R (D × En)) : (fExprX me ρ : Fl α) = fOfX (me ρ) fun _ ρ => .nx ρ := id rfl
@[simp] theorem fIfX_ap (me : En → R (D × En)) (a b : En → Fl α) : fIfX me a b ρ = fOfX (me ρ) fun d ρ => match d with | .bl c => if c = true then a ρ else b ρ | _ => .st := id rfl
@[simp] theorem dX2_ap (f : D → D → R D) (a b : En → R (D × En)) : dX2 f a b ρ = (a ρ).bind fun x => (b x.2).bind fun y => (noer (f x.1 y.1)).bind fun d => .ok (d, y.2) := id rfl
@[simp] theorem fOfX_st (k : D → En → Fl α) : fOfX .st k = .st := id rfl
@[simp] theorem fOfX_ite {c : Prop} [Decidable c] (a b : R (D × En)) (k : D → En → Fl α) : fOfX (if c then a else b) k = if c then fOfX a k else fOfX b k := by split <;> rfl
theorem np {i j : Nat} {p : Addr} (h : i ≠ j) : i ∉ [(j, p)].map (·.1) := by simpa using h
theorem nps {ws : List Nat} {j : Nat} {p : Addr} (h : ∀ i ∈ ws, i ≠ j) : ∀ i ∈ ws, i ∉ [(j, p)].map (·.1) := fun i hi => np (h i hi)
end
end UP
namespace UP
open PySem L2 PyProof.Rows PySem.W
/-! ### min of lists of pairs of ints -/
def plt (a b : Int × Int) : Bool := decide (a.1 < b.1 ∨ (a.1 = b.1 ∧ a.2 < b.2))
def llt : List (Int × Int) → List (Int × Int) → Bool
  | [], [] => false
  | [], _ :: _ => true
  | _ :: _, [] => false
  | a :: l, b :: m => if a = b then llt l m else plt a b
def pyP (p : Int × Int) : PyData := .tuple [.int p.1, .int p.2]
def pyL (l : List (Int × Int)) : PyData := .list (l.map pyP)
theorem alike_pp (a b : Int × Int) : alike (pyP a) (pyP b) = true := by unfold pyP; simp [alike, alikeAll]
theorem eqv_pp (a b : Int × Int) : PyData.eqv (pyP a) (pyP b) = decide (a = b) := by
  unfold pyP
  simp only [PyData.eqv, PyData.eqvAll]
  rw [Bool.eq_iff_iff]
  simp [Prod.ext_iff]
theorem alike_ll : ∀ l m : List (Int × Int), alikeAll (l.map pyP) (m.map pyP) = true
  | [], _ => by unfold alikeAll; rfl
  | _ :: _, [] => by unfold alikeAll; rfl
  | a :: l, b :: m => by
    rw [List.map_cons, List.map_cons, alikeAll, alike_pp, alike_ll l m]; rfl
theorem rowLt_ll : ∀ l m : List (Int × Int), rowLt (l.map pyP) (m.map pyP) = llt l m
  | [], [] => lex_irrefl _
  | [], b :: m => by
    unfold rowLt llt
    rw [List.map_cons, List.map_nil, keyToksAll, keyToksAll, lex_diff (O := itemOrd) (x := .inl 0) (y := .inl 1) (by simp)]
    rfl
  | a :: l, [] => by
    unfold rowLt llt
    rw [List.map_cons, List.map_nil, keyToksAll, keyToksAll, lex_diff (O := itemOrd) (x := .inl 1) (y := .inl 0) (by simp)]
    rfl
  | a :: l, b :: m => by
    have ih := rowLt_ll l m
    unfold rowLt at ih ⊢
    rw [List.map_cons, List.map_cons, dataLt_cons (alike_pp a b), ih, eqv_pp]
    show _ = if a = b then llt l m else plt a b
    by_cases h : a = b
    · simp [h]
    · simp only [h, decide_false, Bool.false_eq_true, if_false]
      exact dataLt_ii _ _ _ _
theorem dataLt_pl (l m : List (Int × Int)) : dataLt (pyL l) (pyL m) = llt l m := by
  unfold pyL
  rw [dataLt_list]
  exact rowLt_ll l m
def minPP (x : List (Int × Int)) (xs : List (List (Int × Int))) : List (Int × Int) := xs.foldl (fun a y => if llt y a = true then y else a) x
theorem minD_pp : ∀ (xs : List (List (Int × Int))) (x : List (Int × Int)), minD (pyL x) (xs.map pyL) = pyL (minPP x xs)
  | [], _ => rfl
  | y :: xs, x => by
    have ih := minD_pp xs (if llt y x = true then y else x)
    unfold minD minPP at ih ⊢
    rw [List.map_cons, List.foldl_cons, List.foldl_cons, dataLt_pl, ← ih]
    by_cases h : llt y x = true
    · rw [if_pos h, if_pos h]
    · rw [if_neg h, if_neg h]
theorem pyP_inj {a b : Int × Int} (h : pyP a = pyP b) : a = b := by
  unfold pyP at h
  simp at h
  exact Prod.ext h.1 h.2
theorem pyL_inj : ∀ {l m : List (Int × Int)}, pyL l = pyL m → l = m := by
  intro l m h
  unfold pyL at h
  have h : l.map pyP = m.map pyP := by simpa using h
  exact List.map_inj_right (fun _ _ => pyP_inj) |>.mp h
theorem alike_all (xs : List (List (Int × Int))) : AlikeAll (xs.map pyL) := by
  refine ⟨fun x hx y hy => ?_, fun x hx e => ?_⟩
  · obtain ⟨l, _, rfl⟩ := List.mem_map.mp hx
    obtain ⟨m, _, rfl⟩ := List.mem_map.mp hy
    unfold pyL alike
    exact alike_ll l m
  · obtain ⟨l, _, rfl⟩ := List.mem_map.mp hx
    unfold pyL at e; cases e
theorem depth_l : ∀ l : List (Int × Int), PyData.depthAll (l.map pyP) ≤ 1
  | [] => Nat.zero_le _
  | p :: l => by
    rw [List.map_cons, PyData.depthAll]
    refine Nat.max_le.mpr ⟨?_, depth_l l⟩
    unfold pyP
    simp [PyData.depth, PyData.depthAll]
theorem depth_ll : ∀ xs : List (List (Int × Int)), PyData.depthAll (xs.map pyL) ≤ 2
  | [] => Nat.zero_le _
  | l :: xs => by
    rw [List.map_cons, PyData.depthAll]
    refine Nat.max_le.mpr ⟨?_, depth_ll xs⟩
    unfold pyL
    have := depth_l l
    unfold PyData.depth
    omega
def rMinP (K : PySem.W.Frag) : List V → Hp → VK → Prop := fun vs H Q => ∃ (a : Addr) (us : List V) (x : List (Int × Int)) (xs : List (List (Int × Int))), vs = [V.ref a] ∧ SqL K H a us ∧ DpAll K H us ((x :: xs).map pyL) ∧
  ∀ (i : Nat) (u : V), us[i]? = some u → (x :: xs)[i]? = some (minPP x xs) → Q u H
theorem vals_at : ∀ {vs : List V} {us : List Value} {i : Nat} {u : Value}, Vals vs us → us[i]? = some u → ∃ v, vs[i]? = some v ∧ RelV v u
  | _, _, i, u, .nil, h => by simp at h
  | _, _, 0, u, .cons r t, h => by
    simp at h; subst h
    exact ⟨_, rfl, r⟩
  | _, _, i + 1, u, .cons r t, h => by
    obtain ⟨v, h1, h2⟩ := vals_at t (by simpa using h)
    exact ⟨v, by simpa using h1, h2⟩
section
variable {X : Cx} {cl : Str → Option Addr} {W : WX} {K : PySem.W.Frag} {σ : L2.St} {F H F' H' : Hp}
theorem cr_minP (hc : X.calm = true) (hu : X.A.units + 64 < cLine) : CallR X (.builtin "min") (rMinP X.K) := by
  intro pins s σ H vs us Q I r h
  obtain ⟨a, ws, x, xs, rfl, hs, hd, q⟩ := h
  obtain rfl := Vals.ref1 r
  obtain ⟨its, rv, hl, _⟩ := I.list hs
  obtain ⟨as, hr⟩ := Dp.readsAll I _ ws its hd rv
  have hr' : ReadsAll s.heap its.toArray.toList ((x :: xs).map pyL) as := hr
  have hn : its.toArray.size = xs.length + 1 := by
    have := readsAll_len hr'
    rw [List.length_map] at this
    exact this
  have hdp := depth_ll (x :: xs)
  refine call_min_walkH (iter_listW (A := X.A.in1) (I.ok.hd hc) hl.isList fun s₂ e W st hfp hw hk => ?_)
  refine ⟨_, _, _, _, _, _, _, s.heap, _, rfl, W, st, hfp, by omega, hw, hk, cmpIn_lt (A := X.A.in1) hr' (alike_all (x :: xs)) (by show X.A.units + 1 + _ < _; omega), fun v s' hP m => ?_⟩
  obtain ⟨h', tk, rfl, hk'⟩ := moved_old e rfl m
  have e1 : its.toArray.size - 1 = xs.length := by omega
  have e2 := (argBest_fold dataLt PyData.none (pyL x) (xs.map pyL) (xs.map pyL).length (Nat.le_refl _)).2
  rw [List.take_length, List.length_map] at e2
  rw [e1] at hP
  have e3 : (xs.map pyL).foldl (fun a y => if dataLt y a then y else a) (pyL x) = pyL (minPP x xs) := minD_pp xs x
  rw [e3] at e2
  obtain ⟨bs, _, l1, _, _⟩ := readsAll_atA hr' _ v hP
  rw [List.map_cons] at hP l1
  generalize argBest _ xs.length = i at hP e2 l1
  rw [← List.map_cons (f := pyL)] at e2 l1
  rw [List.length_map] at l1
  have e4 : (x :: xs)[i]? = some (minPP x xs) := by
    rw [List.getD_eq_getElem?_getD, List.getElem?_map, List.getElem?_eq_getElem l1] at e2
    rw [List.getElem?_eq_getElem l1]
    exact congrArg some (pyL_inj e2)
  obtain ⟨u, h1, h2⟩ := vals_at (i := i) (u := v) rv (by simpa using hP)
  exact ⟨u, H, I.kept hk', h2, q i u h1 e4⟩
/-- the lists of pairs of a list of data -/
def dPairss : List D → Option (List (List (Int × Int)))
  | [] => some []
  | .lst xs :: ds => match dPairs xs, dPairss ds with
    | some l, some ls => some (l :: ls)
    | _, _ => none
  | _ => none
abbrev dPL (l : List (Int × Int)) : D := .lst (l.map dPair)
@[simp] theorem dPairss_map : ∀ ls : List (List (Int × Int)), dPairss (ls.map dPL) = some ls
  | [] => rfl
  | l :: ls => by
    rw [List.map_cons]
    show (match dPairs (l.map dPair), dPairss (ls.map dPL) with | some l, some ls => some (l :: ls) | _, _ => none) = _
    rw [dPairs_map, dPairss_map ls]
theorem dPairss_eq : ∀ {ds : List D} {ls : List (List (Int × Int))}, dPairss ds = some ls → ds = ls.map dPL
  | [], ls, h => by cases h; rfl
  | d :: ds, ls, h => by
    unfold dPairss at h
    split at h
    · cases ‹_ :: _ = _›
    · rename_i xs ds' e
      cases e
      split at h
      · rename_i l ls' e1 e2
        cases h
        rw [List.map_cons, ← dPairss_eq e2]
        show D.lst xs :: ds = D.lst (l.map dPair) :: ds
        rw [← dPairs_eq e1]
      · cases h
    · cases h
theorem toPys_pairs : ∀ l : List (Int × Int), toPys (l.map dPair) = some (l.map pyP)
  | [] => by unfold toPys; rfl
  | p :: l => by
    rw [List.map_cons]
    unfold toPys
    rw [toPys_pairs l]
    have : toPy (dPair p) = some (pyP p) := by
      unfold toPy
      show (toPys [D.int p.1, D.int p.2]).map _ = _
      simp [toPys, toPy, pyP]
    rw [this]; rfl
theorem toPys_pls : ∀ ls : List (List (Int × Int)), toPys (ls.map dPL) = some (ls.map pyL)
  | [] => by unfold toPys; rfl
  | l :: ls => by
    rw [List.map_cons]
    unfold toPys
    rw [toPys_pls ls]
    have : toPy (dPL l) = some (pyL l) := by
      unfold toPy
      rw [toPys_pairs l]; rfl
    rw [this]; rfl
def bMinP : Bool × List D → R D := fun q => if q.1 = true then match dPairss q.2 with
  | some (x :: xs) => .ok (dPL (minPP x xs))
  | _ => .st
  else .st
theorem ca_minP : CaL K cl (rMinP K) bMinP := by
  intro W σ F H a vs b ds Q e s r p
  unfold bMinP at p
  split at p
  · rename_i hb
    have hb : b = true := hb
    subst hb
    split at p
    · rename_i x xs hl
      have ed := dPairss_eq hl
      simp only at ed
      subst ed
      refine ⟨a, vs, x, xs, rfl, s, dp_ofs e r (toPys_pls (x :: xs)), fun i u hu hi => ?_⟩
      obtain ⟨v, h1, h2⟩ := r.get (i := i) (d := dPL (minPP x xs)) (by rw [List.getElem?_map, hi]; rfl)
      rw [hu] at h1
      cases h1
      exact post_ok p e h2
    · exact p.elim
  · exact p.elim
@[simp] theorem bMinP_map (x : List (Int × Int)) (xs : List (List (Int × Int))) : bMinP (true, (x :: xs).map dPL) = .ok (dPL (minPP x xs)) := by
  unfold bMinP
  rw [if_pos rfl]
  simp only [dPairss_map]
/-! ### max(xs, default=d) of ints -/
def rMaxK (K : PySem.W.Frag) : List V → List V → Hp → VK → Prop := fun vs zs H Q => ∃ (a : Addr) (ns : List Int) (z : V), vs = [V.ref a] ∧ zs = [z] ∧ SqL K H a (ns.map V.int) ∧ (ns = [] → Q z H) ∧ (ns ≠ [] → Q (.int (maxL ns)) H)
theorem dp_ints : ∀ ns : List Int, DpAll K H (ns.map V.int) (ns.map PyData.int)
  | [] => .nil
  | n :: ns => .cons (.int n) (dp_ints ns)
theorem depth_ints : ∀ ns : List Int, PyData.depthAll (ns.map PyData.int) ≤ 0
  | [] => Nat.le_refl _
  | n :: ns => by
    rw [List.map_cons, PyData.depthAll]
    refine Nat.max_le.mpr ⟨?_, depth_ints ns⟩
    simp [PyData.depth]
theorem maxL_fold (n : Int) (ns : List Int) : maxL (n :: ns) = ns.foldl max n := by
  have : ∀ (ns : List Int) (n : Int), ns.foldl (fun m x => if x > m then x else m) n = ns.foldl max n := by
    intro ns
    induction ns with
    | nil => intro n; rfl
    | cons a ns ih =>
      intro n
      rw [List.foldl_cons, List.foldl_cons, ih]
      congr 1
      omega
  exact this ns n
theorem reads_int {h : Heap} {v : Value} {i : Int} {as : List Addr} (r : Reads h v (.int i) as) : ∃ t, v = .int i t := by
  cases r; exact ⟨_, rfl⟩
theorem cr_maxK (hc : X.calm = true) (hu : X.A.units + 64 < cLine) : CallRK X (.builtin "max") [Str.ofString "default"] (rMaxK X.K) := by
  intro pins s σ H vs zs us ws Q I r rz h
  obtain ⟨a, ns, z, rfl, rfl, hs, q0, q1⟩ := h
  obtain rfl := Vals.ref1 r
  obtain ⟨w1, rfl, e1⟩ := vals1 rz
  obtain ⟨its, rv, hl, _⟩ := I.list hs
  obtain ⟨as, hr⟩ := Dp.readsAll I _ _ its (dp_ints ns) rv
  have hr' : ReadsAll s.heap its.toArray.toList (ns.map PyData.int) as := hr
  have hdp := depth_ints ns
  have ha : AlikeAll (ns.map PyData.int) := by
    refine ⟨fun x hx y hy => ?_, fun x hx e => ?_⟩
    · obtain ⟨i, _, rfl⟩ := List.mem_map.mp hx
      obtain ⟨j, _, rfl⟩ := List.mem_map.mp hy
      unfold alike; rfl
    · obtain ⟨i, _, rfl⟩ := List.mem_map.mp hx
      cases e
  refine max_list_default (A := X.A) (I.ok.hd hc) hl.isList hr' ha (by omega) (fun he h' tk hk => ?_) (fun y ys i v h' tk bs he _ hrd hk => ?_)
  · have : ns = [] := by simpa using he
    exact ⟨z, H, I.kept hk, e1, q0 this⟩
  · cases ns with
    | nil => cases he
    | cons n ns =>
      rw [List.map_cons] at he
      cases he
      rw [maxD_ints] at hrd
      obtain ⟨t, rfl⟩ := reads_int hrd
      refine ⟨.int (maxL (n :: ns)), H, I.kept hk, ⟨t, ?_⟩, q1 (by simp)⟩
      rw [maxL_fold]
def bMaxK (q : Bool × List D) (z : D) : R D := if q.1 = true then match dInts q.2 with
  | some [] => .ok z
  | some ns => .ok (.int (maxL ns))
  | none => .st
  else .st
variable {es : List Expr} {x nm : Str} {kpos p pos : Pos}
theorem ue_maxK {e d : Expr} {te td : TE} {ml : En → R (Bool × List D)} {mz : En → R D} (hc : X.calm = true) (hu : X.A.units + 64 < cLine) (hg : Gl X "max") (hm : X.mg "max" = none) (hv : bootBuiltins "max" = some (.builtin "max")) (ha : UL X cl W e te ml) (hd : UE X cl W d td mz)
    (hs : starEach [e] X.env = (false, eval e X.env) :: starEach [] X.env := by rfl)
    (he : backTo pos (starEach [e] X.env) = (false, eval e X.env) :: backTo pos (starEach [] X.env) := by rfl) (hpl : (backTo pos (starEach [e] X.env)).any (·.1) = false := by rfl)
    (hall : (backToKw pos (keywordEach [⟨some (Str.ofString "default"), d, kpos⟩] X.env)).all (·.1.isSome) = true := by rfl) (hnone : (backToKw pos (keywordEach [⟨some (Str.ofString "default"), d, kpos⟩] X.env)).any (·.1.isNone) = false := by rfl) (hks : (backToKw pos (keywordEach [⟨some (Str.ofString "default"), d, kpos⟩] X.env)).filterMap (·.1) = [Str.ofString "default"] := by rfl) :
    UE X cl W (.Call (.Name "max" p) [e] [⟨some (Str.ofString "default"), d, kpos⟩] pos) (tCKw (rMaxK X.K) (tCons te tNil) (tCons td tNil)) (d2 bMaxK ml mz) := by
  refine ⟨pe_callBK (cr_maxK hc hu) hg hm hv (pa_cons ha.pe pa_nil hs) (pk_cons hd.pe pk_nil) (by decide) (by decide) he hpl hall hnone hks, fun F0 H0 F H σ ρ Q S p => ?_⟩
  unfold d2 at p
  refine ha.es F0 H0 F H σ ρ _ S ?_
  cases e1 : ml ρ with
  | st => rw [e1] at p; exact p
  | er x => rw [e1] at p; exact p
  | ok q =>
    obtain ⟨bb, ds⟩ := q
    rw [e1, R.bind_ok] at p
    intro a vs F1 H1 g1 s1 r1
    refine hd.es F0 H0 F1 H1 σ ρ _ (S.mono g1) ?_
    cases e2 : mz ρ with
    | st => rw [e2] at p; exact p
    | er x => rw [e2] at p; exact fun c d F2 H2 g2 q => p c d F2 H2 (g1.trans g2) q
    | ok dz =>
      rw [e2, R.bind_ok] at p
      intro z F2 H2 g2 r2
      unfold bMaxK at p
      split at p
      · rename_i hb
        have hb : bb = true := hb
        subst hb
        split at p
        · rename_i hn
          have ev := dInts_rps (r1.mono g2.f) hn
          subst ev
          exact ⟨a, [], z, rfl, rfl, s1.mono g2.h, fun _ => p z F2 H2 (g1.trans g2) r2, fun h => absurd rfl h⟩
        · rename_i ns hne hn
          have ev := dInts_rps (r1.mono g2.f) hn
          subst ev
          exact ⟨a, ns, z, rfl, rfl, s1.mono g2.h, fun h => absurd h hne, fun _ => p _ F2 H2 (g1.trans g2) rp_int⟩
        · exact p.elim
      · exact p.elim
end
@[simp] theorem bMaxK_nil (z : D) : bMaxK (true, []) z = .ok z := id rfl
theorem bMaxK_ints (ns : List Int) (z : D) (h : ns ≠ []) : bMaxK (true, ns.map .int) z = .ok (.int (maxL ns)) := by
  unfold bMaxK
  rw [if_pos rfl]
  simp only [dInts_map]
end UP
/-! ### sorted(a dict): its keys, ints -/
namespace DkS
open PySem PySem.Spec PyProof.Rows PySem.W Srt SrtO
section
variable {prog : Program} {w : World} {A : Around} {E : Value → Shared → Prop} {s : Shared} {T : String} {r d : Addr} {n : Nat} {P : Nat → Value → Prop} {OK : Heap → Prop}
theorem collectK {R : List Value → Shared → Prop} (K : KdlSrc prog w T r d n P OK) (hh : A.handled = none) (hok : OK s.heap) (hn : n ≤ sizeLine)
    (h : ∀ (h' : Heap) (tk : Nat) (acc : Array Value), (∀ b o, s.heap.get? b = some o → h'.get? b = some o) → s.heap.objs.size < h'.objs.size → ItemsOf P acc n → R acc.toList { s with heap := h', toks := tk }) :
    wpAny (model prog w) A (collect (.ref r)) R E s := by
  have hlt := K.there _ hok
  unfold collect
  refine wpAny_bind (wpAny_runValue (codeAny_builtin PySem.F.entry_proto_collect ?_))
  rw [Around.under_plainId PySem.F.plain_proto_collect _]
  show wpAny _ A.in1 (newList [] >>= fun l => again (.builtin "list.__iadd__" ⟨[l, .ref r], []⟩)) _ _ s
  refine wpAny_bind (wpAny_newObj_type ?_)
  refine wpAny_pure ⟨plainId_quiet PySem.F.plain_list_iadd _, codeAny_builtin PySem.F.entry_list_iadd ?_⟩
  rw [Around.under_plainId PySem.F.plain_list_iadd _]
  have hS₁ : (s.heap.push { cls := .type "list", data := .seq ([] : List Value).toArray }).get? s.heap.objs.size = some { cls := .type "list", data := .seq #[] } := Heap.get?_push_size _ rfl
  show wpAny _ A.in1 (Builtin.List.listExtendWith (.ref s.heap.objs.size) (.ref r) (.ref s.heap.objs.size)) _ _ _
  have key := kdl_extend (prog := prog) (w := w) (A := A) (s := { s with heap := s.heap.push { cls := .type "list", data := .seq ([] : List Value).toArray } })
    (R := fun (q : Result) (s' : Shared) => ∃ (h' : Heap) (tk : Nat) (acc' : Array Value) (c' : Nat), q = .ok (.ret (.ref s.heap.objs.size)) ∧ s' = { s with heap := h', toks := tk } ∧
      (∀ b o, s.heap.get? b = some o → h'.get? b = some o) ∧ h'.get? s.heap.objs.size = some { cls := .type "list", dict := none, data := .seq acc' c', slots := #[] } ∧ ItemsOf P acc' n)
    K hh (K.keep _ _ hok fun b _ o e => Heap.get?_push_of_some _ e) s.heap.objs.size (Nat.ne_of_gt hlt.1) (Nat.ne_of_gt hlt.2) (.ref s.heap.objs.size) 0 hS₁
    (fun h' tk acc' c' hk hS' hacc => ⟨h', tk, acc', c', rfl, rfl, fun b o e => hk b o (Nat.ne_of_lt (Heap.lt_size e)) (Heap.get?_push_of_some _ e), hS', hacc⟩) hn
  refine wpAny_mono key (fun fin s' x => ?_) fun e s' x => ?_
  · cases fin with
    | done f =>
      obtain ⟨h', tk, acc', c', e, rfl, hk, hS', hacc⟩ := x
      cases e
      show wpAny _ A (load s.heap.objs.size >>= _) _ _ _
      refine wpAny_bind (wpAny_load hS' ?_)
      refine wpAny_pure ?_
      exact h h' tk acc' hk (Heap.lt_size hS') hacc
    | again c₁ =>
      refine ⟨x.1, codeAny_mono x.2 fun q s₂ y => ?_⟩
      obtain ⟨h', tk, acc', c', rfl, rfl, hk, hS', hacc⟩ := y
      show wpAny _ A (load s.heap.objs.size >>= _) _ _ _
      refine wpAny_bind (wpAny_load hS' ?_)
      refine wpAny_pure ?_
      exact h h' tk acc' hk (Heap.lt_size hS') hacc
  · obtain ⟨_, _, _, _, e', _⟩ := x
    cases e'
theorem sortedK {ltv : Value → Value → Bool} {Q : Value → Shared → Prop} (O : Swo ltv) (K : KdlSrc prog w T r d n P OK) (hh : A.handled = none) (hok : OK s.heap) (hn : n ≤ sizeLine)
    (hS : ∀ (acc : Array Value) (s' : Shared) (a : Addr), ItemsOf P acc n → 2 ≤ acc.toList.length → SortableO prog w A.in1.in1 s' a acc.toList ltv)
    (h : ∀ (h' : Heap) (tk : Nat) (acc : Array Value) (out : List Value) (p : Addr) (c : Nat), (∀ b o, s.heap.get? b = some o → h'.get? b = some o) → s.heap.objs.size ≤ p → ItemsOf P acc n → Srtd ltv out → Stb ltv out acc.toList → h'.get? p = some (seqObj "list" out.toArray c) → Q (.ref p) { s with heap := h', toks := tk }) :
    wpAny (model prog w) A (call (.builtin "sorted") [.ref r]) Q E s := by
  refine Calls.call_function_entry kind_sorted plain_sorted entry_sorted (args_sorted1 _) ?_
  unfold Builtin.«sorted»
  refine wpAny_bind (m := checkCount "sorted" 1 1 _) (wpAny_pure ?_)
  refine wpAny_bind (collectK (A := A.in1) K hh hok hn fun h1 tk acc hk hlt hacc => ?_)
  have hz : acc.toList.length ≤ sizeLine := by rw [Array.length_toList, hacc.1]; exact hn
  refine wpAny_bind (wpAny_newList ?_ hz)
  have hoL : (h1.push (seqObj "list" acc.toList.toArray 0)).get? h1.objs.size = some (seqObj "list" acc.toList.toArray 0) := Heap.get?_push_size _ rfl
  refine wpAny_bind (wpAny_holding (wpAny_call_entry slot_list_sort ⟨_, hoL, rfl⟩ entry_list_sort (list_sort_ord O hoL hz (fun h2 => hS acc _ _ hacc h2) fun out hs hb => ⟨_, rfl, ?_⟩) (args_list_sort _)))
  obtain ⟨c, hc⟩ := sortedHeap_at (vs := acc.toList) (out := out.toArray) hoL
  refine wpAny_pure ⟨_, rfl, h _ _ acc out h1.objs.size c (fun b u e => ?_) (Nat.le_of_lt hlt) hacc hs hb hc⟩
  have q := hk b u e
  have hl := Heap.lt_size q
  rw [sortedHeap_old (Nat.ne_of_lt hl) (by rw [size_push']; exact Nat.lt_succ_of_lt hl)]
  exact Heap.get?_push_of_some _ q
end
end DkS
namespace UP
open PySem L2 PyProof.Rows PySem.W
def rSortedD : List V → Hp → VK → Prop := fun vs H Q => ∃ (a : Addr) (kvs : List (Key × V)) (ns : List Int), vs = [V.ref a] ∧ Rd H a (.dK kvs) ∧ kvs.map (·.1) = ns.map Sum.inl ∧
  ∀ (ns' : List Int) (p : Addr), ns'.Perm ns → ns'.Pairwise (· ≤ ·) → H p = none → Q (.ref p) (upd H p (.lst (ns'.map V.int)))
section
variable {X : Cx} {cl : Str → Option Addr} {W : WX} {K : PySem.W.Frag} {σ : L2.St} {F H F' H' : Hp} {pos p2 : Pos}
theorem cr_sortedD (hc : X.calm = true) : CallR X (.builtin "sorted") rSortedD := by
  intro pins s σ H vs us Q I r h
  obtain ⟨a, kvs, ns, rfl, hd, hk, q⟩ := h
  rw [Vals.ref1 r]
  obtain ⟨z, lo, xs, rel, dd⟩ := dk_rd I.hok hd
  obtain ⟨ep, hat⟩ := dd.dictAt
  have ek : (xs.map fun p => kV p.1) = ns.map V.int := by
    have e := congrArg (List.map kV) rel.keys
    rw [hk, List.map_map, List.map_map] at e
    rw [← show (xs.map (kV ∘ fun x => x.1)) = xs.map fun p => kV p.1 from rfl, ← e]
    rfl
  have lx : xs.length = kvs.length := rel.length.symm
  have hint : ∀ acc : Array Value, ItemsOf (fun i v => ∃ k x, xs[i]? = some (k, x) ∧ (mixKind X.prog X.w).is k v = true) acc xs.length → Vals (ns.map V.int) acc.toList := fun acc hacc => by
    rw [← ek]
    exact keys_at (by rw [Array.length_toList]; exact hacc.1) fun j v e => hacc.2 j v (by rw [← Array.getElem?_toList]; exact e)
  refine DkS.sortedK SrtO.swo_int (kdl_dict (knd := mixKind X.prog X.w) (kvs := xs) (ep := ep) lo) (I.ok.hd hc) hat (by rw [← rel.length]; exact z)
    (fun acc s' a' hacc h2 => SrtO.ints_sortable (hint acc hacc).ints h2) fun h' tk acc out p c hk' hp hacc h1 h2 hout => ?_
  obtain ⟨k1, k2, k3⟩ := SrtO.ints_out (hint acc hacc).ints h1 h2
  have hlen : ((out.map SrtO.iv).map V.int).length ≤ sizeLine := by
    have : ns.length = kvs.length := by have := congrArg List.length hk; simpa using this.symm
    rw [List.length_map, k2.length_eq, this]
    exact z
  exact ⟨.ref p, upd H p (.lst ((out.map SrtO.iv).map V.int)), I.laid (t' := tk) hk' hp ⟨hlen, out, c, vals_of_ints k1, hout⟩, rfl, q _ _ k2 k3 (I.hok.fresh hp)⟩
/-- the keys of ints -/
def kInts : List Key → Option (List Int)
  | [] => some []
  | .inl i :: ks => (kInts ks).map (i :: ·)
  | _ => none
@[simp] theorem kInts_map : ∀ ns : List Int, kInts (ns.map Sum.inl) = some ns
  | [] => rfl
  | n :: ns => by rw [List.map_cons]; show (kInts (ns.map Sum.inl)).map _ = _; rw [kInts_map ns]; rfl
theorem kInts_eq : ∀ {ks : List Key} {ns : List Int}, kInts ks = some ns → ks = ns.map Sum.inl
  | [], ns, h => by cases h; rfl
  | k :: ks, ns, h => by
    unfold kInts at h
    split at h
    · cases ‹_ :: _ = _›
    · rename_i i ks' e
      cases e
      cases q : kInts ks with
      | none => rw [q] at h; cases h
      | some m => rw [q] at h; cases h; rw [List.map_cons, ← kInts_eq q]
    · cases h
def dSortD (i : Nat) : En → R DO := fun ρ => (ownAt i ρ).bind fun o => match o with
  | .dK ks _ => match kInts ks with
    | some ns => .ok (.lst ((sortI ns).map .int))
    | none => .st
  | _ => .st
theorem un_sortD {o : Expr} {i : Nat} (hc : X.calm = true) (hg : Gl X "sorted") (hm : X.mg "sorted" = none) (hv : bootBuiltins "sorted" = some (.builtin "sorted")) (ho : PE X o (tVar i))
    (hs : starEach [o] X.env = (false, eval o X.env) :: starEach [] X.env := by rfl) (hpl : (backTo pos (starEach [] X.env)).any (·.1) = false := by rfl) :
    UN X cl W (.Call (.Name "sorted" p2) [o] [] pos) (tCB rSortedD (tCons (tVar i) tNil)) (dSortD i) := by
  refine ⟨pe_callB (cr_sortedD hc) hg hm hv (pa_cons ho pa_nil hs) (by decide) (by decide) hs hpl, fun F0 H0 F H σ ρ Q S p => ?_⟩
  unfold dSortD ownAt at p
  split at p
  · rename_i od hi
    rw [R.bind_ok] at p
    obtain ⟨q, hob, h1, h2, h3, h4, h5⟩ := S.own i _ hi
    split at p
    · rename_i ks xs
      obtain ⟨vs, e, hl, rv⟩ := h4
      subst e
      split at p
      · rename_i ns hn
        refine ⟨_, h1, q, ks.zip vs, ns, rfl, .inl h3, ?_, fun ns' a hp hs' ha => ?_⟩
        · rw [List.map_fst_zip (by omega)]; exact kInts_eq hn
        · rw [sortI_is hs' hp]
          exact p a (.lst _) F _ (Grow.lay' S.ex ha) ha (Grow.fnone S.ex ha) upd_same ⟨_, rfl, Rps.ints⟩
      · exact p.elim
    · exact p.elim
  · exact p.elim
end
@[simp] theorem dSortD_ap (i : Nat) (ρ : En) : dSortD i ρ = (ownAt i ρ).bind fun o => match o with
  | .dK ks _ => match kInts ks with
    | some ns => .ok (.lst ((sortI ns).map .int))
    | none => .st
  | _ => .st := id rfl
end UP
namespace UP
open PySem L2 PyProof.Rows
/-! ### a look at what is ours, for a fresh list told back -/
section
variable {α : Type} {X : Cx} {cl : Str → Option Addr} {W : WX} {K : PySem.W.Frag} {F0 H0 F H F' H' : Hp} {σ : L2.St} {ρ : En} {e : Expr} {te : TE} {me : En → R DO}
theorem noTup_upd {p : Addr} {ho : HO} {o : DO} (h : HR K cl F ho o) : NoTup F (upd F p ho) := fun a vs hn z => by
  by_cases ha : a = p
  · subst ha
    rw [upd_same] at z
    cases z
    cases o with
    | lst xs => obtain ⟨_, h, _⟩ := h; cases h
    | dK ks xs => obtain ⟨_, h, _⟩ := h; cases h
    | dT ks xs => obtain ⟨_, h, _⟩ := h; cases h
    | ins c ns xs => obtain ⟨_, _, _, _, h, _⟩ := h; cases h
  · rw [upd_ne ha, hn] at z; cases z
theorem Sr.frzT (S : Sr K cl F0 H0 F H σ ρ) (i : Nat) : ∃ F', Ex F F' ∧ NoTup F F' ∧ Sr K cl F0 H0 F' H σ (frzE i ρ) := by
  unfold frzE
  split
  · rename_i o hi
    split
    · rename_i d hd
      obtain ⟨p, ho, h1, h2, h3, h4, h5⟩ := S.own i o hi
      have r := rp_fz h4 h2 (dFz_ok hd)
      have ex := Ex.new (o := ho) h2
      refine ⟨upd F p ho, ex, noTup_upd h4, ?_⟩
      have hl := S.len
      have hi' : i < ρ.length := (List.getElem?_eq_some_iff.mp hi).1
      have S1 : Sr K cl F0 H0 (upd F p ho) H σ (ρ.set i .un) := by
        have S0 := S.unE (i := i)
        refine ⟨S.grow.freeze h5 h2 h3, S0.len, fun j d' e => ?_, fun j o' e => ?_, S0.dis, S.tr.to (fun j t e => ⟨(set_un e tr_ne).2, rfl⟩) (fun j o p e1 e2 => .inl ⟨o, (set_un e1 own_ne).2, e2⟩) ex fun a u hu hf _ hne => ⟨rfl, by rw [upd_ne (hne i o p hi h1)]; exact hf⟩⟩
        · obtain ⟨v, q1, q2⟩ := S0.val j d' e
          exact ⟨v, q1, q2.mono ex⟩
        · obtain ⟨q, ho', q1, q2, q3, q4, q5⟩ := S0.own j o' e
          have hji : j ≠ i := fun z => by
            rw [z, List.getElem?_set_self hi'] at e; cases e
          have hj : ρ[j]? = some (.own o') := by rwa [List.getElem?_set_ne (Ne.symm hji)] at e
          have hqp : q ≠ p := fun z => by
            rw [z] at q1
            exact hji (S.dis j i o' o p hj hi q1 h1)
          exact ⟨q, ho', q1, by rw [upd_ne hqp]; exact q2, q3, q4.mono ex, q5⟩
      have S2 := S1.set (i := i) r
      rw [List.set_set] at S2
      have : σ.set i (some (.ref p)) = σ := by
        refine List.ext_getElem? fun k => ?_
        by_cases hk : i = k
        · subst hk; rw [List.getElem?_set_self (by omega), h1]
        · rw [List.getElem?_set_ne hk]
      rw [this] at S2
      exact S2
    · exact ⟨F, Ex.refl _, NoTup.refl, S⟩
  · rename_i t hi
    split
    · rename_i hn
      obtain ⟨F', e, n, S'⟩ := S.frzTr hi
      exact ⟨F', e, n hn, S'⟩
    · exact ⟨F, Ex.refl _, NoTup.refl, S⟩
  · exact ⟨F, Ex.refl _, NoTup.refl, S⟩
theorem Sr.frzsT (S : Sr K cl F0 H0 F H σ ρ) : ∀ is : List Nat, ∃ F', Ex F F' ∧ NoTup F F' ∧ Sr K cl F0 H0 F' H σ (UP.frzs is ρ)
  | [] => ⟨F, Ex.refl _, NoTup.refl, S⟩
  | i :: is => by
    obtain ⟨F', e, n, S'⟩ := Sr.frzsT S is
    obtain ⟨F'', e', n', S''⟩ := S'.frzT i
    exact ⟨F'', e.trans e', n.trans n' e', S''⟩
/-- flat, or a tuple of flat ones -/
def flat2 : D → Bool
  | .tup xs => xs.all flatD
  | d => flatD d
def dPkN (is : List Nat) (me : En → R DO) : En → R DO := fun ρ => match me (UP.frzs is ρ) with
  | .ok (.lst xs) => if xs.all flat2 = true then .ok (.lst xs) else .st
  | _ => .st
theorem rps_flat_any {F F' : Hp} : ∀ {vs : List V} {ds : List D}, ds.all flatD = true → Rps K cl F vs ds → Rps K cl F' vs ds
  | vs, [], _, r => by rw [r.nil_inv]; exact Rps.nil
  | vs, d :: ds, h, r => by
    obtain ⟨v, r', rfl, h1, h2⟩ := r.cons_inv
    rw [List.all_cons, Bool.and_eq_true] at h
    exact Rps.cons (rp_flat_any h.1 h1) (rps_flat_any h.2 h2)
theorem rps_flat2 {F1 F2 : Hp} (hf : ∀ a vs, F2 a = some (.tup vs) → F1 a = some (.tup vs)) : ∀ {vs : List V} {ds : List D}, ds.all flat2 = true → Rps K cl F2 vs ds → Rps K cl F1 vs ds
  | vs, [], _, r => by rw [r.nil_inv]; exact Rps.nil
  | vs, d :: ds, h, r => by
    obtain ⟨v, r', rfl, h1, h2⟩ := r.cons_inv
    rw [List.all_cons, Bool.and_eq_true] at h
    refine Rps.cons ?_ (rps_flat2 hf h.2 h2)
    cases d with
    | tup xs =>
      unfold Rp at h1 ⊢
      obtain ⟨a, us, rfl, q1, q2⟩ := h1
      exact ⟨a, us, rfl, hf _ _ q1, rps_flat_any h.1 q2⟩
    | _ => exact rp_flat_any h.1 h1
theorem un_pk (is : List Nat) (he : UN X cl W e te me) : UN X cl W e te (dPkN is me) := by
  refine ⟨he.pe, fun F0 H0 F H σ ρ Q S p => ?_⟩
  obtain ⟨F', x, nt, S'⟩ := S.frzsT is
  refine he.es F0 H0 F' H σ _ Q S' ?_
  unfold dPkN at p
  split at p
  · rename_i xs hx
    rw [hx]
    split at p
    · rename_i hfl
      intro q ho F2 H2 g hn hq hh hr
      classical
      let F1 : Hp := fun a => if F a = none ∧ F' a ≠ none then none else F2 a
      have f1 : ∀ a, F a ≠ none → F1 a = F2 a := fun a h => if_neg (fun z => h z.1)
      have gr : Grow F H F1 H2 := by
        refine ⟨fun a o ha => ?_, fun a o ha => ?_, g.h, fun a o hao han => ?_⟩
        · rw [f1 a (by rw [ha]; exact fun z => nomatch z)]; exact g.f _ _ (x _ _ ha)
        · by_cases c : F a = none ∧ F' a ≠ none
          · have : F1 a = none := if_pos c
            rw [this] at ha; cases ha
          · have : F1 a = F2 a := if_neg c
            rw [this] at ha; exact g.s _ _ ha
        · by_cases c : F' a = none
          · have : F1 a = F2 a := if_neg (fun z => z.2 c)
            rw [this]; exact g.n a o hao c
          · exact if_pos ⟨han, c⟩
      refine p q ho F1 H2 gr hn ?_ hh ?_
      · by_cases c : F q = none ∧ F' q ≠ none
        · exact if_pos c
        · have : F1 q = F2 q := if_neg c
          rw [this]; exact hq
      · obtain ⟨vs, e1, e2⟩ := hr
        refine ⟨vs, e1, rps_flat2 (fun a us ha => ?_) hfl e2⟩
        by_cases c : F a = none ∧ F' a ≠ none
        · exfalso
          cases q' : F' a with
          | none => exact c.2 q'
          | some o =>
            have := g.f _ _ q'
            rw [ha] at this
            cases this
            exact nt a us c.1 q'
        · have : F1 a = F2 a := if_neg c
          rw [this]; exact ha
    · exact p.elim
  · exact p.elim
end
end UP
namespace UP
open PySem L2 PyProof.Rows
/-! ### trees of ours: expressions that make them -/
def PostQ (K : PySem.W.Frag) (cl : Str → Option Addr) (W : WX) (σ : L2.St) (F H : Hp) (Q : VK) : R DT → Prop
  | .ok t => ∀ v fp F' H', Grow F H F' H' → Tr K cl F' H' v t fp → fp.Nodup → (∀ a ∈ fp, H a = none ∧ F' a = none) → Q v H'
  | .er x => ∀ cls dd F' H', Grow F H F' H' → ExR K cl F' x cls dd → W cls dd σ H'
  | .st => False
structure UQ (X : Cx) (cl : Str → Option Addr) (W : WX) (e : Expr) (te : TE) (me : En → R DT) : Prop where
  pe : PE X e te
  es : ∀ F0 H0 F H σ ρ Q, Sr X.K cl F0 H0 F H σ ρ → PostQ X.K cl W σ F H Q (me ρ) → te σ H Q
section
variable {α : Type} {X : Cx} {cl : Str → Option Addr} {W : WX} {K : PySem.W.Frag} {F0 H0 F H F' H' : Hp} {σ : L2.St} {ρ : En} {mp : List (Nat × Addr)} {RP : RPt α} {Dn : Ends} {e o : Expr} {te : TE} {pos apos cpos pos' : Pos} {es : List Expr} {t : TA}
theorem PostQ.grow {Q : VK} {r : R DT} (h : PostQ K cl W σ F H Q r) (g : Grow F H F' H') : PostQ K cl W σ F' H' Q r := by
  cases r with
  | ok d => exact fun v fp F2 H2 g2 q n z => h v fp F2 H2 (g.trans g2) q n fun a ha => ⟨g.old a (z a ha).1, (z a ha).2⟩
  | er x => exact fun c d F2 H2 g2 q => h c d F2 H2 (g.trans g2) q
  | st => exact h
theorem tr_fz {v : V} {d : D} (r : Rp K cl F v d) : Tr K cl F H v (.fz d) [] := by unfold Tr; exact ⟨rfl, r⟩
theorem trs_fz {vs : List V} : ∀ {ds : List D}, Rps K cl F vs ds → Trs K cl F H vs (ds.map .fz) []
  | [], r => by unfold List.map Trs; exact ⟨r.nil_inv, rfl⟩
  | d :: ds, r => by
    obtain ⟨v, r', rfl, h1, h2⟩ := r.cons_inv
    rw [List.map_cons]; unfold Trs
    exact ⟨v, r', [], [], rfl, rfl, tr_fz h1, trs_fz h2⟩
/-- a frozen value -/
theorem UE.q {me : En → R D} (h : UE X cl W e te me) : UQ X cl W e te (d1 (fun d => .ok (.fz d)) me) := by
  refine ⟨h.pe, fun F0 H0 F H σ ρ Q S p => h.es F0 H0 F H σ ρ Q S ?_⟩
  unfold d1 at p
  cases e : me ρ with
  | st => rw [e] at p; exact p
  | er x => rw [e] at p; exact p
  | ok d =>
    rw [e, R.bind_ok] at p
    exact fun v F1 H1 g r => p v [] F1 H1 g (tr_fz r) List.nodup_nil fun a ha => by cases ha
/-- a fresh flat one -/
def dTn : DO → R DT
  | .lst xs => .ok (.lst (xs.map .fz))
  | .dK ks xs => .ok (.dk ks (xs.map .fz))
  | _ => .st
theorem UN.q {me : En → R DO} (h : UN X cl W e te me) : UQ X cl W e te (d1 dTn me) := by
  refine ⟨h.pe, fun F0 H0 F H σ ρ Q S p => h.es F0 H0 F H σ ρ Q S ?_⟩
  unfold d1 at p
  cases e : me ρ with
  | st => rw [e] at p; exact p
  | er x => rw [e] at p; exact p
  | ok o =>
    rw [e, R.bind_ok] at p
    intro q ho F1 H1 g h0 h1 h2 hr
    cases o with
    | lst xs =>
      obtain ⟨vs, rfl, h3⟩ := hr
      refine p (.ref q) [q] F1 H1 g ?_ (by simp) fun a ha => ?_
      · unfold Tr; exact ⟨q, vs, [], rfl, h2, rfl, trs_fz h3⟩
      · rw [List.mem_singleton.mp ha]; exact ⟨h0, h1⟩
    | dK ks xs =>
      obtain ⟨vs, rfl, hl, h3⟩ := hr
      refine p (.ref q) [q] F1 H1 g ?_ (by simp) fun a ha => ?_
      · unfold Tr; exact ⟨q, vs, [], rfl, h2, hl, rfl, trs_fz h3⟩
      · rw [List.mem_singleton.mp ha]; exact ⟨h0, h1⟩
    | _ => exact p.elim
/-- frozen -/
theorem UQ.fz {me : En → R DT} (h : UQ X cl W e te me) : UE X cl W e te (d1 (fun t => .ok (frzD t)) me) := by
  refine ⟨h.pe, fun F0 H0 F H σ ρ Q S p => h.es F0 H0 F H σ ρ Q S ?_⟩
  unfold d1 at p
  cases e : me ρ with
  | st => rw [e] at p; exact p
  | er x => rw [e] at p; exact p
  | ok t =>
    rw [e, R.bind_ok] at p
    intro v fp F1 H1 g hT hn hz
    let F2 : Hp := fun a => if a ∈ fp then H1 a else F1 a
    have in_ : ∀ {a}, a ∈ fp → F2 a = H1 a := fun h => if_pos h
    have out : ∀ {a}, a ∉ fp → F2 a = F1 a := fun h => if_neg h
    have ex : Ex F1 F2 := fun a o e => by
      have : a ∉ fp := fun z => by rw [(hz a z).2] at e; cases e
      rw [out this]; exact e
    have g2 : Grow F H F2 H1 := ⟨g.f.trans ex, fun a o e => by
      by_cases ha : a ∈ fp
      · rw [in_ ha] at e; exact e
      · rw [out ha] at e; exact g.s a o e, g.h, fun a o e z => by
      have : a ∉ fp := fun w => by rw [(hz a w).1] at e; cases e
      rw [out this]; exact g.n a o e z⟩
    exact p v F2 H1 g2 (hT.rp ex fun a ha => in_ ha)

/-! ### comprehensions of trees -/
theorem Trs.append : ∀ {vs us : List V} {ts rs : List DT} {fp fq : List Addr}, Trs K cl F H vs ts fp → Trs K cl F H us rs fq → Trs K cl F H (vs ++ us) (ts ++ rs) (fp ++ fq)
  | vs, us, [], rs, fp, fq, h, k => by unfold Trs at h; rw [h.1, h.2]; exact k
  | vs, us, t :: ts, rs, fp, fq, h, k => by
    unfold Trs at h
    obtain ⟨v, r, f1, f2, rfl, rfl, h1, h2⟩ := h
    rw [List.cons_append, List.cons_append, List.append_assoc]
    unfold Trs
    exact ⟨v, r ++ us, f1, f2 ++ fq, rfl, rfl, h1, Trs.append h2 k⟩
theorem Trs.one {v : V} {t : DT} {fp : List Addr} (h : Tr K cl F H v t fp) : Trs K cl F H [v] [t] fp := by
  unfold Trs; exact ⟨v, [], fp, [], rfl, by simp, h, by unfold Trs; exact ⟨rfl, rfl⟩⟩
theorem Trs.length : ∀ {vs : List V} {ts : List DT} {fp : List Addr}, Trs K cl F H vs ts fp → vs.length = ts.length
  | vs, [], fp, h => by unfold Trs at h; rw [h.1]; rfl
  | vs, t :: ts, fp, h => by
    unfold Trs at h
    obtain ⟨v, r, f1, f2, rfl, rfl, h1, h2⟩ := h
    rw [List.length_cons, List.length_cons, Trs.length h2]
def dLqGo (gm : D → En → R En) (tm : En → R Bool) (em : En → R DT) (ρw : En) : List D → R (List DT)
  | [] => .ok []
  | d :: ds => (gm d ρw).bind fun ρ1 => (tm ρ1).bind fun b => if b = true then (em ρ1).bind fun y => (dLqGo gm tm em ρw ds).bind fun r => .ok (y :: r) else dLqGo gm tm em ρw ds
def dLq (vs : List Nat) (mi : En → R (List D)) (gm : D → En → R En) (tm : En → R Bool) (em : En → R DT) : En → R DT := fun ρ =>
  (mi ρ).bind fun ds => if ds.length ≤ SZ then (noer (dLqGo gm tm em (wipeE ρ vs) ds)).bind fun r => .ok (.lst r) else .st
theorem es_lq {wi : TI} {g : TG} {tt : TT} {te : TE} {vs ws : List Nat} {mi : En → R (List D)} {gm : D → En → R En} {tm : En → R Bool} {em : En → R DT}
    (hi : ∀ F0 H0 F H σ ρ Q, Sr K cl F0 H0 F H σ ρ → PostI K cl W false σ F H Q (mi ρ) → wi σ H Q)
    (hg : ∀ F0 H0 F H σ ρ v d Q, Sr K cl F0 H0 F H σ ρ → Rp K cl F v d → PostG K cl F0 H0 F H σ ws Q (gm d ρ) → g v σ H Q)
    (ht : ∀ F0 H0 F H σ ρ Q, Sr K cl F0 H0 F H σ ρ → PostT K cl WF σ F H Q (tm ρ) → tt σ H Q)
    (he : ∀ F0 H0 F H σ ρ Q, Sr K cl F0 H0 F H σ ρ → PostQ K cl WF σ F H Q (em ρ) → te σ H Q) (hws : ∀ k ∈ ws, k ∈ vs) :
    ∀ F0 H0 F H σ ρ Q, Sr K cl F0 H0 F H σ ρ → PostQ K cl W σ F H Q (dLq vs mi gm tm em ρ) → tLc wi g tt te vs σ H Q := by
  intro F0 H0 F H σ ρ Q S p
  unfold dLq at p
  refine hi F0 H0 F H σ ρ _ S ?_
  cases e : mi ρ with
  | st => rw [e] at p; exact p
  | er x => rw [e] at p; exact p
  | ok ds =>
    rw [e, R.bind_ok] at p
    by_cases hz : ds.length ≤ SZ
    rotate_left
    · rw [if_neg hz] at p; exact p.elim
    rw [if_pos hz] at p
    cases e2 : dLqGo gm tm em (wipeE ρ vs) ds with
    | st => rw [e2] at p; exact p.elim
    | er x => rw [e2] at p; exact p.elim
    | ok fin =>
    rw [e2] at p
    have p : PostQ K cl W σ F H Q (.ok (.lst fin)) := p
    intro J F1 H1 g1 it A hA
    let I (i : Nat) (H2 : Hp) : Prop := ∃ F2 acc accV fp r, Grow F1 H1 F2 H2 ∧ F2 A = none ∧ H2 A = some (.lst accV) ∧ Trs K cl F2 H2 accV acc fp ∧ fp.Nodup ∧ (∀ a ∈ fp, H1 a = none ∧ F2 a = none ∧ a ≠ A) ∧ acc.length ≤ i ∧ dLqGo gm tm em (wipeE ρ vs) (ds.drop i) = .ok r ∧ acc ++ r = fin
    refine ⟨fun i m H2 => m = ds.length - i ∧ i ≤ ds.length ∧ I i H2,
      ⟨ds.length, by simp, Nat.zero_le _, F1, [], [], [], fin, Grow.lay' g1.s hA, Grow.fnone g1.s hA, upd_same, by unfold Trs; exact ⟨rfl, rfl⟩, List.nodup_nil, (fun a ha => by cases ha), Nat.le_refl _, by simpa using e2, rfl⟩, ?_⟩
    rintro i m H2 ⟨rfl, hi, F2, acc, accV, fp, r, g2, fA, hA2, ra, hnd, hfr, hacc, hgo, hfin⟩
    have IT := it F2 H2 i g2.f g2.s g2.h
    by_cases hlt : i < ds.length
    · have hd : ds[i]? = some ds[i] := List.getElem?_eq_getElem hlt
      obtain ⟨go, yl⟩ := IT.1 _ hd
      rw [List.drop_eq_getElem_cons hlt] at hgo
      refine .inr ⟨go, fun H' => I (i + 1) H',
        fun H' n => ⟨ds.length - (i + 1), by omega, rfl, hlt, n⟩, fun x H3 y => ?_⟩
      obtain ⟨F3, g3, r3⟩ := yl x H3 y
      have Sw : Sr K cl F0 H0 F3 H3 (L2.wipe σ vs) (wipeE ρ vs) := ((S.mono ((g1.trans g2).trans g3))).wipe vs
      unfold dLqGo at hgo
      refine hg F0 H0 F3 H3 _ _ x _ _ Sw r3 ?_
      cases eg : gm ds[i] (wipeE ρ vs) with
      | st => rw [eg] at hgo; cases hgo
      | er x => rw [eg] at hgo; cases hgo
      | ok ρ1 =>
        rw [eg, R.bind_ok] at hgo
        intro σ2 S2 hl2 hk2
        refine ⟨wipe_eq (by rw [hl2, wipe_length]) fun k hk => hk2 k fun q => hk (hws k q), ?_⟩
        refine ht F0 H0 F3 H3 σ2 ρ1 _ S2 ?_
        cases et : tm ρ1 with
        | st => rw [et] at hgo; cases hgo
        | er x => rw [et] at hgo; cases hgo
        | ok b =>
          rw [et, R.bind_ok] at hgo
          intro F4 H4 g4
          have g34 := g3.trans g4
          have hA4 : H4 A = some (.lst accV) := g34.h _ _ hA2
          have fA4 : F4 A = none := g34.n _ _ hA2 fA
          have ra4 : Trs K cl F4 H4 accV acc fp := ra.mono g34.f fun a ha => by
            obtain ⟨u, hu⟩ := ra.here a ha
            rw [hu]; exact g34.h a u hu
          have hfr4 : ∀ a ∈ fp, H1 a = none ∧ F4 a = none ∧ a ≠ A := fun a ha => by
            obtain ⟨u, hu⟩ := ra.here a ha
            exact ⟨(hfr a ha).1, g34.n a u hu (hfr a ha).2.1, (hfr a ha).2.2⟩
          cases b with
          | false => exact ⟨F4, acc, accV, fp, r, g2.trans g34, fA4, hA4, ra4, hnd, hfr4, by omega, hgo, hfin⟩
          | true =>
            have hgo : ((em ρ1).bind fun y => (dLqGo gm tm em (wipeE ρ vs) (ds.drop (i + 1))).bind fun r => .ok (y :: r)) = .ok r := hgo
            show te σ2 H4 _
            refine he F0 H0 F4 H4 σ2 ρ1 _ (S2.mono g4) ?_
            cases ee : em ρ1 with
            | st => rw [ee] at hgo; cases hgo
            | er x => rw [ee] at hgo; cases hgo
            | ok y =>
              rw [ee, R.bind_ok] at hgo
              intro v fq F5 H5 g5 r5 hn5 hz5
              have hA5 : H5 A = some (.lst accV) := g5.h _ _ hA4
              have fA5 : F5 A = none := g5.n _ _ hA4 fA4
              have nA5 : A ∉ fq := fun z => by rw [(hz5 A z).1] at hA4; cases hA4
              have ra5 : Trs K cl F5 H5 accV acc fp := ra4.mono g5.f fun a ha => by
                obtain ⟨u, hu⟩ := ra4.here a ha
                rw [hu]; exact g5.h a u hu
              cases e6 : dLqGo gm tm em (wipeE ρ vs) (ds.drop (i + 1)) with
              | st => rw [e6] at hgo; cases hgo
              | er x => rw [e6] at hgo; cases hgo
              | ok r' =>
                rw [e6] at hgo
                cases hgo
                have g6 := ((g2.trans g34)).trans g5
                refine ⟨accV, hA5, sz_lt (by rw [ra5.length]; omega), F5, acc ++ [y], accV ++ [v], fp ++ fq, r', ?_, fA5, upd_same, ?_, ?_, fun a ha => ?_, by rw [List.length_append]; simp; omega, e6, by rw [List.append_assoc]; exact hfin⟩
                · refine ⟨g6.f, fun a u q => ?_, fun a u q => ?_, g6.n⟩
                  · have : a ≠ A := fun z => by rw [z, fA5] at q; cases q
                    rw [upd_ne this]; exact g6.s a u q
                  · have : a ≠ A := fun z => by rw [z, hA] at q; cases q
                    rw [upd_ne this]; exact g6.h a u q
                · have := ra5.append (Trs.one r5)
                  refine this.mono (Ex.refl _) fun a ha => ?_
                  rcases List.mem_append.mp ha with z | z
                  · exact upd_ne (hfr4 a z).2.2
                  · exact upd_ne fun w => nA5 (w ▸ z)
                · refine List.nodup_append.mpr ⟨hnd, hn5, fun a ha b hb z => ?_⟩
                  subst z
                  obtain ⟨u, hu⟩ := ra4.here a ha
                  rw [(hz5 a hb).1] at hu; cases hu
                · rcases List.mem_append.mp ha with z | z
                  · obtain ⟨u, hu⟩ := ra4.here a z
                    exact ⟨(hfr4 a z).1, g5.n a u hu (hfr4 a z).2.1, (hfr4 a z).2.2⟩
                  · exact ⟨(g2.trans g34).old a (hz5 a z).1, (hz5 a z).2, fun w => nA5 (w ▸ z)⟩
    · have e : i = ds.length := by omega
      subst e
      refine .inl ⟨IT.2 (Nat.le_refl _), ?_⟩
      rw [List.drop_length] at hgo
      cases hgo
      rw [List.append_nil] at hfin
      subst hfin
      have g := g1.trans g2
      refine p (.ref A) (A :: fp) F2 H2 g ?_ ?_ fun a ha => ?_
      · unfold Tr; exact ⟨A, accV, fp, rfl, hA2, rfl, ra⟩
      · exact List.nodup_cons.mpr ⟨fun z => (hfr A z).2.2 rfl, hnd⟩
      · rcases List.mem_cons.mp ha with z | z
        · rw [z]; exact ⟨g1.old A hA, fA⟩
        · exact ⟨g1.old a (hfr a z).1, (hfr a z).2.1⟩
def tqStar (K : PySem.W.Frag) (cl : Str → Option Addr) (W : WX) (me : En → R DT) : TE := fun σ H Q => ∃ F0 H0 F ρ, Sr K cl F0 H0 F H σ ρ ∧ PostQ K cl W σ F H Q (me ρ)
theorem UQ.star {me : En → R DT} (h : UQ X cl W e te me) : UQ X cl W e (tqStar X.K cl W me) me :=
  ⟨⟨fun pins s σ H Q I ⟨F0, H0, F, ρ, S, p⟩ => h.pe.run pins s σ H Q I (h.es F0 H0 F H σ ρ Q S p)⟩, fun F0 H0 F H σ ρ Q S p => ⟨F0, H0, F, ρ, S, p⟩⟩
end
end UP
namespace UP
open PySem L2 PyProof.Rows
section
variable {α : Type} {X : Cx} {cl : Str → Option Addr} {W : WX} {K : PySem.W.Frag} {F0 H0 F H F' H' : Hp} {σ : L2.St} {ρ : En} {mp : List (Nat × Addr)} {RP : RPt α} {Dn : Ends} {e o k : Expr} {te tk : TE} {pos apos cpos pos' tpos : Pos} {es : List Expr} {t : TA}
variable {elt tg iter : Expr} {ifs : List Expr} {scope : Scope} {own : List (Str × Nat)} {wi : TI} {ws : List Nat} {mi : En → R (List D)} {gm : D → En → R En} {tm : En → R Bool} {em : En → R DT}
theorem uq_lc {vs : List Nat} (hc : X.calm = true) (hN : X.N.Nodup) (hi : UI X cl W false tg iter wi mi) (ok : BlkOk X.N X.env.scope scope own) (hws : ∀ k ∈ ws, k ∈ own.map (·.2))
    (hg : ∀ (s : Shared) (H : Hp) (C : Addr) (cs : List (Str × Addr)) (fp : List Addr), ∃ g, UG (X.blk s H scope (compEnvC scope cs C X.env) fp) cl tg g gm ws)
    (ht : ∀ (s : Shared) (H : Hp) (C : Addr) (cs : List (Str × Addr)) (fp : List Addr), ∃ tt, UTs (X.blk s H scope (compEnvC scope cs C X.env) fp) cl WF ifs tt tm)
    (he : ∀ (s : Shared) (H : Hp) (C : Addr) (cs : List (Str × Addr)) (fp : List Addr), ∃ te, UQ (X.blk s H scope (compEnvC scope cs C X.env) fp) cl WF elt te em) (hvs : own.map (·.2) = vs) (hs : ∀ x, foldedSetIterable iter X.env x = pure x := by intro _; rfl) :
    UQ X cl W (.ListComp elt [⟨tg, iter, ifs, 0⟩] scope pos) (tLc wi (gStar X.K cl ws gm) (ttStar X.K cl WF tm) (tqStar X.K cl WF em) (own.map (·.2))) (dLq vs mi gm tm em) := by
  subst hvs
  have hg' : ∀ (s : Shared) (H : Hp) (C : Addr) (cs : List (Str × Addr)) (fp : List Addr), UG (X.blk s H scope (compEnvC scope cs C X.env) fp) cl tg (gStar X.K cl ws gm) gm ws := fun s H C cs fp => (hg s H C cs fp).elim fun _ h => h.star
  have ht' : ∀ (s : Shared) (H : Hp) (C : Addr) (cs : List (Str × Addr)) (fp : List Addr), UTs (X.blk s H scope (compEnvC scope cs C X.env) fp) cl WF ifs (ttStar X.K cl WF tm) tm := fun s H C cs fp => (ht s H C cs fp).elim fun _ h => h.star
  have he' : ∀ (s : Shared) (H : Hp) (C : Addr) (cs : List (Str × Addr)) (fp : List Addr), UQ (X.blk s H scope (compEnvC scope cs C X.env) fp) cl WF elt (tqStar X.K cl WF em) em := fun s H C cs fp => (he s H C cs fp).elim fun _ h => h.star
  exact ⟨pe_lc hc hN hi.pe ok (fun s H C cs fp => (hg' s H C cs fp).pe) (fun s H C cs fp => (ht' s H C cs fp).pe) (fun s H C cs fp => (he' s H C cs fp).pe) hs,
    es_lq hi.es (hg' X.s_0 X.H_0 0 [] []).es (ht' X.s_0 X.H_0 0 [] []).es (he' X.s_0 X.H_0 0 [] []).es hws⟩
/-- x = a new tree -/
theorem postQ_of {me : R DT} {k : DT → Fl α} {Q : VK} (S : Sr K cl F0 H0 F H σ ρ) (P : Pin mp σ) (p : PostS K cl W mp RP F0 H0 F Dn (fOf me ρ k))
    (h : ∀ t v fp F1 H1, Grow F H F1 H1 → Tr K cl F1 H1 v t fp → fp.Nodup → (∀ a ∈ fp, H a = none ∧ F1 a = none) → PostS K cl W mp RP F0 H0 F1 Dn (k t) → Q v H1) : PostQ K cl W σ F H Q me := by
  cases me with
  | ok t => exact fun v fp F1 H1 g q n z => h t v fp F1 H1 g q n z (PostS.mono p g.f)
  | er x => exact fun c d F1 H1 g r => p c d σ F1 H1 g.f (S.mono g) P r
  | st => exact p
theorem Sr.setNewTr {i : Nat} {v : V} {t : DT} {fp : List Addr} (S : Sr K cl F0 H0 F H σ ρ) (g : Grow F H F' H') (hT : Tr K cl F' H' v t fp) (hn : fp.Nodup) (hz : ∀ a ∈ fp, H a = none ∧ F' a = none) :
    Sr K cl F0 H0 F' H' (σ.set i (some v)) (ρ.set i (.tr t)) := by
  refine (S.mono g).setTr hT hn (fun a ha => ⟨(hz a ha).2, S.grow.old a (hz a ha).1⟩) (fun j o p e1 e2 hp => ?_) fun j t' v' fq a e1 e2 h ha hp => ?_
  · exact S.own_new (hz p hp).1 j o e1 e2
  · exact S.new_tr g (hz a hp).1 j t' v' fq e1 e2 h ha
def fSetQ (i : Nat) (me : En → R DT) : En → Fl α := fun ρ => fOf (me ρ) ρ fun t => .nx (ρ.set i (.tr t))
theorem es_setQ {i : Nat} {me : En → R DT} (hp : i ∉ mp.map (·.1)) (he : ∀ F0 H0 F H σ ρ Q, Sr K cl F0 H0 F H σ ρ → PostQ K cl W σ F H Q (me ρ) → te σ H Q) :
    ∀ F0 H0 F H σ ρ Dn, Sr K cl F0 H0 F H σ ρ → Pin mp σ → PostS K cl W mp RP F0 H0 F Dn (fSetQ i me ρ) → tAsg te (gName i) Dn σ H := by
  intro F0 H0 F H σ ρ Dn S P p
  refine he F0 H0 F H σ ρ _ S (postQ_of S P p fun t v fp F1 H1 g h n z q => ?_)
  exact q _ F1 H1 (Ex.refl _) (S.setNewTr g h n z) (pin_set P hp)
theorem us_setQ {i : Nat} {x : Str} {me : En → R DT} (hN : X.N.Nodup) (hi : X.N[i]? = some x) (hx : Loc X.env.scope x) (he : UQ X cl W e te me) (hp : i ∉ mp.map (·.1)) (hs : swapsWith e (some (.Name x pos')) pos.line X.env = pure false := by rfl)
    (hf : X.fn x = true ∨ X.env.scope.names.lookup x = some .local := by first | exact .inl rfl | exact .inr rfl | assumption) : US X cl W mp RP (.Assign [.Name x pos'] e pos) (tAsg te (gName i)) (fSetQ i me) :=
  ⟨ps_set hN hi hx he.pe hs hf, es_setQ hp he.es⟩
theorem us_setLq {vs : List Nat} {i : Nat} {y : Str} {py spos : Pos}
    (hc : X.calm = true) (hN : X.N.Nodup) (hy : X.N[i]? = some y) (hyl : X.env.scope.names.lookup y = some .local) (hp : i ∉ mp.map (·.1))
    (hsw : swapsWith (.ListComp elt [⟨tg, iter, ifs, 0⟩] scope pos) (some (.Name y py)) spos.line X.env = pure true)
    (hi : UI X cl W false tg iter wi mi) (ok : BlkOk X.N X.env.scope scope own) (hws : ∀ k ∈ ws, k ∈ own.map (·.2))
    (hg : ∀ (s : Shared) (H : Hp) (C : Addr) (cs : List (Str × Addr)) (fp : List Addr), ∃ g, UG (X.blk s H scope (compEnvC scope cs C X.env) fp) cl tg g gm ws)
    (ht : ∀ (s : Shared) (H : Hp) (C : Addr) (cs : List (Str × Addr)) (fp : List Addr), ∃ tt, UTs (X.blk s H scope (compEnvC scope cs C X.env) fp) cl WF ifs tt tm)
    (he : ∀ (s : Shared) (H : Hp) (C : Addr) (cs : List (Str × Addr)) (fp : List Addr), ∃ te, UQ (X.blk s H scope (compEnvC scope cs C X.env) fp) cl WF elt te em) (hvs : own.map (·.2) = vs) (hs : ∀ x, foldedSetIterable iter X.env x = pure x := by intro _; rfl) :
    US X cl W mp RP (.Assign [.Name y py] (.ListComp elt [⟨tg, iter, ifs, 0⟩] scope pos) spos) (tAsg (tLc wi (gStar X.K cl ws gm) (ttStar X.K cl WF tm) (tqStar X.K cl WF em) (own.map (·.2))) (gName i)) (fSetQ i (dLq vs mi gm tm em)) := by
  subst hvs
  have hg' : ∀ (s : Shared) (H : Hp) (C : Addr) (cs : List (Str × Addr)) (fp : List Addr), UG (X.blk s H scope (compEnvC scope cs C X.env) fp) cl tg (gStar X.K cl ws gm) gm ws := fun s H C cs fp => (hg s H C cs fp).elim fun _ h => h.star
  have ht' : ∀ (s : Shared) (H : Hp) (C : Addr) (cs : List (Str × Addr)) (fp : List Addr), UTs (X.blk s H scope (compEnvC scope cs C X.env) fp) cl WF ifs (ttStar X.K cl WF tm) tm := fun s H C cs fp => (ht s H C cs fp).elim fun _ h => h.star
  have he' : ∀ (s : Shared) (H : Hp) (C : Addr) (cs : List (Str × Addr)) (fp : List Addr), UQ (X.blk s H scope (compEnvC scope cs C X.env) fp) cl WF elt (tqStar X.K cl WF em) em := fun s H C cs fp => (he s H C cs fp).elim fun _ h => h.star
  exact ⟨ps_setLc hc hN hy hyl hsw hi.pe ok (fun s H C cs fp => (hg' s H C cs fp).pe) (fun s H C cs fp => (ht' s H C cs fp).pe) (fun s H C cs fp => (he' s H C cs fp).pe) hs,
    es_setQ hp (uq_lc (pos := pos) hc hN hi ok hws hg ht he rfl hs).es⟩

/-! ### an item of a tree, changed where it stands -/
theorem Trs.at : ∀ {vs : List V} {ts : List DT} {fp : List Addr} {n : Nat} {t : DT}, Trs K cl F H vs ts fp → ts[n]? = some t → ∃ v f1 f2 f3, vs[n]? = some v ∧ fp = f1 ++ (f2 ++ f3) ∧ Tr K cl F H v t f2 ∧
      ∀ (H' : Hp) (v' : V) (t' : DT) (f2' : List Addr), (∀ a ∈ f1 ++ f3, H' a = H a) → Tr K cl F H' v' t' f2' → Trs K cl F H' (vs.set n v') (ts.set n t') (f1 ++ (f2' ++ f3))
  | vs, [], fp, n, t, h, e => by simp at e
  | vs, t0 :: ts, fp, 0, t, h, e => by
    have e : t0 = t := by simpa using e
    subst e
    unfold Trs at h
    obtain ⟨v, r, f1, f2, rfl, rfl, h1, h2⟩ := h
    refine ⟨v, [], f1, f2, rfl, rfl, h1, fun H' v' t' f2' hh hT => ?_⟩
    rw [List.set_cons_zero, List.set_cons_zero, List.nil_append]
    unfold Trs
    exact ⟨v', r, f2', f2, rfl, rfl, hT, h2.mono (Ex.refl _) fun a ha => hh a (by simpa using ha)⟩
  | vs, t0 :: ts, fp, n + 1, t, h, e => by
    unfold Trs at h
    obtain ⟨v, r, g1, g2, rfl, rfl, h1, h2⟩ := h
    obtain ⟨u, f1, f2, f3, k1, k2, k3, k4⟩ := Trs.at h2 (show ts[n]? = some t by simpa using e)
    refine ⟨u, g1 ++ f1, f2, f3, by simpa using k1, by rw [k2, List.append_assoc], k3, fun H' v' t' f2' hh hT => ?_⟩
    rw [List.set_cons_succ, List.set_cons_succ, List.append_assoc]
    unfold Trs
    refine ⟨v, r.set n v', g1, f1 ++ (f2' ++ f3), rfl, rfl, h1.mono (Ex.refl _) fun a ha => hh a (by simp [ha]), k4 H' v' t' f2' (fun a ha => hh a ?_) hT⟩
    rcases List.mem_append.mp ha with z | z
    · simp [z]
    · simp [z]
theorem Sr.itAt {i n : Nat} {ts : List DT} {t : DT} (S : Sr K cl F0 H0 F H σ ρ) (hi : ρ[i]? = some (.tr (.lst ts))) (ht : ts[n]? = some t) : ∃ p vs v f2, σ[i]? = some (some (.ref p)) ∧ H p = some (.lst vs) ∧ vs.length = ts.length ∧ vs[n]? = some v ∧ Tr K cl F H v t f2 ∧
    (∀ (H' : Hp) (t' : DT) (f2' : List Addr), (∀ a, a ∉ f2 → H' a = H a) → Tr K cl F H' v t' f2' → f2'.Nodup → (∀ a ∈ f2', a ∈ f2) → Sr K cl F0 H0 F H' σ (ρ.set i (.tr (.lst (ts.set n t'))))) ∧ f2.Nodup := by
  obtain ⟨ω, h1, h2, h3⟩ := S.tr
  obtain ⟨u, q1, q2, q3, q4⟩ := h1 i _ hi
  have q2' := q2
  unfold Tr at q2
  obtain ⟨p, vs, fq, rfl, w1, w2, w3⟩ := q2
  obtain ⟨v, f1, f2, f3, k1, k2, k3, k4⟩ := w3.at ht
  rw [w2] at q3
  rw [k2] at q3
  have nd := q3
  rw [List.nodup_cons] at q3
  obtain ⟨np, nq⟩ := q3
  have nq' := List.nodup_append.mp nq
  have nq2 := List.nodup_append.mp nq'.2.1
  refine ⟨p, vs, v, f2, q1, w1, w3.length, k1, k3, fun H' t' f2' hH hT hn hs => ?_, nq2.1⟩
  refine S.trW hi q1 q2' (fun a ha => hH a fun z => ha (by rw [w2, k2]; simp [z])) (t' := .lst (ts.set n t')) (fp' := p :: (f1 ++ (f2' ++ f3))) ?_ ?_ fun a ha => .inl ?_
  · unfold Tr
    have pn : p ∉ f2 := fun z => np (by simp [z])
    have hv : vs.set n v = vs := by
      refine List.ext_getElem? fun j => ?_
      by_cases hj : n = j
      · subst hj; rw [List.getElem?_set_self (List.getElem?_eq_some_iff.mp k1).1, k1]
      · rw [List.getElem?_set_ne hj]
    have k5 := k4 H' v t' f2' (fun a ha => hH a fun z => ?_) hT
    · rw [hv] at k5
      exact ⟨p, vs, _, rfl, by rw [hH p pn]; exact w1, rfl, k5⟩
    · rcases List.mem_append.mp ha with y | y
      · exact nq'.2.2 a y a (by simp [z]) rfl
      · exact nq2.2.2 a z a y rfl
  · refine List.nodup_cons.mpr ⟨fun z => ?_, List.nodup_append.mpr ⟨nq'.1, List.nodup_append.mpr ⟨hn, nq2.2.1, fun a ha b hb z => nq2.2.2 a (hs a ha) b hb z⟩, fun a ha b hb z => ?_⟩⟩
    · rcases List.mem_append.mp z with y | y
      · exact np (by simp [y])
      · rcases List.mem_append.mp y with y | y
        · exact np (by simp [hs p y])
        · exact np (by simp [y])
    · rcases List.mem_append.mp hb with y | y
      · exact nq'.2.2 a ha b (by simp [hs b y]) z
      · exact nq'.2.2 a ha b (by simp [y]) z
  · rw [w2, k2]
    rcases List.mem_cons.mp ha with y | y
    · simp [y]
    · rcases List.mem_append.mp y with y | y
      · simp [y]
      · rcases List.mem_append.mp y with y | y
        · simp [hs a y]
        · simp [y]
/-- what stands at an item is changed by f -/
def itMod (i : Nat) (f : DT → Option (D × DT)) (ρ : En) : D → R (D × En)
  | .int j => match ρ[i]? with
    | some (.tr (.lst ts)) => match ixN ts.length j with
      | some n => match ts[n]? with
        | some t => match f t with
          | some (d, t') => .ok (d, ρ.set i (.tr (.lst (ts.set n t'))))
          | none => .st
        | none => .st
      | none => .st
    | _ => .st
  | _ => .st
theorem itMod_ok {i : Nat} {f : DT → Option (D × DT)} {dk d : D} {ρ' : En} (h : itMod i f ρ dk = .ok (d, ρ')) : ∃ j ts n t t', dk = .int j ∧ ρ[i]? = some (.tr (.lst ts)) ∧ ixN ts.length j = some n ∧ ts[n]? = some t ∧ f t = some (d, t') ∧ ρ' = ρ.set i (.tr (.lst (ts.set n t'))) := by
  unfold itMod at h
  split at h
  rotate_left
  · cases h
  rename_i j
  split at h
  rotate_left
  · cases h
  rename_i ts hi
  split at h
  rotate_left
  · cases h
  rename_i n hn
  split at h
  rotate_left
  · cases h
  rename_i t ht
  split at h
  rotate_left
  · cases h
  rename_i d0 t' hf
  cases h
  exact ⟨j, ts, n, t, t', rfl, hi, hn, ht, hf, rfl⟩
theorem trs_fz_inv {vs : List V} : ∀ {ds : List D} {fp : List Addr}, Trs K cl F H vs (ds.map .fz) fp → fp = [] ∧ Rps K cl F vs ds := by
  intro ds
  induction ds generalizing vs with
  | nil => intro fp h; unfold List.map Trs at h; exact ⟨h.2, by rw [h.1]; exact Rps.nil⟩
  | cons d ds ih =>
    intro fp h
    rw [List.map_cons] at h; unfold Trs at h
    obtain ⟨v, r, f1, f2, rfl, rfl, h1, h2⟩ := h
    unfold Tr at h1
    obtain ⟨rfl, h1⟩ := h1
    obtain ⟨e, k2⟩ := ih h2
    subst e
    exact ⟨rfl, Rps.cons h1 k2⟩
/-- the frozen items of a list of trees -/
def fzs : List DT → Option (List D)
  | [] => some []
  | .fz d :: ts => (fzs ts).map (d :: ·)
  | _ => none
theorem fzs_eq : ∀ {ts : List DT} {ds : List D}, fzs ts = some ds → ts = ds.map .fz
  | [], ds, h => by cases h; rfl
  | .fz d :: ts, ds, h => by
    unfold fzs at h
    cases e : fzs ts with
    | none => rw [e] at h; cases h
    | some r => rw [e] at h; cases h; rw [fzs_eq e]; rfl
  | .lst _ :: ts, ds, h => by unfold fzs at h; cases h
  | .tup _ :: ts, ds, h => by unfold fzs at h; cases h
@[simp] theorem fzs_map : ∀ ds : List D, fzs (ds.map .fz) = some ds
  | [] => rfl
  | d :: ds => by rw [List.map_cons]; unfold fzs; rw [fzs_map ds]; rfl
/-- x[k].append(e) -/
def tAppD (d : D) : DT → Option (D × DT)
  | .lst us => if us.length < SZ then some (.non, .lst (us ++ [.fz d])) else none
  | _ => none
def dItApp (i : Nat) (mk me : En → R D) : En → R (D × En) := fun ρ => (noer (mk ρ)).bind fun k => (noer (me ρ)).bind fun d => itMod i (tAppD d) ρ k
theorem ixN_lt {n j : Nat} {i : Int} (h : ixN n i = some j) : j < n := (ixN_seq h).2.1
theorem tyV_l {p : Addr} {vs : List V} (h : H p = some (.lst vs)) : tyV K "list" (.ref p) H := Or.inl ⟨rfl, _, Or.inl (Or.inl h)⟩
theorem ux_itApp {i : Nat} {mk me : En → R D} (ho : PE X o (tVar i)) (hk : UE X cl WF k tk mk) (he : UE X cl WF e te me)
    (hp : PE X (.Call (.Attribute (.Subscript o k tpos) "append" apos) [e] [] cpos) (tBM X.K "list" rAppend (tOp (rIxL X.K) (tVar i) tk) (tCons te tNil))) :
    UX X cl (.Call (.Attribute (.Subscript o k tpos) "append" apos) [e] [] cpos) (tBM X.K "list" rAppend (tOp (rIxL X.K) (tVar i) tk) (tCons te tNil)) (dItApp i mk me) := by
  refine ⟨hp, fun F0 H0 F H σ ρ Q S p => ?_⟩
  unfold dItApp at p
  cases e1 : mk ρ with
  | st => rw [e1] at p; exact p.elim
  | er x => rw [e1] at p; exact p.elim
  | ok dk =>
  cases e2 : me ρ with
  | st => rw [e1, e2] at p; exact p.elim
  | er x => rw [e1, e2] at p; exact p.elim
  | ok d =>
  rw [e1, e2] at p
  have p : PostX X.K cl F0 H0 F σ Q (itMod i (tAppD d) ρ dk) := p
  cases e3 : itMod i (tAppD d) ρ dk with
  | st => rw [e3] at p; exact p.elim
  | er x => rw [e3] at p; exact p.elim
  | ok q =>
  obtain ⟨d0, ρ'⟩ := q
  rw [e3] at p
  obtain ⟨j, ts, n, t, t', rfl, hi, hn, ht, hf, rfl⟩ := itMod_ok e3
  obtain ⟨pp, vs, v, f2, w1, w2, w3, w4, w5, w6, w7⟩ := S.itAt hi ht
  refine ⟨_, w1, hk.es F0 H0 F H σ ρ _ S ?_⟩
  rw [e1]
  intro y F1 H1 g1 r1
  obtain ⟨p1, vs1, v1, f21, x1, x2, x3, x4, x5, x6, x7⟩ := (S.mono g1).itAt hi ht
  rw [w1] at x1; cases x1
  have ha : atI vs1 j = some v1 := by unfold atI; rw [x3, hn]; exact x4
  cases t with
  | fz _ => cases hf
  | tup _ => cases hf
  | dk _ _ => cases hf
  | ob _ _ _ => cases hf
  | lst us =>
  unfold Tr at x5
  obtain ⟨q, zs, fq, rfl, y1, rfl, y2⟩ := x5
  refine ⟨pp, vs1, j, .ref q, rfl, r1.int_inv, SqL.of x2, ha, tyV_l y1, he.es F0 H0 F1 H1 σ ρ _ (S.mono g1) ?_⟩
  rw [e2]
  intro y F2 H2 g2 r2
  obtain ⟨p2, vs2, v2, f22, z1, z2, z3, z4, z5, z6, z7⟩ := ((S.mono g1).mono g2).itAt hi ht
  rw [w1] at z1; cases z1
  have e5 : vs2 = vs1 := by have := g2.h _ _ x2; rw [z2] at this; cases this; rfl
  subst e5
  rw [x4] at z4; cases z4
  unfold Tr at z5
  obtain ⟨q', zs', fq', e6, y1', rfl, y2'⟩ := z5
  cases e6
  have hf : (if us.length < SZ then some (D.non, DT.lst (us ++ [.fz d])) else none) = some (d0, t') := hf
  split at hf
  · rename_i e7
    cases hf
    refine ⟨q, zs', y, rfl, rfl, y1', by rw [y2'.length]; exact sz_lt e7, ?_⟩
    refine p .non F2 _ (g1.f.trans g2.f) (z6 _ _ (q :: fq') (fun a ha => upd_ne fun z => ha (by simp [z])) ?_ z7 fun a ha => ha) rp_non
    unfold Tr
    rw [List.nodup_cons] at z7
    refine ⟨q, zs' ++ [y], fq', rfl, upd_same, rfl, ?_⟩
    have y3 := y2'.append (Trs.one (tr_fz (H := H2) r2))
    rw [List.append_nil] at y3
    exact y3.mono (Ex.refl _) fun a ha => upd_ne fun z => z7.1 (z ▸ ha)
  · cases hf
/-- x[k].clear() -/
def tClr : DT → Option (D × DT)
  | .lst _ => some (.non, .lst [])
  | _ => none
def dItClr (i : Nat) (mk : En → R D) : En → R (D × En) := fun ρ => (noer (mk ρ)).bind fun k => itMod i tClr ρ k
theorem ux_itClr {i : Nat} {mk : En → R D} (ho : PE X o (tVar i)) (hk : UE X cl WF k tk mk)
    (hp : PE X (.Call (.Attribute (.Subscript o k tpos) "clear" apos) [] [] cpos) (tBM0 X.K "list" rClear (tOp (rIxL X.K) (tVar i) tk))) :
    UX X cl (.Call (.Attribute (.Subscript o k tpos) "clear" apos) [] [] cpos) (tBM0 X.K "list" rClear (tOp (rIxL X.K) (tVar i) tk)) (dItClr i mk) := by
  refine ⟨hp, fun F0 H0 F H σ ρ Q S p => ?_⟩
  unfold dItClr at p
  cases e1 : mk ρ with
  | st => rw [e1] at p; exact p.elim
  | er x => rw [e1] at p; exact p.elim
  | ok dk =>
  rw [e1] at p
  have p : PostX X.K cl F0 H0 F σ Q (itMod i tClr ρ dk) := p
  cases e3 : itMod i tClr ρ dk with
  | st => rw [e3] at p; exact p.elim
  | er x => rw [e3] at p; exact p.elim
  | ok q =>
  obtain ⟨d0, ρ'⟩ := q
  rw [e3] at p
  obtain ⟨j, ts, n, t, t', rfl, hi, hn, ht, hf, rfl⟩ := itMod_ok e3
  obtain ⟨pp, vs, v, f2, w1, w2, w3, w4, w5, w6, w7⟩ := S.itAt hi ht
  refine ⟨_, w1, hk.es F0 H0 F H σ ρ _ S ?_⟩
  rw [e1]
  intro y F1 H1 g1 r1
  obtain ⟨p1, vs1, v1, f21, x1, x2, x3, x4, x5, x6, x7⟩ := (S.mono g1).itAt hi ht
  rw [w1] at x1; cases x1
  have ha : atI vs1 j = some v1 := by unfold atI; rw [x3, hn]; exact x4
  cases t with
  | fz _ => cases hf
  | tup _ => cases hf
  | dk _ _ => cases hf
  | ob _ _ _ => cases hf
  | lst us =>
  cases hf
  unfold Tr at x5
  obtain ⟨q, zs, fq, rfl, y1, rfl, y2⟩ := x5
  refine ⟨pp, vs1, j, .ref q, rfl, r1.int_inv, SqL.of x2, ha, tyV_l y1, q, zs, rfl, rfl, y1, ?_⟩
  refine p .non F1 _ g1.f (x6 _ _ [q] (fun a ha => upd_ne fun z => ha (by simp [z])) ?_ (by simp) fun a ha => by rw [List.mem_singleton.mp ha]; simp) rp_non
  unfold Tr
  exact ⟨q, [], [], rfl, upd_same, rfl, by unfold Trs; exact ⟨rfl, rfl⟩⟩
/-- x[k] = a new tree; x.append(a new tree) -/
def fItSet (i : Nat) (mk : En → R D) (me : En → R DT) : En → Fl α := fun ρ => fOf (me ρ) ρ fun t => fOf (noer (mk ρ)) ρ fun k => match k with
  | .int j => match ρ[i]? with
    | some (.tr (.lst ts)) => match ixN ts.length j with
      | some n => .nx (ρ.set i (.tr (.lst (ts.set n t))))
      | none => .st
    | _ => .st
  | _ => .st
theorem us_itSet {i : Nat} {mk : En → R D} {me : En → R DT} (ho : PE X o (tVar i)) (hk : UE X cl W k tk mk) (he : UQ X cl W e te me)
    (hp : PS X (.Assign [.Subscript o k tpos] e pos) (tAsg te (gSub (tVar i) tk rSetL))) : US X cl W mp RP (.Assign [.Subscript o k tpos] e pos) (tAsg te (gSub (tVar i) tk rSetL)) (fItSet i mk me) := by
  refine ⟨hp, fun F0 H0 F H σ ρ Dn S P p => he.es F0 H0 F H σ ρ _ S (postQ_of S P p fun t v fp F1 H1 g hT hnd hfr p => ?_)⟩
  cases e1 : mk ρ with
  | st => rw [e1] at p; exact p.elim
  | er x => rw [e1] at p; exact p.elim
  | ok dk =>
  rw [e1] at p
  cases dk with
  | int j =>
    have p : PostS X.K cl W mp RP F0 H0 F1 Dn (match ρ[i]? with
      | some (.tr (.lst ts)) => match ixN ts.length j with
        | some n => .nx (ρ.set i (.tr (.lst (ts.set n t))))
        | none => .st
      | _ => .st) := p
    split at p
    rotate_left
    · exact p.elim
    rename_i ts hi
    split at p
    rotate_left
    · exact p.elim
    rename_i n hn
    have S1 := S.mono g
    have hnt := ixN_lt hn
    obtain ⟨pp, vs, v0, f2, w1, w2, w3, w4, w5, w6, w7⟩ := S1.itAt hi (List.getElem?_eq_getElem hnt)
    refine ⟨_, w1, hk.es F0 H0 F1 H1 σ ρ _ S1 ?_⟩
    rw [e1]
    intro vk F2 H2 g2 rk
    have S2 := S1.mono g2
    refine ⟨pp, vs, j, n, rfl, rk.int_inv, g2.h _ _ w2, by rw [w3]; exact hn, ?_⟩
    obtain ⟨ω, h1, h2, h3⟩ := S2.tr
    obtain ⟨u, q1, q2, q3, q4⟩ := h1 i _ hi
    rw [w1] at q1; cases q1
    have q2' := q2
    unfold Tr at q2
    obtain ⟨p', vs', fq, e5, y1, y2, y3⟩ := q2
    cases e5
    have e6 : vs' = vs := by have := g2.h _ _ w2; rw [y1] at this; cases this; rfl
    subst e6
    obtain ⟨v1, f1, f21, f3, k1, k2, k3, k4⟩ := y3.at (List.getElem?_eq_getElem hnt)
    rw [y2, k2] at q3
    have q3' := List.nodup_cons.mp q3
    have nq' := List.nodup_append.mp q3'.2
    have nq2 := List.nodup_append.mp nq'.2.1
    have hT2 : Tr X.K cl F2 H2 v t fp := hT.mono g2.f fun a ha => by
      obtain ⟨u, hu⟩ := hT.here a ha
      rw [hu]; exact g2.h a u hu
    have notin : ∀ a ∈ fp, a ∉ ω i := fun a ha z => S.new_tr (g.trans g2) (hfr a ha).1 i _ _ _ hi w1 q2' z
    have hp0 : pp ∉ fp := fun z => notin pp z (by rw [y2]; simp)
    refine p σ F2 _ g2.f (S2.trW (t' := .lst (ts.set n t)) (fp' := pp :: (f1 ++ (fp ++ f3))) hi w1 q2' (H' := upd H2 pp (.lst (vs'.set n v))) (fun a ha => upd_ne fun z => ha (by rw [z, y2]; simp)) ?_ ?_ fun a ha => ?_) P
    · unfold Tr
      refine ⟨pp, vs'.set n v, _, rfl, upd_same, rfl, k4 _ v t fp (fun a ha => upd_ne fun z => ?_) (hT2.mono (Ex.refl _) fun a ha => upd_ne fun z => hp0 (z ▸ ha))⟩
      subst z
      refine q3'.1 ?_
      rcases List.mem_append.mp ha with z | z
      · simp [z]
      · simp [z]
    · have in_ : ∀ a, a ∈ f1 ∨ a ∈ f3 → a ∈ ω i := fun a h => by
        rw [y2, k2]
        rcases h with z | z
        · simp [z]
        · simp [z]
      refine List.nodup_cons.mpr ⟨fun z => ?_, List.nodup_append.mpr ⟨nq'.1, List.nodup_append.mpr ⟨hnd, nq2.2.1, fun a ha b hb z => notin a ha (in_ a (.inr (z ▸ hb)))⟩, fun a ha b hb z => ?_⟩⟩
      · rcases List.mem_append.mp z with y | y
        · exact q3'.1 (by simp [y])
        · rcases List.mem_append.mp y with y | y
          · exact hp0 y
          · exact q3'.1 (by simp [y])
      · rcases List.mem_append.mp hb with y | y
        · exact notin b y (in_ b (.inl (z ▸ ha)))
        · exact nq'.2.2 a ha b (by simp [y]) z
    · rcases List.mem_cons.mp ha with y | y
      · exact .inl (by rw [y, y2]; simp)
      · rcases List.mem_append.mp y with y | y
        · exact .inl (by rw [y2, k2]; simp [y])
        · rcases List.mem_append.mp y with y | y
          · refine .inr ⟨g2.n a _ (hT.here a y).choose_spec (hfr a y).2, S.grow.old a (hfr a y).1, fun j' o p e1 e2 z => S.own_new (hfr a y).1 j' o e1 (z ▸ e2), fun j' t' v' fq' e1 e2 h hm => S.new_tr (g.trans g2) (hfr a y).1 j' t' v' fq' e1 e2 h hm⟩
          · exact .inl (by rw [y2, k2]; simp [y])
  | _ => exact p.elim
def fItPush (i : Nat) (me : En → R DT) : En → Fl α := fun ρ => fOf (noer (me ρ)) ρ fun t => match ρ[i]? with
  | some (.tr (.lst ts)) => if ts.length < SZ then .nx (ρ.set i (.tr (.lst (ts ++ [t])))) else .st
  | _ => .st
theorem us_itPush {i : Nat} {me : En → R DT} (ho : PE X o (tVar i)) (he : UQ X cl WF e te me)
    (hp : PE X (.Call (.Attribute o "append" apos) [e] [] cpos) (tBM X.K "list" rAppend (tVar i) (tCons te tNil)))
    (hs : swapsWith (.Call (.Attribute o "append" apos) [e] [] cpos) none pos.line X.env = pure false := by rfl) :
    US X cl W mp RP (.Expr (.Call (.Attribute o "append" apos) [e] [] cpos) pos) (tDrop (tBM X.K "list" rAppend (tVar i) (tCons te tNil))) (fItPush i me) := by
  refine ⟨ps_expr hp hs, fun F0 H0 F H σ ρ Dn S P p => ?_⟩
  unfold fItPush at p
  cases e1 : me ρ with
  | st => rw [e1] at p; exact p.elim
  | er x => rw [e1] at p; exact p.elim
  | ok t =>
  rw [e1] at p
  have p : PostS X.K cl W mp RP F0 H0 F Dn (match ρ[i]? with
    | some (.tr (.lst ts)) => if ts.length < SZ then .nx (ρ.set i (.tr (.lst (ts ++ [t])))) else .st
    | _ => .st) := p
  split at p
  rotate_left
  · exact p.elim
  rename_i ts hi
  split at p
  rotate_left
  · exact p.elim
  rename_i hz
  obtain ⟨ω, h1, h2, h3⟩ := S.tr
  obtain ⟨u, q1, q2, q3, q4⟩ := h1 i _ hi
  unfold Tr at q2
  obtain ⟨pp, vs, fq, rfl, y1, y2, y3⟩ := q2
  refine ⟨_, q1, tyV_l y1, he.es F0 H0 F H σ ρ _ S ?_⟩
  rw [e1]
  intro v fp F1 H1 g hT hnd hfr
  have S1 := S.mono g
  have hH1 := g.h _ _ y1
  have y3' : Trs X.K cl F1 H1 vs ts fq := y3.mono g.f fun a ha => by
    obtain ⟨u, hu⟩ := y3.here a ha
    rw [hu]; exact g.h a u hu
  have hT1 : Tr X.K cl F1 H1 (.ref pp) (.lst ts) (ω i) := by unfold Tr; exact ⟨pp, vs, fq, rfl, hH1, y2, y3'⟩
  have notin : ∀ a ∈ fp, a ∉ ω i := fun a ha z => S.new_tr g (hfr a ha).1 i _ _ _ hi q1 hT1 z
  rw [y2] at q3 notin
  have q3' := List.nodup_cons.mp q3
  have hp0 : pp ∉ fp := fun z => notin pp z (by simp)
  refine ⟨pp, vs, v, rfl, rfl, hH1, by rw [y3.length]; exact sz_lt hz, ?_⟩
  refine p σ F1 _ g.f (S1.trW (t' := .lst (ts ++ [t])) (fp' := pp :: (fq ++ fp)) hi q1 hT1 (H' := upd H1 pp (.lst (vs ++ [v]))) (fun a ha => upd_ne fun z => ha (by rw [z, y2]; simp)) ?_ ?_ fun a ha => ?_) P
  · unfold Tr
    refine ⟨pp, vs ++ [v], _, rfl, upd_same, rfl, (y3'.append (Trs.one hT)).mono (Ex.refl _) fun a ha => upd_ne fun z => ?_⟩
    subst z
    rcases List.mem_append.mp ha with z | z
    · exact q3'.1 z
    · exact hp0 z
  · refine List.nodup_cons.mpr ⟨fun z => ?_, List.nodup_append.mpr ⟨q3'.2, hnd, fun a ha b hb z => notin b hb (by simp [← z, ha])⟩⟩
    rcases List.mem_append.mp z with y | y
    · exact q3'.1 y
    · exact hp0 y
  · rcases List.mem_cons.mp ha with y | y
    · exact .inl (by rw [y, y2]; simp)
    · rcases List.mem_append.mp y with y | y
      · exact .inl (by rw [y2]; simp [y])
      · exact .inr ⟨(hfr a y).2, S.grow.old a (hfr a y).1, fun j' o p e1 e2 z => S.own_new (hfr a y).1 j' o e1 (z ▸ e2), fun j' t' v' fq' e1 e2 h hm => S.new_tr g (hfr a y).1 j' t' v' fq' e1 e2 h hm⟩
end
end UP
namespace UP
open PySem L2 PyProof.Rows
/-! ### defs that tell a new tree -/
def RPQ (K : PySem.W.Frag) (cl : Str → Option Addr) (mp : List (Nat × Addr)) : RPt DT := fun F0 H0 rt t ρ => ∀ v fp σ F H, Sr K cl F0 H0 F H σ ρ → Pin mp σ → Tr K cl F H v t fp → fp.Nodup → (∀ a ∈ fp, F a = none ∧ H0 a = none) → rt v H
def runQ (n : Nat) (mb : En → Fl DT) (ds : List D) : R DT := match mb (startE n ds) with
  | .rt d _ => .ok d
  | .er x _ => .er x
  | _ => .st
def flQ : Fl DT → R DT
  | .rt d _ => .ok d
  | .er x _ => .er x
  | _ => .st
theorem runQ_ap (n : Nat) (mb : En → Fl DT) (ds : List D) : runQ n mb ds = flQ (mb (startE n ds)) := by
  unfold runQ flQ; cases mb (startE n ds) <;> rfl
def PostCQ (K : PySem.W.Frag) (cl : Str → Option Addr) (F H : Hp) (Q : VK) (E : XK) : R DT → Prop
  | .ok t => ∀ v fp F' H', Grow F H F' H' → Tr K cl F' H' v t fp → fp.Nodup → (∀ a ∈ fp, H a = none ∧ F' a = none) → Q v H'
  | .er x => ∀ cls dd F' H', Grow F H F' H' → ExR K cl F' x cls dd → E cls dd H'
  | .st => False
def spQ (K : PySem.W.Frag) (cl : Str → Option Addr) (n : Nat) (m : List D → R DT) : Sp := fun vs H Q E => ∃ ds F, Ex F H ∧ Rps K cl F vs ds ∧ vs.length = n ∧ PostCQ K cl F H Q E (m ds)
section
variable {P : Program} {w : World} {K : PySem.W.Frag} {mg : Str → Option Value} {base : Heap} {cl : Str → Option Addr}
theorem def_Q {x qual : Str} {st : Stmt} {f : Addr} {fd : FuncData} {N ps : List Str} {k : Nat} {mb : En → Fl DT} (F : Fun K x qual st f fd) (S : FnScope N ps (defScope st)) (hn : ps.length ≤ N.length)
    (hb : ∀ (cdv : Value) (A : Around) (outer : List Env) (s : Shared) (H : Hp) (E : XK), Room k (A.deeper (envOfC qual (defScope st) s.heap.objs.size f cdv)) →
      ∃ t, USs (cxOf (L2N.CX P w) P w K mg base N qual (defScope st) f cdv A outer s H E) cl (WD E) [] (RPQ K cl []) (defBody st) t mb) : FnOk P w K mg base (L2N.CX P w) (k + 1) f fd ps (spQ K cl ps.length (runQ N.length mb)) := by
  refine okXN F S (fun vs H Q E ⟨ds, F, _, _, h, _⟩ => h) (fun cdv A outer s H vs Q E hr h => ?_)
  obtain ⟨ds, Fh, ex, r, hl, p⟩ := h
  obtain ⟨t, U⟩ := hb cdv A outer s H E hr
  refine ⟨t, U.pe, U.es Fh H Fh H _ _ _ (sr_start ex r (by omega)) (fun q hq => by cases hq) ?_⟩
  unfold runQ at p
  cases e : mb (startE N.length ds) with
  | nx ρ => rw [e] at p; exact p.elim
  | rt d ρ => rw [e] at p; exact fun v fp σ F' H' S' _ h1 h2 h3 => p v fp F' H' S'.grow h1 h2 fun a ha => ⟨(h3 a ha).2, (h3 a ha).1⟩
  | bk ρ => rw [e] at p; exact p.elim
  | ct ρ => rw [e] at p; exact p.elim
  | er x ρ => rw [e] at p; exact fun c d σ F' H' _ S' _ r' => p c d F' H' S'.grow r'
  | st => rw [e] at p; exact p.elim
theorem fnok_noQ {k n : Nat} {f : Addr} {fd : FuncData} {ps : List Str} : FnOk P w K mg base (L2N.CX P w) k f fd ps (spQ K cl n fun _ => .st) := fnok_no fun vs H Q E ⟨_, _, _, _, _, q⟩ => q
end
section
variable {α : Type} {X : Cx} {cl : Str → Option Addr} {W : WX} {K : PySem.W.Frag} {F0 H0 F H F' H' : Hp} {σ : L2.St} {ρ : En} {mp : List (Nat × Addr)} {RP : RPt α} {Dn : Ends} {e o : Expr} {te : TE} {pos apos cpos pos' p : Pos} {es : List Expr} {t : TA} {x : Str} {ps : List Str} {k n : Nat}
def fRetQ (me : En → R DT) : En → Fl DT := fun ρ => fOf (me ρ) ρ fun d => .rt d (wipeA ρ)
theorem us_retQ {me : En → R DT} (he : UQ X cl W e te me) : US X cl W mp (RPQ X.K cl mp) (.Return (some e) pos) (tRet te) (fRetQ me) :=
  ⟨ps_ret he.pe, fun F0 H0 F H σ ρ Dn S P p => he.es F0 H0 F H σ ρ _ S (postQ_of S P p fun t v fp F1 H1 g h n z q => q v fp σ F1 H1 (S.mono g).unA P h n fun a ha => ⟨(z a ha).2, S.grow.old a (z a ha).1⟩)⟩
def fRetQo (i : Nat) : En → Fl DT := fun ρ => match ρ[i]? with
  | some (.tr t) => .rt t (wipeA ρ)
  | _ => .st
theorem us_retQo {i : Nat} (he : PE X e (tVar i)) : US X cl W mp (RPQ X.K cl mp) (.Return (some e) pos) (tRet (tVar i)) (fRetQo i) := by
  refine ⟨ps_ret he, fun F0 H0 F H σ ρ Dn S P p => ?_⟩
  unfold fRetQo at p
  split at p
  · rename_i t hi
    obtain ⟨ω, h1, h2, h3⟩ := S.tr
    obtain ⟨v, q1, q2, q3, q4⟩ := h1 i t hi
    exact ⟨v, q1, p v _ σ F H S.unA P q2 q3 q4⟩
  · exact p.elim
theorem uq_call {ma : En → R (List D)} {m : List D → R DT} (G : Cal X.prog X.w X.K X.mg X.base k x ps (spQ X.K cl n m)) (hr : Room k X.A) (tk : L2N.Takes X W) (hn : ps.length = n) (ha : UA X cl W (e :: es) t ma) (hl : ∀ ρ ds, ma ρ = .ok ds → ds.length = n) (hg : Gl X x := by rfl)
    (hdb : (x == ("__debug__" : Str)) = false := by decide) (he : starEach (e :: es) X.env = (false, eval e X.env) :: starEach es X.env := by rfl) (hpl : (backTo pos (starEach es X.env)).any (·.1) = false := by rfl) :
    UQ X cl W (.Call (.Name x p) (e :: es) [] pos) (tCallSD (spQ X.K cl n m) [] (WE W) t) (d1 m ma) := by
  obtain ⟨f, fd, F, hm, hk, hb⟩ := G
  refine ⟨pe_callSD F hr hg hm hk hb .nil (fun σ => L2N.passAt tk σ) ha.pe hdb he hpl, fun F0 H0 F H σ ρ Q S p => ha.es F0 H0 F H σ ρ _ S ?_⟩
  unfold d1 at p
  cases e : ma ρ with
  | st => rw [e] at p; exact p
  | er x => rw [e] at p; exact p
  | ok ds =>
    rw [e, R.bind_ok] at p
    intro vs F1 H1 g r
    rw [List.append_nil]
    refine ⟨ds, F1, g.s, r, by rw [r.length, hl ρ ds e], ?_⟩
    cases e2 : m ds with
    | st => rw [e2] at p; exact p
    | er x => rw [e2] at p; exact fun c d F2 H2 g2 q => p c d F2 H2 (g.trans g2) q
    | ok o => rw [e2] at p; exact fun v fp F2 H2 g2 h n z => p v fp F2 H2 (g.trans g2) h n fun a ha => ⟨g.old a (z a ha).1, (z a ha).2⟩
/-- the items frozen, the list itself ours -/
def dQn : DT → R DO
  | .lst ts => .ok (.lst (frzDs ts))
  | _ => .st
@[simp] theorem dQn_lst (ts : List DT) : dQn (.lst ts) = .ok (.lst (frzDs ts)) := id rfl
theorem UQ.un {me : En → R DT} (h : UQ X cl W e te me) : UN X cl W e te (d1 dQn me) := by
  refine ⟨h.pe, fun F0 H0 F H σ ρ Q S p => h.es F0 H0 F H σ ρ Q S ?_⟩
  unfold d1 at p
  cases e : me ρ with
  | st => rw [e] at p; exact p
  | er x => rw [e] at p; exact p
  | ok t =>
    rw [e, R.bind_ok] at p
    intro v fp F1 H1 g hT hn hz
    cases t with
    | fz _ => exact p.elim
    | tup _ => exact p.elim
    | dk _ _ => exact p.elim
    | ob _ _ _ => exact p.elim
    | lst ts =>
    unfold Tr at hT
    obtain ⟨q, vs, fq, rfl, h1, rfl, h2⟩ := hT
    rw [List.nodup_cons] at hn
    let F2 : Hp := fun a => if a ∈ fq then H1 a else F1 a
    have in_ : ∀ {a}, a ∈ fq → F2 a = H1 a := fun h => if_pos h
    have out : ∀ {a}, a ∉ fq → F2 a = F1 a := fun h => if_neg h
    have hz' : ∀ a ∈ fq, H a = none ∧ F1 a = none := fun a ha => hz a (by simp [ha])
    have ex : Ex F1 F2 := fun a o e => by
      have : a ∉ fq := fun z => by rw [(hz' a z).2] at e; cases e
      rw [out this]; exact e
    have g2 : Grow F H F2 H1 := ⟨g.f.trans ex, fun a o e => by
      by_cases ha : a ∈ fq
      · rw [in_ ha] at e; exact e
      · rw [out ha] at e; exact g.s a o e, g.h, fun a o e z => by
      have : a ∉ fq := fun w => by rw [(hz' a w).1] at e; cases e
      rw [out this]; exact g.n a o e z⟩
    have hq := hz q (by simp)
    exact p q (.lst vs) F2 H1 g2 hq.1 (by rw [out hn.1]; exact hq.2) h1 ⟨vs, rfl, h2.rp ex fun a ha => in_ ha⟩
/-! ### a look at what is ours, for a new tree told back -/
mutual
def flatT : DT → Bool
  | .fz d => flat2 d
  | .lst ts => flatTs ts
  | .tup ts => flatTs ts
  | .dk _ ts => flatTs ts
  | .ob _ _ ts => flatTs ts
def flatTs : List DT → Bool
  | [] => true
  | t :: ts => flatT t && flatTs ts
end
mutual
theorem Tr.flat {F1 F2 : Hp} (hf : ∀ a vs, F2 a = some (.tup vs) → F1 a = some (.tup vs)) : ∀ {v : V} {t : DT} {fp : List Addr}, flatT t = true → Tr K cl F2 H v t fp → Tr K cl F1 H v t fp
  | v, .fz d, fp, n, h => by
    unfold Tr at h ⊢; unfold flatT at n
    obtain ⟨h1, h2⟩ := h
    have := rps_flat2 (K := K) (cl := cl) hf (ds := [d]) (vs := [v]) (by simp [n]) (Rps.cons h2 Rps.nil)
    obtain ⟨v', r', e, q, _⟩ := this.cons_inv
    cases e
    exact ⟨h1, q⟩
  | v, .lst ts, fp, n, h => by
    unfold Tr at h ⊢; unfold flatT at n
    obtain ⟨a, vs, fq, e, h1, h2, h3⟩ := h
    exact ⟨a, vs, fq, e, h1, h2, Trs.flat hf n h3⟩
  | v, .tup ts, fp, n, h => by
    unfold Tr at h ⊢; unfold flatT at n
    obtain ⟨a, vs, fq, e, h1, h2, h3⟩ := h
    exact ⟨a, vs, fq, e, h1, h2, Trs.flat hf n h3⟩
  | v, .dk ks ts, fp, n, h => by
    unfold Tr at h ⊢; unfold flatT at n
    obtain ⟨a, vs, fq, e, h1, hl, h2, h3⟩ := h
    exact ⟨a, vs, fq, e, h1, hl, h2, Trs.flat hf n h3⟩
  | v, .ob c ns ts, fp, n, h => by
    unfold Tr at h ⊢; unfold flatT at n
    obtain ⟨a, C, dx, vs, fq, e, h0, h1, hl, h2, h3⟩ := h
    exact ⟨a, C, dx, vs, fq, e, h0, h1, hl, h2, Trs.flat hf n h3⟩
theorem Trs.flat {F1 F2 : Hp} (hf : ∀ a vs, F2 a = some (.tup vs) → F1 a = some (.tup vs)) : ∀ {vs : List V} {ts : List DT} {fp : List Addr}, flatTs ts = true → Trs K cl F2 H vs ts fp → Trs K cl F1 H vs ts fp
  | vs, [], fp, n, h => by unfold Trs at h ⊢; exact h
  | vs, t :: ts, fp, n, h => by
    unfold Trs at h ⊢; unfold flatTs at n
    rw [Bool.and_eq_true] at n
    obtain ⟨v, r, f1, f2, e, e2, h1, h2⟩ := h
    exact ⟨v, r, f1, f2, e, e2, Tr.flat hf n.1 h1, Trs.flat hf n.2 h2⟩
end
def dPkQ (is : List Nat) (me : En → R DT) : En → R DT := fun ρ => match me (UP.frzs is ρ) with
  | .ok t => if flatT t = true then .ok t else .st
  | _ => .st
theorem uq_pk (is : List Nat) {me : En → R DT} (he : UQ X cl W e te me) : UQ X cl W e te (dPkQ is me) := by
  refine ⟨he.pe, fun F0 H0 F H σ ρ Q S p => ?_⟩
  obtain ⟨F', x, nt, S'⟩ := S.frzsT is
  refine he.es F0 H0 F' H σ _ Q S' ?_
  unfold dPkQ at p
  cases hx : me (UP.frzs is ρ) with
  | st => rw [hx] at p; exact p.elim
  | er x => rw [hx] at p; exact p.elim
  | ok t =>
    rw [hx] at p
    have p : PostQ X.K cl W σ F H Q (if flatT t = true then .ok t else .st) := p
    by_cases hfl : flatT t = true
    rotate_left
    · rw [if_neg hfl] at p; exact p.elim
    rw [if_pos hfl] at p
    intro v fp F2 H2 g hT hn hz
    classical
    let F1 : Hp := fun a => if F a = none ∧ F' a ≠ none then none else F2 a
    have f1 : ∀ a, F a ≠ none → F1 a = F2 a := fun a h => if_neg (fun z => h z.1)
    have gr : Grow F H F1 H2 := by
      refine ⟨fun a o ha => ?_, fun a o ha => ?_, g.h, fun a o hao han => ?_⟩
      · rw [f1 a (by rw [ha]; exact fun z => nomatch z)]; exact g.f _ _ (x _ _ ha)
      · by_cases c : F a = none ∧ F' a ≠ none
        · have : F1 a = none := if_pos c
          rw [this] at ha; cases ha
        · have : F1 a = F2 a := if_neg c
          rw [this] at ha; exact g.s _ _ ha
      · by_cases c : F' a = none
        · have : F1 a = F2 a := if_neg (fun z => z.2 c)
          rw [this]; exact g.n a o hao c
        · exact if_pos ⟨han, c⟩
    refine p v fp F1 H2 gr (hT.flat (fun a vs h => ?_) hfl) hn fun a ha => ⟨(hz a ha).1, ?_⟩
    · by_cases c : F a = none ∧ F' a ≠ none
      · obtain ⟨u, hu⟩ := Option.ne_none_iff_exists'.mp c.2
        have h2 := g.f _ _ hu
        rw [h] at h2; cases h2
        exact absurd hu (nt a vs c.1)
      · have : F1 a = F2 a := if_neg c
        rw [this]; exact h
    · by_cases c : F a = none ∧ F' a ≠ none
      · exact if_pos c
      · have : F1 a = F2 a := if_neg c
        rw [this]; exact (hz a ha).2

/-- a look, for a test -/
def dPkT (is : List Nat) (mt : En → R Bool) : En → R Bool := fun ρ => noer (mt (UP.frzs is ρ))
theorem ut_pk (is : List Nat) {tt : TT} {mt : En → R Bool} (ht : UT X cl W e tt mt) : UT X cl W e tt (dPkT is mt) := by
  refine ⟨ht.pe, fun F0 H0 F H σ ρ Q S p => ?_⟩
  obtain ⟨F', x, S'⟩ := S.frzs is
  refine ht.es F0 H0 F' H σ _ Q S' ?_
  unfold dPkT at p
  cases hx : mt (UP.frzs is ρ) with
  | st => rw [hx] at p; exact p.elim
  | er x => rw [hx] at p; exact p.elim
  | ok b =>
    rw [hx] at p
    exact fun F2 H2 g => p F H2 ⟨Ex.refl _, (x.trans g.f).trans g.s, g.h, fun _ _ _ z => z⟩
@[simp] theorem dPkT_ap (is : List Nat) (mt : En → R Bool) : dPkT is mt ρ = noer (mt (UP.frzs is ρ)) := id rfl
@[simp] theorem dPkQ_ap (is : List Nat) (me : En → R DT) : dPkQ is me ρ = match me (UP.frzs is ρ) with
  | .ok t => if flatT t = true then .ok t else .st
  | _ => .st := id rfl
/-! ### for y in x: y.append(e) -/
def appAll (d : D) : List DT → Option (List DT)
  | [] => some []
  | t :: ts => match tAppD d t, appAll d ts with
    | some (_, t'), some ts' => some (t' :: ts')
    | _, _ => none
def fForApp (i y : Nat) (me : En → R D) : En → Fl α := fun ρ => match ρ[i]? with
  | some (.tr (.lst ts)) => if y < ρ.length then match me ((ρ.set y .un).set i .un) with
    | .ok d => match appAll d ts with
      | some ts' => .nx ((ρ.set y .un).set i (.tr (.lst ts')))
      | none => .st
    | _ => .st
    else .st
  | _ => .st
theorem set_un_y {ρ : En} {i y : Nat} {q : Sl} (h : i ≠ y) : ((ρ.set y .un).set i q).set y .un = (ρ.set y .un).set i q := by
  rw [List.set_comm _ _ h, List.set_set]
theorem us_forApp {i y : Nat} {me : En → R D} {ty : Expr} {o2 : Expr} (po : PassesOwn (model X.prog X.w) X.A X.env X.xe) (hc : X.calm = true) (hiy : i ≠ y) (ho : PE X o (tVar i)) (hg : PG X ty (gName y)) (he : UE X cl WF e te me) (hy : y ∉ mp.map (·.1))
    (hb : PE X (.Call (.Attribute o2 "append" apos) [e] [] cpos) (tBM X.K "list" rAppend (tVar y) (tCons te tNil)))
    (hs : ∀ x, foldedSetIterable o X.env x = pure x := by intro _; rfl)
    (hsw : swapsWith (.Call (.Attribute o2 "append" apos) [e] [] cpos) none pos'.line X.env = pure false := by rfl) :
    US X cl W mp RP (.For ty o [.Expr (.Call (.Attribute o2 "append" apos) [e] [] cpos) pos'] [] pos) (tFor (iList X.K (tVar i)) (gName y) (tDrop (tBM X.K "list" rAppend (tVar y) (tCons te tNil)))) (fForApp i y me) := by
  refine ⟨ps_for po hc (pi_list ho) hg (pss_one (ps_expr hb hsw)) hs, fun F0 H0 F H σ ρ Dn S P p => ?_⟩
  unfold fForApp at p
  split at p
  rotate_left
  · exact p.elim
  rename_i ts hi
  split at p
  rotate_left
  · exact p.elim
  rename_i hyl
  split at p
  rotate_left
  · exact p.elim
  rename_i d hd
  split at p
  rotate_left
  · exact p.elim
  rename_i ts' hts
  have hil : i < ρ.length := (List.getElem?_eq_some_iff.mp hi).1
  obtain ⟨ω, h1, h2, h3⟩ := S.tr
  obtain ⟨u, q1, q2, q3, q4⟩ := h1 i _ hi
  unfold Tr at q2
  obtain ⟨pp, vs, fq, rfl, y1, y2, y3⟩ := q2
  refine ⟨_, q1, pp, rfl, ⟨vs, SqL.of y1⟩, ?_⟩
  let st (us : List DT) : En := (ρ.set y .un).set i (.tr (.lst us))
  refine ⟨fun n m σ H => m = ts.length - n ∧ n ≤ ts.length ∧ ∃ F2 a b, Sr X.K cl F0 H0 F2 H σ (st (a ++ ts.drop n)) ∧ Pin mp σ ∧ σ[i]? = some (some (.ref pp)) ∧ Ex F F2 ∧ a.length = n ∧ appAll d (ts.drop n) = some b ∧ a ++ b = ts',
    ⟨ts.length, by simp, Nat.zero_le _, F, [], ts', ?_, P, q1, Ex.refl _, rfl, hts, rfl⟩, ?_⟩
  · have S1 := S.unE (i := y)
    have e1 : (ρ.set y .un).set i (.tr (.lst ts)) = ρ.set y .un := by
      refine List.ext_getElem? fun j => ?_
      by_cases hj : i = j
      · subst hj; rw [List.getElem?_set_self (by simpa using hil), List.getElem?_set_ne (Ne.symm hiy), hi]
      · rw [List.getElem?_set_ne hj]
    show Sr X.K cl F0 H0 F H σ ((ρ.set y .un).set i (.tr (.lst ([] ++ ts.drop 0))))
    rw [List.nil_append, List.drop_zero, e1]
    exact S1
  rintro n m σ H ⟨rfl, hn, F2, a, b, S2, P2, hpp, e2, ha, hb2, hab⟩
  have hst : ∀ us, (st us)[i]? = some (.tr (.lst us)) := fun us => List.getElem?_set_self (by simpa using hil)
  obtain ⟨ω2, k1, k2, k3⟩ := S2.tr
  obtain ⟨u2, z1, z2, z3, z4⟩ := k1 i _ (hst _)
  rw [hpp] at z1; cases z1
  unfold Tr at z2
  obtain ⟨pp', vs2, fq2, e5, w1, w2, w3⟩ := z2
  cases e5
  have hlen : vs2.length = ts.length := by rw [w3.length, List.length_append, List.length_drop]; omega
  by_cases hlt : n < ts.length
  · have hdr := List.drop_eq_getElem_cons hlt
    rw [hdr] at hb2
    have hat : (a ++ ts.drop n)[n]? = some ts[n] := by rw [List.getElem?_append_right (by omega), ha, Nat.sub_self, hdr]; rfl
    obtain ⟨p1, vs1, v1, f2, x1, x2, x3, x4, x5, x6, x7⟩ := S2.itAt (hst _) hat
    rw [hpp] at x1; cases x1
    rw [w1] at x2; cases x2
    unfold appAll at hb2
    split at hb2
    rotate_left
    · cases hb2
    rename_i d0 t' b' hf hb'
    cases hb2
    refine .inr ⟨⟨vs2, v1, SqL.of w1, x4⟩, fun σ H => ∃ F2 a b, Sr X.K cl F0 H0 F2 H σ (st (a ++ ts.drop (n + 1))) ∧ Pin mp σ ∧ σ[i]? = some (some (.ref pp)) ∧ Ex F F2 ∧ a.length = n + 1 ∧ appAll d (ts.drop (n + 1)) = some b ∧ a ++ b = ts', fun σ' H' z => ⟨ts.length - (n + 1), by omega, rfl, hlt, z⟩, fun x H3 yl => ?_⟩
    obtain ⟨rfl, yl⟩ := yl
    have ex := yl vs2 (SqL.of w1)
    rw [x4] at ex; cases ex
    have S3 := S2.un (i := y) (u := some v1)
    have e6 : (st (a ++ ts.drop n)).set y .un = st (a ++ ts.drop n) := set_un_y hiy
    rw [e6] at S3
    have P3 : Pin mp (σ.set y (some v1)) := pin_set P2 hy
    have hsl : y < σ.length := by
      have h5 := S2.len
      have h6 : (st (a ++ ts.drop n)).length = ρ.length := by show ((ρ.set y .un).set i _).length = _; simp
      omega
    have hv1 : (σ.set y (some v1))[y]? = some (some v1) := List.getElem?_set_self hsl
    have hpi : (σ.set y (some v1))[i]? = some (some (.ref pp)) := by rw [List.getElem?_set_ne (Ne.symm hiy)]; exact hpp
    generalize hts0 : ts[n] = t0 at *
    cases t0 with
    | fz _ => cases hf
    | tup _ => cases hf
    | dk _ _ => cases hf
    | ob _ _ _ => cases hf
    | lst us =>
    unfold Tr at x5
    obtain ⟨q, zs, fq', rfl, yy1, rfl, yy2⟩ := x5
    have S4 : Sr X.K cl F0 H0 F2 H3 (σ.set y (some (.ref q))) ((ρ.set y .un).set i .un) := by
      have h7 := S3.unE (i := i)
      have h8 : (st (a ++ ts.drop n)).set i .un = (ρ.set y .un).set i .un := List.set_set _
      rw [h8] at h7
      exact h7
    refine ⟨_, hv1, tyV_l yy1, he.es F0 H0 F2 H3 _ _ _ S4 ?_⟩
    rw [hd]
    intro yv F4 H4 g4 r4
    obtain ⟨p5, vs5, v5, f5, c1, c2, c3, c4, c5, c6, c7⟩ := (S3.mono g4).itAt (hst _) hat
    rw [hpi] at c1; cases c1
    have e7 : vs5 = vs2 := by have := g4.h _ _ w1; rw [c2] at this; cases this; rfl
    subst e7
    rw [x4] at c4; cases c4
    unfold Tr at c5
    obtain ⟨q', zs', fq5, e8, d1, rfl, d2⟩ := c5
    cases e8
    have hf : (if us.length < SZ then some (D.non, DT.lst (us ++ [.fz d])) else none) = some (d0, t') := hf
    split at hf
    rotate_left
    · cases hf
    rename_i hz
    cases hf
    refine ⟨q, zs', yv, rfl, rfl, d1, by rw [d2.length]; exact sz_lt hz, ?_⟩
    rw [List.nodup_cons] at c7
    have S6 := c6 (upd H4 q (.lst (zs' ++ [yv]))) (.lst (us ++ [.fz d])) (q :: fq5) (fun b hb => upd_ne fun z => hb (by simp [z])) ?_ (List.nodup_cons.mpr c7) fun b hb => hb
    rotate_left
    · unfold Tr
      refine ⟨q, zs' ++ [yv], fq5, rfl, upd_same, rfl, ?_⟩
      have y3 := d2.append (Trs.one (tr_fz (H := H4) r4))
      rw [List.append_nil] at y3
      exact y3.mono (Ex.refl _) fun b hb => upd_ne fun z => c7.1 (z ▸ hb)
    have e9 : (st (a ++ ts.drop n)).set i (.tr (.lst ((a ++ ts.drop n).set n (.lst (us ++ [.fz d]))))) = st ((a ++ [.lst (us ++ [.fz d])]) ++ ts.drop (n + 1)) := by
      show ((ρ.set y .un).set i _).set i _ = (ρ.set y .un).set i _
      rw [List.set_set, hdr]
      congr 3
      rw [List.set_append_right _ _ (by omega), ha, Nat.sub_self, List.set_cons_zero, List.append_assoc]
      rfl
    rw [e9] at S6
    exact ⟨F4, a ++ [.lst (us ++ [.fz d])], b', S6, P3, hpi, e2.trans g4.f, by simp [ha], hb', by rw [List.append_assoc]; exact hab⟩
  · have e : n = ts.length := by omega
    subst e
    refine .inl ⟨⟨vs2, SqL.of w1, by omega⟩, ?_⟩
    rw [List.drop_length] at hb2 S2
    cases hb2
    rw [List.append_nil] at hab S2
    subst hab
    exact p σ F2 H e2 S2 P2
end
/-! ### to reckon with trees -/
section
variable {α : Type} {ρ : En}
@[simp] theorem flQ_rt (d : DT) : flQ (.rt d ρ) = .ok d := id rfl
@[simp] theorem flQ_er (x : Exc) : flQ (.er x ρ) = .er x := id rfl
@[simp] theorem flQ_st : flQ .st = .st := id rfl
@[simp] theorem flQ_ite {c : Prop} [Decidable c] (a b : Fl DT) : flQ (if c then a else b) = if c then flQ a else flQ b := by split <;> rfl
@[simp] theorem dTn_lst (xs : List D) : dTn (.lst xs) = .ok (.lst (xs.map .fz)) := id rfl
@[simp] theorem dTn_dK (ks : List Key) (xs : List D) : dTn (.dK ks xs) = .ok (.dk ks (xs.map .fz)) := id rfl
@[simp] theorem fSetQ_ap (i : Nat) (me : En → R DT) : (fSetQ i me ρ : Fl α) = fOf (me ρ) ρ fun t => .nx (ρ.set i (.tr t)) := id rfl
@[simp] theorem fRetQ_ap (me : En → R DT) : fRetQ me ρ = fOf (me ρ) ρ fun d => .rt d (wipeA ρ) := id rfl
@[simp] theorem fRetQo_ap (i : Nat) : fRetQo i ρ = match ρ[i]? with | some (Sl.tr t) => .rt t (wipeA ρ) | _ => .st := id rfl
@[simp] theorem dItApp_ap (i : Nat) (mk me : En → R D) : dItApp i mk me ρ = (noer (mk ρ)).bind fun k => (noer (me ρ)).bind fun d => itMod i (tAppD d) ρ k := id rfl
@[simp] theorem dItClr_ap (i : Nat) (mk : En → R D) : dItClr i mk ρ = (noer (mk ρ)).bind fun k => itMod i tClr ρ k := id rfl
@[simp] theorem fItPush_ap (i : Nat) (me : En → R DT) : (fItPush i me ρ : Fl α) = fOf (noer (me ρ)) ρ fun t => match ρ[i]? with
  | some (Sl.tr (DT.lst ts)) => if ts.length < SZ then .nx (ρ.set i (.tr (.lst (ts ++ [t])))) else .st
  | _ => .st := id rfl
@[simp] theorem fItSet_ap (i : Nat) (mk : En → R D) (me : En → R DT) : (fItSet i mk me ρ : Fl α) = fOf (me ρ) ρ fun t => fOf (noer (mk ρ)) ρ fun k => match k with
  | .int j => match ρ[i]? with
    | some (Sl.tr (DT.lst ts)) => match ixN ts.length j with
      | some n => .nx (ρ.set i (.tr (.lst (ts.set n t))))
      | none => .st
    | _ => .st
  | _ => .st := id rfl
@[simp] theorem itMod_int (i : Nat) (f : DT → Option (D × DT)) (j : Int) : itMod i f ρ (.int j) = match ρ[i]? with
  | some (Sl.tr (DT.lst ts)) => match ixN ts.length j with
    | some n => match ts[n]? with
      | some t => match f t with
        | some (d, t') => .ok (d, ρ.set i (.tr (.lst (ts.set n t'))))
        | none => .st
      | none => .st
    | none => .st
  | _ => .st := id rfl
@[simp] theorem tAppD_lst (d : D) (us : List DT) : tAppD d (.lst us) = if us.length < SZ then some (.non, .lst (us ++ [.fz d])) else none := id rfl
@[simp] theorem tClr_lst (us : List DT) : tClr (.lst us) = some (.non, .lst []) := id rfl
@[simp] theorem fForApp_ap (i y : Nat) (me : En → R D) : (fForApp i y me ρ : Fl α) = match ρ[i]? with
  | some (Sl.tr (DT.lst ts)) => if y < ρ.length then match me ((ρ.set y .un).set i .un) with
    | .ok d => match appAll d ts with
      | some ts' => .nx ((ρ.set y .un).set i (.tr (.lst ts')))
      | none => .st
    | _ => .st
    else .st
  | _ => .st := id rfl
@[simp] theorem frzD_fz (d : D) : frzD (.fz d) = d := by unfold frzD; rfl
@[simp] theorem frzD_lst (ts : List DT) : frzD (.lst ts) = .lst (frzDs ts) := by rw [frzD]
@[simp] theorem frzD_tup (ts : List DT) : frzD (.tup ts) = .tup (frzDs ts) := by rw [frzD]
@[simp] theorem frzD_dk (ks : List Key) (ts : List DT) : frzD (.dk ks ts) = .dk ks (frzDs ts) := by rw [frzD]
@[simp] theorem frzD_ob (c : Str) (ns : List Str) (ts : List DT) : frzD (.ob c ns ts) = .obj c ns (frzDs ts) := by rw [frzD]
@[simp] theorem frzDs_nil : frzDs [] = [] := by unfold frzDs; rfl
@[simp] theorem frzDs_cons (t : DT) (ts : List DT) : frzDs (t :: ts) = frzD t :: frzDs ts := by rw [frzDs]
@[simp] theorem frzDs_fz (ds : List D) : frzDs (ds.map .fz) = ds := by
  induction ds with
  | nil => simp
  | cons d ds ih => simp [ih]
theorem frzDs_eq (ts : List DT) : frzDs ts = ts.map frzD := by
  induction ts with
  | nil => simp
  | cons d ds ih => simp [ih]
theorem frzDs_map {γ : Type} (f : γ → DT) (xs : List γ) : frzDs (xs.map f) = xs.map fun x => frzD (f x) := by
  induction xs with
  | nil => simp
  | cons d ds ih => simp [ih]
theorem noTs_all {ts : List DT} (h : ∀ t ∈ ts, noT t = true) : noTs ts = true := by
  induction ts with
  | nil => rfl
  | cons t ts ih => unfold noTs; rw [h t (by simp), ih fun u hu => h u (by simp [hu])]; rfl
theorem noT_lst {ts : List DT} (h : ∀ t ∈ ts, noT t = true) : noT (.lst ts) = true := by unfold noT; exact noTs_all h
theorem flatTs_all {ts : List DT} (h : ∀ t ∈ ts, flatT t = true) : flatTs ts = true := by
  induction ts with
  | nil => rfl
  | cons t ts ih => unfold flatTs; rw [h t (by simp), ih fun u hu => h u (by simp [hu])]; rfl
theorem flatT_lst {ts : List DT} (h : ∀ t ∈ ts, flatT t = true) : flatT (.lst ts) = true := by unfold flatT; exact flatTs_all h
/-- a comprehension of trees -/
theorem dLqGo_all {γ : Type} {gm : D → En → R En} {em : En → R DT} {ρw : En} (E : γ → D) (f : γ → DT) : ∀ (xs : List γ),
    (∀ x ∈ xs, ∃ ρ1, gm (E x) ρw = .ok ρ1 ∧ em ρ1 = .ok (f x)) → dLqGo gm dYes em ρw (xs.map E) = .ok (xs.map f)
  | [], _ => rfl
  | x :: xs, h => by
    obtain ⟨ρ1, h1, h2⟩ := h x (by simp)
    rw [List.map_cons, List.map_cons]
    unfold dLqGo
    rw [h1, R.bind_ok]
    show (R.ok true).bind _ = _
    rw [R.bind_ok, if_pos rfl, h2, R.bind_ok, dLqGo_all E f xs fun y hy => h y (by simp [hy])]
    rfl
theorem dLq_all {γ : Type} {vs : List Nat} {mi : En → R (List D)} {gm : D → En → R En} {em : En → R DT} (E : γ → D) (f : γ → DT) (xs : List γ) (hi : mi ρ = .ok (xs.map E)) (hz : xs.length ≤ SZ)
    (h : ∀ x ∈ xs, ∃ ρ1, gm (E x) (wipeE ρ vs) = .ok ρ1 ∧ em ρ1 = .ok (f x)) : dLq vs mi gm dYes em ρ = .ok (.lst (xs.map f)) := by
  unfold dLq
  rw [hi, R.bind_ok, if_pos (by rw [List.length_map]; exact hz), dLqGo_all E f xs h]
  rfl
/-- lists of lists of frozen ones -/
abbrev tL (xs : List D) : DT := .lst (xs.map .fz)
@[simp] theorem frzD_tL (xs : List D) : frzD (tL xs) = .lst xs := by simp
theorem noT_tL (xs : List D) : noT (tL xs) = true := noT_lst fun t ht => by
  obtain ⟨d, _, rfl⟩ := List.mem_map.mp ht; rfl
theorem noT_tLL (xss : List (List D)) : noT (.lst (xss.map tL)) = true := noT_lst fun t ht => by
  obtain ⟨d, _, rfl⟩ := List.mem_map.mp ht; exact noT_tL d
@[simp] theorem frzDs_tL (xss : List (List D)) : frzDs (xss.map tL) = xss.map .lst := by
  rw [frzDs_map]; exact List.map_congr_left fun x _ => frzD_tL x
theorem flatT_tL {xs : List D} (h : xs.all flat2 = true) : flatT (tL xs) = true := flatT_lst fun t ht => by
  obtain ⟨d, hd, rfl⟩ := List.mem_map.mp ht
  show flat2 d = true
  exact List.all_eq_true.mp h d hd
theorem appAll_tL {d : D} : ∀ {xss : List (List D)}, (∀ xs ∈ xss, xs.length < SZ) → appAll d (xss.map tL) = some (xss.map fun xs => tL (xs ++ [d]))
  | [], _ => rfl
  | xs :: xss, h => by
    rw [List.map_cons, List.map_cons]
    unfold appAll
    have h1 : tAppD d (tL xs) = some (.non, tL (xs ++ [d])) := by
      have := h xs (by simp)
      simp [tL, this]
    rw [h1, appAll_tL fun y hy => h y (by simp [hy])]
end
end UP
namespace L2
open PySem PySem.Spec PyProof.Rows PySem.W
section
variable {X : Cx}
def rRemD (K : PySem.W.Frag) : V → List V → Hp → VK → Prop := fun x xs H Q => ∃ (a : Addr) (ys : List V) (y : V) (d : PyData) (ds : List PyData) (j : Nat) (z : PyData), x = V.ref a ∧ xs = [y] ∧ H a = some (.lst ys) ∧ DpAll K H ys ds ∧ Dp K H y d ∧
  SeqAt.shaped (.list ds) = true ∧ SeqAt.shaped d = true ∧ ds[j]? = some z ∧ PyData.eqv z d = true ∧ (∀ (m : Nat) (z' : PyData), m < j → ds[m]? = some z' → PyData.eqv z' d = false) ∧ Q .non (upd H a (.lst (ys.eraseIdx j)))
theorem mt_removeD (hu : X.A.units + 65 < cLine) : MtR X "list.remove" (rRemD X.K) := by
  intro pins s σ H x xs v us Q I rx rxs h
  obtain ⟨a, ys, y, d, ds, j, z, rfl, rfl, hH, hl, hy, sl, sd, hz, hzj, hno, q⟩ := h
  cases rx
  cases rxs with
  | cons ry rt =>
    rename_i uy ut
    cases rt
    obtain ⟨bs, r1⟩ := Dp.reads I d y uy hy ry
    have hxs : PyData.canLayAll0 ds = true := SeqAt.canLay_of_shaped sl
    have hroom : X.A.units + 1 + min (PyData.depthAll ds) d.depth < cLine := room_in_shaped sd hu
    obtain ⟨zz, its, n, rv, hlen, ho⟩ := I.lstM hH
    obtain ⟨as, h4⟩ := Dp.readsAll I ds _ its hl rv
    have hn : its.length = ds.length := SeqAt.ReadsAll.length ds its as h4
    have hmap : its.map (SeqAt.readOf s.heap) = ds := SeqAt.readsAll_map ds its as hxs h4
    have hvl := rv.length
    have hsl := sizeLine_eq
    obtain ⟨hjd, _⟩ := List.getElem?_eq_some_iff.mp hz
    have hjl : j < its.length := by omega
    have hj : j < its.toArray.size := by simpa using hjl
    have at_ : ∀ (m : Nat) (hm : m < its.toArray.size) (z' : PyData), ds[m]? = some z' → SeqAt.readOf s.heap its.toArray[m] = z' := by
      intro m hm z' hz'
      have hml : m < its.length := by simpa using hm
      rw [← hmap, List.getElem?_map, List.getElem?_eq_getElem hml] at hz'
      have e1 : SeqAt.readOf s.heap its[m] = z' := Option.some.inj (show some (SeqAt.readOf s.heap its[m]) = some z' from hz')
      simpa using e1
    refine call_meets PySem.F.slot_list_remove ⟨_, ho, rfl⟩ PySem.F.entry_list_remove (PySem.F.args_list_remove_2 _ _)
      (SeqAt.list_removeAt a its.toArray n none #[] uy (fun u => PyData.eqv (SeqAt.readOf s.heap u) d) j hj ?_ ?_ (by rw [List.size_toArray]; omega)) ⟨ho, SeqAt.items_eqAt (vs := its.toArray) (show ReadsAll s.heap its.toArray.toList ds as from h4) r1 hxs (SeqAt.canLay_of_shaped sd) hroom, ?_⟩
    · show PyData.eqv (SeqAt.readOf s.heap its.toArray[j]) d = true
      rw [at_ j hj z hz]
      exact hzj
    · intro m hm hmj
      have hmd : m < ds.length := by omega
      have hz' : ds[m]? = some ds[m] := List.getElem?_eq_getElem hmd
      show PyData.eqv (SeqAt.readOf s.heap its.toArray[m]) d = false
      rw [at_ m hm _ hz']
      exact hno m _ hmj hz'
    · have rr := rv.eraseIdx j
      refine ⟨.non, _, I.lset (its' := its.eraseIdx j) (t' := s.toks) hH ho ?_ rr ?_, rfl, q⟩
      · show its.toArray.eraseIdxIfInBounds j = (its.eraseIdx j).toArray
        rw [List.eraseIdxIfInBounds_toArray]
      · rw [List.length_eraseIdx]
        split <;> omega
theorem hu65_of {A : Around} {k : Nat} (hr : Room k A) : A.units + 65 < cLine := by have := hr.un; omega
end
end L2
namespace UP
open PySem L2 PyProof.Rows
section
variable {α : Type} {X : Cx} {cl : Str → Option Addr} {W : WX} {K : PySem.W.Frag} {F0 H0 F H F' H' : Hp} {σ : L2.St} {ρ : En} {mp : List (Nat × Addr)} {RP : RPt α} {Dn : Ends} {e o k : Expr} {te tk : TE} {pos apos cpos pos' tpos : Pos} {es : List Expr} {t : TA}
/-- the first place of an equal one -/
def remAt (d : PyData) : List PyData → Option Nat
  | [] => none
  | z :: zs => if PyData.eqv z d = true then some 0 else (remAt d zs).map (· + 1)
theorem remAt_ok {d : PyData} : ∀ {ds : List PyData} {j : Nat}, remAt d ds = some j → ∃ z, ds[j]? = some z ∧ PyData.eqv z d = true ∧ ∀ (m : Nat) (z' : PyData), m < j → ds[m]? = some z' → PyData.eqv z' d = false
  | [], j, h => by cases h
  | z :: zs, j, h => by
    unfold remAt at h
    split at h
    · rename_i hz
      cases h
      exact ⟨z, rfl, hz, fun m z' hm => absurd hm (by omega)⟩
    · rename_i hz
      cases e : remAt d zs with
      | none => rw [e] at h; cases h
      | some i =>
        rw [e] at h
        cases h
        obtain ⟨w, h1, h2, h3⟩ := remAt_ok e
        refine ⟨w, by simpa using h1, h2, fun m z' hm hz' => ?_⟩
        cases m with
        | zero =>
          have : z = z' := by simpa using hz'
          rw [← this]; simpa using hz
        | succ m => exact h3 m z' (by have hm : m + 1 < i + 1 := hm; omega) (by simpa using hz')
/-- x[k].remove(e) -/
def remPlace (ds : List D) (d : D) : Option Nat := match toPys ds, toPy d with
  | some ys, some y => if SeqAt.shaped (.list ys) = true ∧ SeqAt.shaped y = true then remAt y ys else none
  | _, _ => none
def tRemD (d : D) : DT → Option (D × DT)
  | .lst us => match fzs us with
    | some ds => match remPlace ds d with
      | some j => some (.non, .lst ((ds.eraseIdx j).map .fz))
      | none => none
    | none => none
  | _ => none
def dItRem (i : Nat) (mk me : En → R D) : En → R (D × En) := fun ρ => (noer (mk ρ)).bind fun k => (noer (me ρ)).bind fun d => itMod i (tRemD d) ρ k
@[simp] theorem dItRem_ap (i : Nat) (mk me : En → R D) : dItRem i mk me ρ = (noer (mk ρ)).bind fun k => (noer (me ρ)).bind fun d => itMod i (tRemD d) ρ k := id rfl
theorem ux_itRem {i : Nat} {mk me : En → R D} (ho : PE X o (tVar i)) (hk : UE X cl WF k tk mk) (he : UE X cl WF e te me)
    (hp : PE X (.Call (.Attribute (.Subscript o k tpos) "remove" apos) [e] [] cpos) (tBM X.K "list" (rRemD X.K) (tOp (rIxL X.K) (tVar i) tk) (tCons te tNil))) :
    UX X cl (.Call (.Attribute (.Subscript o k tpos) "remove" apos) [e] [] cpos) (tBM X.K "list" (rRemD X.K) (tOp (rIxL X.K) (tVar i) tk) (tCons te tNil)) (dItRem i mk me) := by
  refine ⟨hp, fun F0 H0 F H σ ρ Q S p => ?_⟩
  unfold dItRem at p
  cases e1 : mk ρ with
  | st => rw [e1] at p; exact p.elim
  | er x => rw [e1] at p; exact p.elim
  | ok dk =>
  cases e2 : me ρ with
  | st => rw [e1, e2] at p; exact p.elim
  | er x => rw [e1, e2] at p; exact p.elim
  | ok d =>
  rw [e1, e2] at p
  have p : PostX X.K cl F0 H0 F σ Q (itMod i (tRemD d) ρ dk) := p
  cases e3 : itMod i (tRemD d) ρ dk with
  | st => rw [e3] at p; exact p.elim
  | er x => rw [e3] at p; exact p.elim
  | ok q =>
  obtain ⟨d0, ρ'⟩ := q
  rw [e3] at p
  obtain ⟨j, ts, n, t, t', rfl, hi, hn, ht, hf, rfl⟩ := itMod_ok e3
  obtain ⟨pp, vs, v, f2, w1, w2, w3, w4, w5, w6, w7⟩ := S.itAt hi ht
  refine ⟨_, w1, hk.es F0 H0 F H σ ρ _ S ?_⟩
  rw [e1]
  intro y F1 H1 g1 r1
  obtain ⟨p1, vs1, v1, f21, x1, x2, x3, x4, x5, x6, x7⟩ := (S.mono g1).itAt hi ht
  rw [w1] at x1; cases x1
  have ha : atI vs1 j = some v1 := by unfold atI; rw [x3, hn]; exact x4
  cases t with
  | fz _ => cases hf
  | tup _ => cases hf
  | dk _ _ => cases hf
  | ob _ _ _ => cases hf
  | lst us =>
  unfold Tr at x5
  obtain ⟨q, zs, fq, rfl, y1, rfl, y2⟩ := x5
  refine ⟨pp, vs1, j, .ref q, rfl, r1.int_inv, SqL.of x2, ha, tyV_l y1, he.es F0 H0 F1 H1 σ ρ _ (S.mono g1) ?_⟩
  rw [e2]
  intro y F2 H2 g2 r2
  obtain ⟨p2, vs2, v2, f22, z1, z2, z3, z4, z5, z6, z7⟩ := ((S.mono g1).mono g2).itAt hi ht
  rw [w1] at z1; cases z1
  have e5 : vs2 = vs1 := by have := g2.h _ _ x2; rw [z2] at this; cases this; rfl
  subst e5
  rw [x4] at z4; cases z4
  unfold Tr at z5
  obtain ⟨q', zs', fq', e6, y1', rfl, y2'⟩ := z5
  cases e6
  unfold tRemD at hf
  split at hf
  rotate_left
  · rename_i hh; exact absurd rfl (hh us)
  rename_i us0 e8
  cases e8
  split at hf
  rotate_left
  · cases hf
  rename_i ds hds
  split at hf
  rotate_left
  · cases hf
  rename_i jj hjj
  cases hf
  unfold remPlace at hjj
  split at hjj
  rotate_left
  · cases hjj
  rename_i ys yy hys hyy
  split at hjj
  rotate_left
  · cases hjj
  rename_i hsh
  obtain ⟨z, k1, k2, k3⟩ := remAt_ok hjj
  have hus := fzs_eq hds
  subst hus
  obtain ⟨hfq, hr⟩ := trs_fz_inv y2'
  subst hfq
  have ex2 : Ex F2 H2 := g2.s
  refine ⟨q, zs', y, yy, ys, jj, z, rfl, rfl, y1', dp_ofs ex2 hr hys, dp_of ex2 r2 hyy, hsh.1, hsh.2, k1, k2, k3, ?_⟩
  refine p .non F2 _ (g1.f.trans g2.f) (z6 _ _ [q] (fun a ha => upd_ne fun z => ha (by simp [z])) ?_ z7 fun a ha => ha) rp_non
  unfold Tr
  exact ⟨q, zs'.eraseIdx jj, [], rfl, upd_same, rfl, trs_fz (hr.eraseIdx jj)⟩
@[simp] theorem dPkN_ap (is : List Nat) (me : En → R DO) : dPkN is me ρ = match me (UP.frzs is ρ) with
  | .ok (.lst xs) => if xs.all flat2 = true then .ok (.lst xs) else .st
  | _ => .st := id rfl
/-! ### x.extend(a new list) -/
def fExt (i : Nat) (me : En → R DO) : En → Fl α := fun ρ => match ρ[i]? with
  | some (.own (.lst xs)) => fOf (me ρ) ρ fun o => match o with
    | .lst zs => if xs.length + zs.length ≤ SZ then .nx (ρ.set i (.own (.lst (xs ++ zs)))) else .st
    | _ => .st
  | _ => .st
@[simp] theorem fExt_ap (i : Nat) (me : En → R DO) : (fExt i me ρ : Fl α) = match ρ[i]? with
  | some (Sl.own (DO.lst xs)) => fOf (me ρ) ρ fun o => match o with
    | .lst zs => if xs.length + zs.length ≤ SZ then .nx (ρ.set i (.own (.lst (xs ++ zs)))) else .st
    | _ => .st
  | _ => .st := id rfl
theorem us_extend {i : Nat} {me : En → R DO} (ho : PE X o (tVar i)) (he : UN X cl W e te me)
    (hp : PE X (.Call (.Attribute o "extend" apos) [e] [] cpos) (tBM X.K "list" rExtend (tVar i) (tCons te tNil)))
    (hs : swapsWith (.Call (.Attribute o "extend" apos) [e] [] cpos) none pos.line X.env = pure false := by rfl) :
    US X cl W mp RP (.Expr (.Call (.Attribute o "extend" apos) [e] [] cpos) pos) (tDrop (tBM X.K "list" rExtend (tVar i) (tCons te tNil))) (fExt i me) := by
  refine ⟨ps_expr hp hs, fun F0 H0 F H σ ρ Dn S P p => ?_⟩
  unfold fExt at p
  split at p
  rotate_left
  · exact p.elim
  rename_i xs hi
  obtain ⟨q, ho', h1, h2, h3, ⟨vs, rfl, hv⟩, h5⟩ := S.own i _ hi
  refine ⟨_, h1, tyV_lst h3, he.es F0 H0 F H σ ρ _ S (postN_of S P p fun o q2 ho2 F1 H1 g k0 k1 k2 kr p => ?_)⟩
  cases o with
  | lst zs =>
    obtain ⟨us, rfl, hu⟩ := kr
    have p : PostS X.K cl W mp RP F0 H0 F1 Dn (if xs.length + zs.length ≤ SZ then .nx (ρ.set i (.own (.lst (xs ++ zs)))) else .st) := p
    split at p
    · rename_i hz
      have hv1 := hv.mono g.f
      refine ⟨q, q2, vs, us, rfl, rfl, g.h _ _ h3, k2, by rw [hv1.length, hu.length]; exact sz_le hz, ?_⟩
      exact p σ F1 _ (Ex.refl _) ((S.mono g).write hi h1 ⟨_, rfl, hv1.append hu⟩) P
    · exact p.elim
  | _ => exact p.elim
end
end UP
namespace UP
open PySem L2 PyProof.Rows
section
variable {α : Type} {X : Cx} {cl : Str → Option Addr} {W : WX} {K : PySem.W.Frag} {F0 H0 F H F' H' : Hp} {σ : L2.St} {ρ : En} {mp : List (Nat × Addr)} {RP : RPt α} {Dn : Ends} {e o k : Expr} {te tk : TE} {pos apos cpos pos' tpos : Pos} {es : List Expr} {t : TA}
/-- x.clear() -/
def dClr (i : Nat) : En → R (D × En) := fun ρ => match ρ[i]? with
  | some (.own (.lst _)) => .ok (.non, ρ.set i (.own (.lst [])))
  | _ => .st
@[simp] theorem dClr_ap (i : Nat) : dClr i ρ = match ρ[i]? with
  | some (Sl.own (DO.lst _)) => R.ok (D.non, ρ.set i (.own (.lst [])))
  | _ => .st := id rfl
theorem ux_clear {i : Nat} (hp : PE X (.Call (.Attribute o "clear" apos) [] [] cpos) (tBM0 X.K "list" rClear (tVar i))) : UX X cl (.Call (.Attribute o "clear" apos) [] [] cpos) (tBM0 X.K "list" rClear (tVar i)) (dClr i) := by
  refine ⟨hp, fun F0 H0 F H σ ρ Q S p => ?_⟩
  unfold dClr at p
  split at p
  · rename_i xs hi
    obtain ⟨q, ho, h1, h2, h3, ⟨vs, rfl, hv⟩, h5⟩ := S.own i _ hi
    exact ⟨_, h1, tyV_lst h3, q, vs, rfl, rfl, h3, p .non F _ (Ex.refl _) (S.write hi h1 ⟨_, rfl, Rps.nil⟩) rp_non⟩
  · exact p.elim
/-- x.insert(k, e) -/
def rInsert : V → List V → Hp → VK → Prop := fun x vs H Q => ∃ (l : Addr) (xs : List V) (i : Int) (y : V), x = .ref l ∧ vs = [.int i, y] ∧ H l = some (.lst xs) ∧ xs.length < sizeLine ∧ 0 ≤ i ∧ i < 2 ^ 63 ∧ Q .non (upd H l (.lst (xs.take i.toNat ++ [y] ++ xs.drop i.toNat)))
theorem mt_insertR : MtR X "list.insert" rInsert := mt_insert
def dIns (i : Nat) (mk me : En → R D) : En → R (D × En) := fun ρ => (noer (mk ρ)).bind fun k => (noer (me ρ)).bind fun d => match k, ρ[i]? with
  | .int j, some (.own (.lst xs)) => if xs.length < SZ ∧ 0 ≤ j ∧ j < 9223372036854775808 then .ok (.non, ρ.set i (.own (.lst (xs.take j.toNat ++ [d] ++ xs.drop j.toNat)))) else .st
  | _, _ => .st
@[simp] theorem dIns_ap (i : Nat) (mk me : En → R D) : dIns i mk me ρ = (noer (mk ρ)).bind fun k => (noer (me ρ)).bind fun d => match k, ρ[i]? with
  | .int j, some (Sl.own (DO.lst xs)) => if xs.length < SZ ∧ 0 ≤ j ∧ j < 9223372036854775808 then .ok (.non, ρ.set i (.own (.lst (xs.take j.toNat ++ [d] ++ xs.drop j.toNat)))) else .st
  | _, _ => .st := id rfl
theorem ux_insert {i : Nat} {mk me : En → R D} (ho : PE X o (tVar i)) (hk : UE X cl WF k tk mk) (he : UE X cl WF e te me)
    (hp : PE X (.Call (.Attribute o "insert" apos) [k, e] [] cpos) (tBM X.K "list" rInsert (tVar i) (tCons tk (tCons te tNil)))) :
    UX X cl (.Call (.Attribute o "insert" apos) [k, e] [] cpos) (tBM X.K "list" rInsert (tVar i) (tCons tk (tCons te tNil))) (dIns i mk me) := by
  refine ⟨hp, fun F0 H0 F H σ ρ Q S p => ?_⟩
  unfold dIns at p
  cases e1 : mk ρ with
  | st => rw [e1] at p; exact p.elim
  | er x => rw [e1] at p; exact p.elim
  | ok dk =>
  cases e2 : me ρ with
  | st => rw [e1, e2] at p; exact p.elim
  | er x => rw [e1, e2] at p; exact p.elim
  | ok d =>
  rw [e1, e2] at p
  cases dk with
  | int j =>
    have p : PostX X.K cl F0 H0 F σ Q (match ρ[i]? with
      | some (.own (.lst xs)) => if xs.length < SZ ∧ 0 ≤ j ∧ j < 9223372036854775808 then .ok (.non, ρ.set i (.own (.lst (xs.take j.toNat ++ [d] ++ xs.drop j.toNat)))) else .st
      | _ => .st) := by
      have h : (match ρ[i]? with
        | some (.own (.lst xs)) => if xs.length < SZ ∧ 0 ≤ j ∧ j < 9223372036854775808 then R.ok (D.non, ρ.set i (.own (.lst (xs.take j.toNat ++ [d] ++ xs.drop j.toNat)))) else .st
        | _ => .st) = (match D.int j, ρ[i]? with
        | .int j, some (.own (.lst xs)) => if xs.length < SZ ∧ 0 ≤ j ∧ j < 9223372036854775808 then R.ok (D.non, ρ.set i (.own (.lst (xs.take j.toNat ++ [d] ++ xs.drop j.toNat)))) else .st
        | _, _ => .st) := by
        cases ρ[i]? with
        | none => rfl
        | some q => cases q with
          | own o => cases o <;> rfl
          | _ => rfl
      rw [h]; exact p
    split at p
    rotate_left
    · exact p.elim
    rename_i xs hi
    split at p
    rotate_left
    · exact p.elim
    rename_i hc
    obtain ⟨q, ho, h1, h2, h3, ⟨vs0, rfl, _⟩, h5⟩ := S.own i _ hi
    refine ⟨_, h1, tyV_lst h3, hk.es F0 H0 F H σ ρ _ S ?_⟩
    rw [e1]
    intro vk F1 H1 g1 r1
    refine he.es F0 H0 F1 H1 σ ρ _ (S.mono g1) ?_
    rw [e2]
    intro vd F2 H2 g2 r2
    obtain ⟨q', ho', k1, k2, k3, ⟨vs, rfl, hv⟩, k5⟩ := ((S.mono g1).mono g2).own i _ hi
    rw [h1] at k1; cases k1
    rw [r1.int_inv]
    refine ⟨q, vs, j, vd, rfl, rfl, k3, by rw [hv.length]; exact sz_lt hc.1, hc.2.1, hc.2.2, ?_⟩
    exact p .non F2 _ (g1.f.trans g2.f) (((S.mono g1).mono g2).write hi h1 ⟨_, rfl, ((hv.take _).append (Rps.cons r2 Rps.nil)).append (hv.drop _)⟩) rp_non
  | _ => exact p.elim
end
end UP
namespace L2
open PySem PySem.Spec PyProof.Rows
section
variable {X : Cx} {CX : CXT} {k : Nat} {f C : Addr} {fd : FuncData} {ps : List Str} {sp : Sp} {dvs : List V} {ds : List Value} {E : St → XK} {x m : Str} {p pos apos : Pos} {e o : Expr} {es : List Expr} {ta : TE} {t : TA}
def tMethSD (C : Addr) (m : Str) (sp : Sp) (dvs : List V) (E : St → XK) (ta : TE) (t : TA) : TE := fun σ H Q => ta σ H fun x H1 => ∃ a dx fs, x = .ref a ∧ H1 a = some (.ins C dx fs) ∧ fs.lookup m = none ∧ t σ H1 fun vs H2 => sp (x :: (vs ++ dvs)) H2 Q (E σ)
/-- o.m(e, ..), what is raised wished for at the caller's slots -/
theorem pe_methSD {pl : Sem Bool} (he : PE X o ta) (c : Cls X.K C) (hm : Meth X.K C m f) (F : FnOk X.prog X.w X.K X.mg X.base CX k f fd ps sp) (hr : Room k X.A) (hb : Binds X.K fd ps ds) (hd : Vals dvs ds) (hx : ∀ σ, PassesAt CX X σ (E σ)) (ha : PA X (e :: es) t)
    (hst : starEach (e :: es) X.env = (false, eval e X.env) :: starEach es X.env := by rfl) (hpl : (backTo pos (starEach es X.env)).any (·.1) = false := by rfl)
    (ht : eval (.Call (.Attribute o m apos) (e :: es) [] pos) X.env = (do
      let ov ← eval o X.env
      standAt apos.atName
      let (f, first) ← holding [ov] (getMethod ov m pl)
      callWith pos f first (backTo pos (starEach (e :: es) X.env)) (backToKw pos (keywordEach [] X.env))) := by rfl) :
    PE X (.Call (.Attribute o m apos) (e :: es) [] pos) (tMethSD C m sp dvs E ta t) := by
  refine ⟨fun pins s σ H Q I h => ?_⟩
  refine PySem.W.methodCall_KW (pl := pl) (thn (he.run pins s σ H _ I h) fun u s1 ⟨x, H1, I1, rx, a, dx, fs, ex, ea, l, q⟩ => ?_) ht
  subst ex
  obtain rfl : u = Value.ref a := rx
  refine getmeth_ok I1 ea c hm l ?_
  refine PySem.W.callWith_K (first := [.ref a]) (h₀ := X.base) I.ok.mod.kin hm.kp (thn (ha.run pos pins s1 σ H1 _ I1 q) fun us s2 ⟨vs, H2, I2, r, q2⟩ => ⟨I2.kIn, ?_⟩) hst hpl
  exact run_fnSD (us := .ref a :: us) (vs := .ref a :: vs) F hr hb hd (hx σ) I2 (.cons rfl r) q2
theorem pe_methSD0 {pl : Sem Bool} (he : PE X o ta) (c : Cls X.K C) (hm : Meth X.K C m f) (F : FnOk X.prog X.w X.K X.mg X.base CX k f fd ps sp) (hr : Room k X.A) (hb : Binds X.K fd ps ds) (hd : Vals dvs ds) (hx : ∀ σ, PassesAt CX X σ (E σ))
    (ht : eval (.Call (.Attribute o m apos) [] [] pos) X.env = (do
      let ov ← eval o X.env
      standAt apos.atName
      let (f, first) ← holding [ov] (getMethod ov m pl)
      callWith pos f first (backTo pos (starEach [] X.env)) (backToKw pos (keywordEach [] X.env))) := by rfl) :
    PE X (.Call (.Attribute o m apos) [] [] pos) (tMethSD C m sp dvs E ta tNil) := by
  refine ⟨fun pins s σ H Q I h => ?_⟩
  refine PySem.W.methodCall_KW (pl := pl) (thn (he.run pins s σ H _ I h) fun u s1 ⟨x, H1, I1, rx, a, dx, fs, ex, ea, l, q⟩ => ?_) ht
  subst ex
  obtain rfl : u = Value.ref a := rx
  refine getmeth_ok I1 ea c hm l ?_
  exact PySem.W.callWith_K0 (first := [.ref a]) I1.kIn hm.kp (run_fnSD (us := [.ref a]) (vs := [.ref a]) F hr hb hd (hx σ) I1 (.cons rfl .nil) q)
def tMakeSD (C : Addr) (sp : Sp) (dvs : List V) (E : St → XK) (t : TA) : TE := fun σ H Q => t σ H fun vs H1 => ∀ x dx, H1 x = none → H1 dx = none → dx ≠ x →
  sp (.ref x :: (vs ++ dvs)) (upd (upd H1 dx (.own x)) x (.ins C dx [])) (fun v H2 => v = .non ∧ Q (.ref x) H2) (E σ)
theorem run_makeSD {pins : List (Addr × Obj)} {σ : St} {H : Hp} {s : Shared} {Q : VK} {us : List Value} {vs : List V} (M : Mk X.K C f) (F : FnOk X.prog X.w X.K X.mg X.base CX k f fd ps sp) (hr : Room (k + 1) X.A) (hb : Binds X.K fd ps ds) (hd : Vals dvs ds)
    (hx : PassesAt CX X σ (E σ)) (I : Inv X pins σ H s) (r : Vals vs us)
    (h : ∀ x dx, H x = none → H dx = none → dx ≠ x → sp (.ref x :: (vs ++ dvs)) (upd (upd H dx (.own x)) x (.ins C dx [])) (fun v H2 => v = .non ∧ Q (.ref x) H2) (E σ)) :
    wpAny (model X.prog X.w) X.A (call (.ref C) us) (EP X pins σ Q) X.xe s := by
  have hq := h (s.heap.objs.size + 1) s.heap.objs.size (I.hok.fresh (Nat.le_succ _)) (I.hok.fresh (Nat.le_refl _)) (Nat.ne_of_lt (Nat.lt_succ_self _))
  have I2 := Inv.made (C := C) I
  have r2 : Vals (V.ref (s.heap.objs.size + 1) :: (vs ++ dvs)) (Value.ref (s.heap.objs.size + 1) :: (us ++ ds)) := .cons rfl (r.append hd)
  have hl : (Value.ref (s.heap.objs.size + 1) :: us ++ ds).length = ps.length := by
    have e := r2.length
    rw [F.len _ _ _ _ hq] at e
    exact e.symm
  refine wpAny_call (make_map (f := f) I.kIn M.makes M.init (beq_iff_eq.mp M.fn) (codeAny_mono (F.run _ X.stack _ _ ⟨Value.ref (s.heap.objs.size + 1) :: us, []⟩ (Value.ref (s.heap.objs.size + 1) :: (us ++ ds)) _ _ (E σ) (hr.make C us [])
    (I2.env0.make C us []) (hb _ (Value.ref (s.heap.objs.size + 1) :: us) I2.kIn hl) r2 hq) fun r s' hq' => ?_))
  cases r with
  | error e => exact hx pins _ _ e s' I2 hq'
  | ok fl =>
    cases fl with
    | ret u =>
      obtain ⟨v, H', I3, rv, ev, q3⟩ := I2.after hq'
      subst ev
      exact ⟨rv, ⟨V.ref (s.heap.objs.size + 1), H', I3, rfl, q3⟩⟩
    | next => exact False.elim hq'
    | brk => exact False.elim hq'
    | cont => exact False.elim hq'
theorem pe_makeSD (M : Mk X.K C f) (F : FnOk X.prog X.w X.K X.mg X.base CX k f fd ps sp) (hr : Room (k + 1) X.A) (hg : Gl X x) (hm : X.mg x = some (.ref C)) (hb : Binds X.K fd ps ds) (hd : Vals dvs ds) (hx : ∀ σ, PassesAt CX X σ (E σ))
    (ha : PA X (e :: es) t) (hdb : (x == ("__debug__" : Str)) = false := by decide) (he : starEach (e :: es) X.env = (false, eval e X.env) :: starEach es X.env := by rfl) (hpl : (backTo pos (starEach es X.env)).any (·.1) = false := by rfl) :
    PE X (.Call (.Name x p) (e :: es) [] pos) (tMakeSD C sp dvs E t) := by
  refine ⟨fun pins s σ H Q I h => ?_⟩
  refine wpAny_Call_Name_kw (ld_glob I hg hm ?_ hdb)
  refine PySem.W.callWith_K (h₀ := X.base) I.ok.mod.kin M.kp (thn (ha.run pos pins s σ H _ I h) fun us s1 ⟨vs, H1, I1, r, q⟩ => ⟨I1.kIn, ?_⟩) he hpl
  exact run_makeSD M F hr hb hd (hx σ) I1 r q
/-- C() of a class without an __init__ of its own -/
structure MkB (K : PySem.W.Frag) (C : Addr) : Prop where
  makes : PySem.W.makesIn K C = true
  init : PySem.W.findIn K (.ref C) "__init__" = some (some (.builtin "object.__init__"))
  kp : PySem.W.keepIn K (.ref C) = true
def tMakeB (C : Addr) : TE := fun σ H Q => ∀ x dx, H x = none → H dx = none → dx ≠ x → Q (.ref x) (upd (upd H dx (.own x)) x (.ins C dx []))
theorem pe_makeB (M : MkB X.K C) (hg : Gl X x) (hm : X.mg x = some (.ref C)) (hdb : (x == ("__debug__" : Str)) = false := by decide) : PE X (.Call (.Name x p) [] [] pos) (tMakeB C) := by
  refine ⟨fun pins s σ H Q I h => ?_⟩
  refine wpAny_Call_Name_kw (ld_glob I hg hm ?_ hdb)
  refine PySem.W.callWith_K0 I.kIn M.kp ?_
  have hq := h (s.heap.objs.size + 1) s.heap.objs.size (I.hok.fresh (Nat.le_succ _)) (I.hok.fresh (Nat.le_refl _)) (Nat.ne_of_lt (Nat.lt_succ_self _))
  have I2 := Inv.made (C := C) I
  refine wpAny_call (make_map0 I.kIn M.makes M.init (fun self => PySem.W.Looks.of_pure (PySem.W.oi_bind self)) ?_)
  have t1 : PySem.W.Looks (model X.prog X.w) ((s.heap.push PySem.W.emptyDict).push (PySem.W.instObj C s.heap.objs.size)) (typeOf (.ref (s.heap.objs.size + 1))) (.ref C) := by
    have hob : ((s.heap.push PySem.W.emptyDict).push (PySem.W.instObj C s.heap.objs.size)).get? (s.heap.objs.size + 1) = some (PySem.W.instObj C s.heap.objs.size) := by
      exact Heap.get?_push_at (by rw [Heap.size_push]) rfl
    exact (PySem.W.Looks.ld hob).andThen .now
  have Y := PySem.W.makes_of (M := model X.prog X.w) I.kIn M.makes
  have t2 : PySem.W.Looks (model X.prog X.w) ((s.heap.push PySem.W.emptyDict).push (PySem.W.instObj C s.heap.objs.size)) (isInstance (.ref (s.heap.objs.size + 1)) (.type "object")) true := t1.andThen (Y.top.keeps fun b o e => Heap.get?_push_of_some _ (Heap.get?_push_of_some _ e))
  refine codeAny_call_builtin PySem.W.oi_plain PySem.W.entry_oi (@PySem.W.check_slot (model X.prog X.w) _ _ _ "object.__init__" "object" "__init__" (.ref (s.heap.objs.size + 1)) [] [] _ PySem.W.oi_kind PySem.W.oi_split t2 (PySem.W.oi_args (.ref (s.heap.objs.size + 1))) ?_)
  rw [PySem.W.oi_run]
  exact wpAny_pure (And.intro rfl ⟨V.ref (s.heap.objs.size + 1), _, I2, rfl, hq⟩)
end
end L2
namespace UP
open PySem L2 PyProof.Rows
/-! ### objects: fields, methods, making -/
def onC {β : Type} (c : Str) (m : List D → R β) : List D → R β
  | .obj c' ns xs :: r => if c' = c then m (.obj c' ns xs :: r) else .st
  | _ => .st
/-- the method m of each class of cs: it does what the promise of that class says -/
def CalM (P : Program) (w : World) (K : PySem.W.Frag) (mg : Str → Option Value) (base : Heap) (cl : Str → Option Addr) (k n : Nat) (m : Str) (cs : List Str) (sp : Str → Sp) : Prop :=
  ∀ c ∈ cs, ∃ (C f : Addr) (fd : FuncData) (ps : List Str), cl c = some C ∧ Cls K C ∧ Meth K C m f ∧ FnOk P w K mg base (L2N.CX P w) k f fd ps (sp c) ∧ Binds K fd ps [] ∧ ps.length = n
theorem CalM.all {P : Program} {w : World} {K : PySem.W.Frag} {mg : Str → Option Value} {base : Heap} {cl : Str → Option Addr} {k n : Nat} {m : Str} {sp : Str → Sp} : ∀ {cs : List Str}, (∀ i : Fin cs.length, ∃ (C f : Addr) (fd : FuncData) (ps : List Str), cl cs[i] = some C ∧ Cls K C ∧ Meth K C m f ∧ FnOk P w K mg base (L2N.CX P w) k f fd ps (sp cs[i]) ∧ Binds K fd ps [] ∧ ps.length = n) → CalM P w K mg base cl k n m cs sp :=
  fun {cs} h c hc => by
    obtain ⟨i, hi, rfl⟩ := List.mem_iff_getElem.mp hc
    exact h ⟨i, hi⟩
theorem calM_nil {P : Program} {w : World} {K : PySem.W.Frag} {mg : Str → Option Value} {base : Heap} {cl : Str → Option Addr} {k n : Nat} {m : Str} {sp : Str → Sp} : CalM P w K mg base cl k n m [] sp := fun c h => by cases h
theorem calM_cons {P : Program} {w : World} {K : PySem.W.Frag} {mg : Str → Option Value} {base : Heap} {cl : Str → Option Addr} {k n : Nat} {m c : Str} {cs : List Str} {sp : Str → Sp} {C f : Addr} {fd : FuncData} {ps : List Str} (h1 : cl c = some C) (h2 : Cls K C) (h3 : Meth K C m f) (h4 : FnOk P w K mg base (L2N.CX P w) k f fd ps (sp c)) (h5 : Binds K fd ps []) (h6 : ps.length = n)
    (r : CalM P w K mg base cl k n m cs sp) : CalM P w K mg base cl k n m (c :: cs) sp := fun d hd => by
  rcases List.mem_cons.mp hd with e | e
  · subst e; exact ⟨C, f, fd, ps, h1, h2, h3, h4, h5, h6⟩
  · exact r d e
theorem fnok_mono {P : Program} {w : World} {K : PySem.W.Frag} {mg : Str → Option Value} {base : Heap} {CX : CXT} {k : Nat} {f : Addr} {fd : FuncData} {ps : List Str} {sp sp' : Sp} (F : FnOk P w K mg base CX k f fd ps sp) (h : ∀ vs H Q E, sp' vs H Q E → sp vs H Q E) : FnOk P w K mg base CX k f fd ps sp' :=
  ⟨fun vs H Q E q => F.len vs H Q E (h vs H Q E q), fun A outer s H args us vs Q E a b c d q => F.run A outer s H args us vs Q E a b c d (h vs H Q E q)⟩
section
variable {K : PySem.W.Frag} {cl : Str → Option Addr} {n : Nat} {c : Str}
theorem onC_eq {β : Type} {m run : List D → R β} (h : ∀ ns xs r, m (.obj c ns xs :: r) = run (.obj c ns xs :: r)) (ds : List D) : onC c m ds = .st ∨ onC c m ds = run ds := by
  cases ds with
  | nil => exact .inl rfl
  | cons d r =>
    cases d with
    | obj c' ns xs =>
      show (if c' = c then _ else _) = _ ∨ (if c' = c then _ else _) = _
      by_cases e : c' = c
      · subst e; rw [if_pos rfl]; exact .inr (h ns xs r)
      · rw [if_neg e]; exact .inl rfl
    | _ => exact .inl rfl
theorem spV_onC {m run : List D → R D} (h : ∀ ns xs r, m (.obj c ns xs :: r) = run (.obj c ns xs :: r)) : ∀ vs H Q E, spV K cl n (onC c m) vs H Q E → spV K cl n run vs H Q E := fun vs H Q E ⟨ds, F, h1, h2, h3, p⟩ => by
  rcases onC_eq h ds with e | e
  · rw [e] at p; exact p.elim
  · rw [e] at p; exact ⟨ds, F, h1, h2, h3, p⟩
theorem spN_onC {m run : List D → R DO} (h : ∀ ns xs r, m (.obj c ns xs :: r) = run (.obj c ns xs :: r)) : ∀ vs H Q E, spN K cl n (onC c m) vs H Q E → spN K cl n run vs H Q E := fun vs H Q E ⟨ds, F, h1, h2, h3, p⟩ => by
  rcases onC_eq h ds with e | e
  · rw [e] at p; exact p.elim
  · rw [e] at p; exact ⟨ds, F, h1, h2, h3, p⟩
end
theorem lookup_zip_none {m : Str} : ∀ {ns : List Str} {vs : List V}, m ∉ ns → (ns.zip vs).lookup m = none
  | [], vs, _ => rfl
  | n :: ns, [], _ => rfl
  | n :: ns, v :: vs, h => by
    rw [List.zip_cons_cons, List.lookup_cons]
    have h1 : (m == n) = false := beq_eq_false_iff_ne.mpr fun e => h (by simp [e])
    rw [h1]
    exact lookup_zip_none fun z => h (by simp [z])
def dFind (f : Str) : List Str → List D → Option D
  | n :: ns, x :: xs => if f = n then some x else dFind f ns xs
  | _, _ => none
theorem dFind_ok {K : PySem.W.Frag} {cl : Str → Option Addr} {F : Hp} {f : Str} : ∀ {ns : List Str} {vs : List V} {xs : List D} {x : D}, ns.length = vs.length → Rps K cl F vs xs → dFind f ns xs = some x → ∃ v, (ns.zip vs).lookup f = some v ∧ Rp K cl F v x
  | [], vs, xs, x, _, _, h => by cases xs <;> cases h
  | n :: ns, vs, [], x, _, _, h => by cases h
  | n :: ns, vs, y :: xs, x, hl, r, h => by
    obtain ⟨v, r', rfl, h1, h2⟩ := r.cons_inv
    rw [List.zip_cons_cons, List.lookup_cons]
    unfold dFind at h
    by_cases e : f = n
    · subst e
      rw [if_pos rfl] at h; cases h
      rw [beq_self_eq_true]
      exact ⟨v, rfl, h1⟩
    · rw [if_neg e] at h
      rw [beq_eq_false_iff_ne.mpr e]
      exact dFind_ok (by simpa using hl) h2 h
section
variable {α : Type} {X : Cx} {cl : Str → Option Addr} {W : WX} {K : PySem.W.Frag} {F0 H0 F H F' H' : Hp} {σ : L2.St} {ρ : En} {mp : List (Nat × Addr)} {RP : RPt α} {Dn : Ends} {e o : Expr} {te to : TE} {pos apos cpos pos' p : Pos} {es : List Expr} {t : TA} {m f x : Str} {k n : Nat} {cs : List Str}
/-- the facts of a field -/
def FldOk (K : PySem.W.Frag) (cl : Str → Option Addr) (cs : List Str) (f : Str) : Prop := ∀ c ∈ cs, ∃ C, cl c = some C ∧ Cls K C ∧ NoAttr K C f
theorem fldOk_nil : FldOk K cl [] f := fun c h => by cases h
theorem fldOk_cons {c : Str} {C : Addr} (h1 : cl c = some C) (h2 : Cls K C) (h3 : NoAttr K C f) (r : FldOk K cl cs f) : FldOk K cl (c :: cs) f := fun d hd => by
  rcases List.mem_cons.mp hd with e | e
  · subst e; exact ⟨C, h1, h2, h3⟩
  · exact r d e
def dFld (cs : List Str) (f : Str) : D → R D
  | .obj c ns xs => if c ∈ cs then match dFind f ns xs with
    | some x => .ok x
    | none => .st
    else .st
  | _ => .st
theorem ue_fld {me : En → R D} (hf : FldOk X.K cl cs f) (he : UE X cl W e te me) (hb : attributeBase e f X.env (eval e X.env) = eval e X.env := by rfl) : UE X cl W (.Attribute e f pos) (tFld X.K te f) (d1 (dFld cs f) me) := by
  refine ⟨pe_fld he.pe hb, fun F0 H0 F H σ ρ Q S p => he.es F0 H0 F H σ ρ _ S ?_⟩
  unfold d1 at p
  cases e1 : me ρ with
  | st => rw [e1] at p; exact p
  | er x => rw [e1] at p; exact p
  | ok d =>
    rw [e1, R.bind_ok] at p
    intro v F1 H1 g r
    cases d with
    | obj c ns xs =>
      have p : Post X.K cl W σ F H Q (if c ∈ cs then match dFind f ns xs with | some x => .ok x | none => .st else .st) := p
      split at p
      rotate_left
      · exact p.elim
      rename_i hc
      split at p
      rotate_left
      · exact p.elim
      rename_i x hx
      obtain ⟨C, h1, h2, h3⟩ := hf c hc
      unfold Rp at r
      obtain ⟨a, C', dx, vs, rfl, k1, k2, k3, k4⟩ := r
      rw [h1] at k1; cases k1
      obtain ⟨v, q1, q2⟩ := dFind_ok k3 k4 hx
      exact ⟨a, C, dx, _, v, rfl, g.s _ _ k2, h2, h3, q1, p v F1 H1 g q2⟩
    | _ => exact p.elim
/-- o.m(..) -/
def dMeth {β : Type} (m : Str) (cs : List Str) (vm : List D → R β) (mo : En → R D) (ma : En → R (List D)) : En → R β := fun ρ => (mo ρ).bind fun x => match x with
  | .obj c ns xs => if c ∈ cs ∧ m ∉ ns then (ma ρ).bind fun ds => vm (.obj c ns xs :: ds) else .st
  | _ => .st
def tMethA (cl : Str → Option Addr) (cs : List Str) (m : Str) (sp : Str → Sp) (E : L2.St → XK) (to : TE) (t : TA) : TE := fun σ H Q => ∃ c C, c ∈ cs ∧ cl c = some C ∧ tMethSD C m (sp c) [] E to t σ H Q
/-- the promise's reading, from what is wanted of the mirror -/
theorem es_meth {β : Type} {mo : En → R D} {ma : En → R (List D)} {vm : List D → R β} {sp : Str → Sp} {po : R β → Prop} (hcs : ∃ c C, c ∈ cs ∧ cl c = some C) (hcl : ∀ c ∈ cs, ∃ C, cl c = some C)
    (S : Sr K cl F0 H0 F H σ ρ) (Q : VK) (ho : ∀ F0 H0 F H σ ρ Q, Sr K cl F0 H0 F H σ ρ → Post K cl W σ F H Q (mo ρ) → to σ H Q) (ha : ∀ F0 H0 F H σ ρ Q, Sr K cl F0 H0 F H σ ρ → PostA K cl W σ F H Q (ma ρ) → t σ H Q)
    (hst : ¬ po .st) (her : ∀ x, po (.er x) → ∀ cls dd F' H', Grow F H F' H' → ExR K cl F' x cls dd → W cls dd σ H')
    (hsp : ∀ c C ns xs ds vs F1 H1, c ∈ cs → cl c = some C → Grow F H F1 H1 → Rps K cl F1 vs (.obj c ns xs :: ds) → (∃ e, ma ρ = .ok e ∧ e = ds) → po (vm (.obj c ns xs :: ds)) → sp c vs H1 Q (WE W σ))
    (p : po (dMeth m cs vm mo ma ρ)) : tMethA cl cs m sp (WE W) to t σ H Q := by
  unfold dMeth at p
  cases e1 : mo ρ with
  | st => rw [e1] at p; exact absurd p hst
  | er x =>
    rw [e1] at p
    obtain ⟨c, C, hc, hC⟩ := hcs
    exact ⟨c, C, hc, hC, ho F0 H0 F H σ ρ _ S (by rw [e1]; exact her x p)⟩
  | ok d =>
    rw [e1, R.bind_ok] at p
    cases d with
    | obj c ns xs =>
      have p : po (if c ∈ cs ∧ m ∉ ns then (ma ρ).bind fun ds => vm (.obj c ns xs :: ds) else .st) := p
      by_cases hc : c ∈ cs ∧ m ∉ ns
      rotate_left
      · rw [if_neg hc] at p; exact absurd p hst
      rw [if_pos hc] at p
      obtain ⟨C, hC⟩ := hcl c hc.1
      refine ⟨c, C, hc.1, hC, ho F0 H0 F H σ ρ _ S ?_⟩
      rw [e1]
      intro v F1 H1 g r
      have r0 := r
      unfold Rp at r
      obtain ⟨a, C', dx, vs, rfl, k1, k2, k3, k4⟩ := r
      rw [hC] at k1; cases k1
      refine ⟨a, dx, _, rfl, g.s _ _ k2, lookup_zip_none hc.2, ha F0 H0 F1 H1 σ ρ _ (S.mono g) ?_⟩
      cases e2 : ma ρ with
      | st => rw [e2] at p; exact absurd p hst
      | er x => rw [e2] at p; exact fun cls dd F2 H2 g2 q => her x p cls dd F2 H2 (g.trans g2) q
      | ok ds =>
        rw [e2, R.bind_ok] at p
        intro us F2 H2 g2 r2
        rw [List.append_nil]
        exact hsp c C ns xs ds _ F2 H2 hc.1 hC (g.trans g2) (Rps.cons (r0.mono g2.f) r2) ⟨ds, e2, rfl⟩ p
    | _ => exact absurd p hst
theorem calM_cl {P : Program} {w : World} {mg : Str → Option Value} {base : Heap} {sp : Str → Sp} (G : CalM P w K mg base cl k n m cs sp) : ∀ c ∈ cs, ∃ C, cl c = some C := fun c hc => by
  obtain ⟨C, _, _, _, h, _⟩ := G c hc; exact ⟨C, h⟩
theorem calM_some {P : Program} {w : World} {mg : Str → Option Value} {base : Heap} {sp : Str → Sp} (G : CalM P w K mg base cl k n m cs sp) (h : cs ≠ []) : ∃ c C, c ∈ cs ∧ cl c = some C := by
  cases hcs : cs with
  | nil => exact absurd hcs h
  | cons c r =>
    obtain ⟨C, hC⟩ := calM_cl G c (by rw [hcs]; simp)
    exact ⟨c, C, by simp, hC⟩
theorem onC_of {β : Type} {c : Str} {vm : List D → R β} {ns : List Str} {xs ds : List D} : onC c vm (.obj c ns xs :: ds) = vm (.obj c ns xs :: ds) := if_pos rfl
theorem pe_methA {pl : Sem Bool} {sp : Str → Sp} (G : CalM X.prog X.w X.K X.mg X.base cl k n m cs sp) (hr : Room k X.A) (tk : L2N.Takes X W) (ho : PE X o to) (ha : PA X (e :: es) t)
    (hst : starEach (e :: es) X.env = (false, eval e X.env) :: starEach es X.env := by rfl) (hpl : (backTo pos (starEach es X.env)).any (·.1) = false := by rfl)
    (ht : eval (.Call (.Attribute o m apos) (e :: es) [] pos) X.env = (do
      let ov ← eval o X.env
      standAt apos.atName
      let (f, first) ← holding [ov] (getMethod ov m pl)
      callWith pos f first (backTo pos (starEach (e :: es) X.env)) (backToKw pos (keywordEach [] X.env))) := by rfl) :
    PE X (.Call (.Attribute o m apos) (e :: es) [] pos) (tMethA cl cs m sp (WE W) to t) := by
  refine ⟨fun pins s σ H Q I ⟨c, C, hc, hC, h⟩ => ?_⟩
  obtain ⟨C', f, fd, ps, h1, h2, h3, h4, h5, h6⟩ := G c hc
  rw [hC] at h1; cases h1
  exact (pe_methSD (pl := pl) ho h2 h3 h4 hr h5 .nil (fun σ => L2N.passAt tk σ) ha hst hpl ht).run pins s σ H Q I h
theorem pe_methA0 {pl : Sem Bool} {sp : Str → Sp} (G : CalM X.prog X.w X.K X.mg X.base cl k n m cs sp) (hr : Room k X.A) (tk : L2N.Takes X W) (ho : PE X o to)
    (ht : eval (.Call (.Attribute o m apos) [] [] pos) X.env = (do
      let ov ← eval o X.env
      standAt apos.atName
      let (f, first) ← holding [ov] (getMethod ov m pl)
      callWith pos f first (backTo pos (starEach [] X.env)) (backToKw pos (keywordEach [] X.env))) := by rfl) :
    PE X (.Call (.Attribute o m apos) [] [] pos) (tMethA cl cs m sp (WE W) to tNil) := by
  refine ⟨fun pins s σ H Q I ⟨c, C, hc, hC, h⟩ => ?_⟩
  obtain ⟨C', f, fd, ps, h1, h2, h3, h4, h5, h6⟩ := G c hc
  rw [hC] at h1; cases h1
  exact (pe_methSD0 (pl := pl) ho h2 h3 h4 hr h5 .nil (fun σ => L2N.passAt tk σ) ht).run pins s σ H Q I h
theorem post_spV {vm : List D → R D} {c : Str} {Q : VK} {vs : List V} {ns : List Str} {xs ds : List D} {F1 H1 : Hp} (g : Grow F H F1 H1) (r : Rps K cl F1 vs (.obj c ns xs :: ds)) (hl : ds.length + 1 = n) (p : Post K cl W σ F H Q (vm (.obj c ns xs :: ds))) : spV K cl n (onC c vm) vs H1 Q (WE W σ) := by
  refine ⟨_, F1, g.s, r, by rw [r.length]; exact hl, ?_⟩
  rw [onC_of]
  cases e : vm (.obj c ns xs :: ds) with
  | st => rw [e] at p; exact p
  | er x => rw [e] at p; exact fun c d F2 H2 g2 q => p c d F2 H2 (g.trans g2) q
  | ok d => rw [e] at p; exact fun v F2 H2 g2 q => p v F2 H2 (g.trans g2) q
theorem post_spN {vm : List D → R DO} {c : Str} {Q : VK} {vs : List V} {ns : List Str} {xs ds : List D} {F1 H1 : Hp} (g : Grow F H F1 H1) (r : Rps K cl F1 vs (.obj c ns xs :: ds)) (hl : ds.length + 1 = n) (p : PostN K cl W σ F H Q (vm (.obj c ns xs :: ds))) : spN K cl n (onC c vm) vs H1 Q (WE W σ) := by
  refine ⟨_, F1, g.s, r, by rw [r.length]; exact hl, ?_⟩
  rw [onC_of]
  cases e : vm (.obj c ns xs :: ds) with
  | st => rw [e] at p; exact p
  | er x => rw [e] at p; exact fun c d F2 H2 g2 q => p c d F2 H2 (g.trans g2) q
  | ok o => rw [e] at p; exact fun q ho F2 H2 g2 h0 h1 h2 h3 => p q ho F2 H2 (g.trans g2) (g.old q h0) h1 h2 h3
theorem ue_meth {mo : En → R D} {ma : En → R (List D)} {vm : List D → R D} {pl : Sem Bool} (G : CalM X.prog X.w X.K X.mg X.base cl k n m cs (fun c => spV X.K cl n (onC c vm))) (hne : cs ≠ []) (hr : Room k X.A) (tk : L2N.Takes X W) (ho : UE X cl W o to mo) (ha : UA X cl W (e :: es) t ma) (hl : ∀ ρ ds, ma ρ = .ok ds → ds.length + 1 = n)
    (hst : starEach (e :: es) X.env = (false, eval e X.env) :: starEach es X.env := by rfl) (hpl : (backTo pos (starEach es X.env)).any (·.1) = false := by rfl)
    (ht : eval (.Call (.Attribute o m apos) (e :: es) [] pos) X.env = (do
      let ov ← eval o X.env
      standAt apos.atName
      let (f, first) ← holding [ov] (getMethod ov m pl)
      callWith pos f first (backTo pos (starEach (e :: es) X.env)) (backToKw pos (keywordEach [] X.env))) := by rfl) :
    UE X cl W (.Call (.Attribute o m apos) (e :: es) [] pos) (tMethA cl cs m (fun c => spV X.K cl n (onC c vm)) (WE W) to t) (dMeth m cs vm mo ma) :=
  ⟨pe_methA (pl := pl) G hr tk ho.pe ha.pe hst hpl ht, fun F0 H0 F H σ ρ Q S p => es_meth (po := Post X.K cl W σ F H Q) (calM_some G hne) (calM_cl G) S Q ho.es ha.es (fun h => h) (fun x h => h)
    (fun c C ns xs ds vs F1 H1 hc hC g r ⟨e, h1, h2⟩ p => post_spV g r (hl ρ ds (h2 ▸ h1)) p) p⟩
theorem un_meth {mo : En → R D} {ma : En → R (List D)} {vm : List D → R DO} {pl : Sem Bool} (G : CalM X.prog X.w X.K X.mg X.base cl k n m cs (fun c => spN X.K cl n (onC c vm))) (hne : cs ≠ []) (hr : Room k X.A) (tk : L2N.Takes X W) (ho : UE X cl W o to mo) (ha : UA X cl W (e :: es) t ma) (hl : ∀ ρ ds, ma ρ = .ok ds → ds.length + 1 = n)
    (hst : starEach (e :: es) X.env = (false, eval e X.env) :: starEach es X.env := by rfl) (hpl : (backTo pos (starEach es X.env)).any (·.1) = false := by rfl)
    (ht : eval (.Call (.Attribute o m apos) (e :: es) [] pos) X.env = (do
      let ov ← eval o X.env
      standAt apos.atName
      let (f, first) ← holding [ov] (getMethod ov m pl)
      callWith pos f first (backTo pos (starEach (e :: es) X.env)) (backToKw pos (keywordEach [] X.env))) := by rfl) :
    UN X cl W (.Call (.Attribute o m apos) (e :: es) [] pos) (tMethA cl cs m (fun c => spN X.K cl n (onC c vm)) (WE W) to t) (dMeth m cs vm mo ma) :=
  ⟨pe_methA (pl := pl) G hr tk ho.pe ha.pe hst hpl ht, fun F0 H0 F H σ ρ Q S p => es_meth (po := PostN X.K cl W σ F H Q) (calM_some G hne) (calM_cl G) S Q ho.es ha.es (fun h => h) (fun x h => h)
    (fun c C ns xs ds vs F1 H1 hc hC g r ⟨e, h1, h2⟩ p => post_spN g r (hl ρ ds (h2 ▸ h1)) p) p⟩
theorem ue_meth0 {mo : En → R D} {vm : List D → R D} {pl : Sem Bool} (G : CalM X.prog X.w X.K X.mg X.base cl k 1 m cs (fun c => spV X.K cl 1 (onC c vm))) (hne : cs ≠ []) (hr : Room k X.A) (tk : L2N.Takes X W) (ho : UE X cl W o to mo)
    (ht : eval (.Call (.Attribute o m apos) [] [] pos) X.env = (do
      let ov ← eval o X.env
      standAt apos.atName
      let (f, first) ← holding [ov] (getMethod ov m pl)
      callWith pos f first (backTo pos (starEach [] X.env)) (backToKw pos (keywordEach [] X.env))) := by rfl) :
    UE X cl W (.Call (.Attribute o m apos) [] [] pos) (tMethA cl cs m (fun c => spV X.K cl 1 (onC c vm)) (WE W) to tNil) (dMeth m cs vm mo dNil) :=
  ⟨pe_methA0 (pl := pl) G hr tk ho.pe ht, fun F0 H0 F H σ ρ Q S p => es_meth (po := Post X.K cl W σ F H Q) (calM_some G hne) (calM_cl G) S Q ho.es ua_nil.es (fun h => h) (fun x h => h)
    (fun c C ns xs ds vs F1 H1 hc hC g r ⟨e, h1, h2⟩ p => post_spV g r (dNil_len1 ρ ds (h2 ▸ h1)) p) p⟩
theorem un_meth0 {mo : En → R D} {vm : List D → R DO} {pl : Sem Bool} (G : CalM X.prog X.w X.K X.mg X.base cl k 1 m cs (fun c => spN X.K cl 1 (onC c vm))) (hne : cs ≠ []) (hr : Room k X.A) (tk : L2N.Takes X W) (ho : UE X cl W o to mo)
    (ht : eval (.Call (.Attribute o m apos) [] [] pos) X.env = (do
      let ov ← eval o X.env
      standAt apos.atName
      let (f, first) ← holding [ov] (getMethod ov m pl)
      callWith pos f first (backTo pos (starEach [] X.env)) (backToKw pos (keywordEach [] X.env))) := by rfl) :
    UN X cl W (.Call (.Attribute o m apos) [] [] pos) (tMethA cl cs m (fun c => spN X.K cl 1 (onC c vm)) (WE W) to tNil) (dMeth m cs vm mo dNil) :=
  ⟨pe_methA0 (pl := pl) G hr tk ho.pe ht, fun F0 H0 F H σ ρ Q S p => es_meth (po := PostN X.K cl W σ F H Q) (calM_some G hne) (calM_cl G) S Q ho.es ua_nil.es (fun h => h) (fun x h => h)
    (fun c C ns xs ds vs F1 H1 hc hC g r ⟨e, h1, h2⟩ p => post_spN g r (dNil_len1 ρ ds (h2 ▸ h1)) p) p⟩
@[simp] theorem dMeth_ap {β : Type} (vm : List D → R β) (mo : En → R D) (ma : En → R (List D)) : dMeth m cs vm mo ma ρ = (mo ρ).bind fun x => match x with
  | .obj c ns xs => if c ∈ cs ∧ m ∉ ns then (ma ρ).bind fun ds => vm (.obj c ns xs :: ds) else .st
  | _ => .st := id rfl
@[simp] theorem dFld_obj (c : Str) (ns : List Str) (xs : List D) : dFld cs f (.obj c ns xs) = if c ∈ cs then match dFind f ns xs with
    | some x => .ok x
    | none => .st
    else .st := id rfl
end
end UP
namespace UP
open PySem L2 PyProof.Rows
/-! ### constructors -/
def PostIn (K : PySem.W.Frag) (cl : Str → Option Addr) (F H : Hp) (p : Addr) (Q : VK) (E : XK) : R D → Prop
  | .ok d => ∀ F' H', Grow F (dl H p) F' H' → Rp K cl F' (.ref p) d → Q .non H'
  | .er x => ∀ cls dd F' H', Grow F (dl H p) F' H' → ExR K cl F' x cls dd → E cls dd H'
  | .st => False
def spI (K : PySem.W.Frag) (cl : Str → Option Addr) (n : Nat) (m : Str → List D → R D) : Sp := fun vs H Q E => ∃ c C dx ds F us p, cl c = some C ∧ Ex F H ∧ Rps K cl F us ds ∧ vs = .ref p :: us ∧ vs.length = n ∧ F p = none ∧ H p = some (.ins C dx []) ∧ PostIn K cl F H p Q E (m c ds)
def startI (c : Str) (n : Nat) (ds : List D) : En := .own (.ins c [] []) :: (ds.map Sl.val ++ List.replicate (n - ds.length - 1) .un)
def objAt (ρ : En) : R D := match (frzE 0 ρ : List Sl)[0]? with
  | some (Sl.val (D.obj c ns xs)) => .ok (.obj c ns xs)
  | _ => .st
def flI : Fl D → R D
  | .nx ρ => objAt ρ
  | .er x _ => .er x
  | _ => .st
def runI (n : Nat) (mb : En → Fl D) (c : Str) (ds : List D) : R D := flI (mb (startI c n ds))
theorem runI_ap (n : Nat) (mb : En → Fl D) (c : Str) (ds : List D) : runI n mb c ds = flI (mb (startI c n ds)) := id rfl
@[simp] theorem flI_nx (ρ : En) : flI (.nx ρ) = objAt ρ := id rfl
@[simp] theorem flI_st : flI .st = .st := id rfl
@[simp] theorem flI_er (x : Exc) (ρ : En) : flI (.er x ρ) = .er x := id rfl
@[simp] theorem objAt_ins (c : Str) (ns : List Str) (xs : List D) (ρ : En) : objAt (.own (.ins c ns xs) :: ρ) = .ok (.obj c ns xs) := id rfl
@[simp] theorem objAt_obj (c : Str) (ns : List Str) (xs : List D) (ρ : En) : objAt (.val (.obj c ns xs) :: ρ) = .ok (.obj c ns xs) := id rfl
section
variable {P : Program} {w : World} {K : PySem.W.Frag} {mg : Str → Option Value} {base : Heap} {cl : Str → Option Addr}
theorem sr_startI {F H : Hp} {N : List Str} {us : List V} {ds : List D} {p : Addr} {c : Str} {C dx : Addr} (e : Ex F H) (r : Rps K cl F us ds) (hl : us.length + 1 ≤ N.length) (hf : F p = none) (hC : cl c = some C) (hp : H p = some (.ins C dx [])) :
    Sr K cl F (dl H p) F H (L2.start N (.ref p :: us)) (startI c N.length ds) ∧ (L2.start N (.ref p :: us))[0]? = some (some (.ref p)) := by
  have hlen := r.length
  have g : Grow F (dl H p) F H := ⟨Ex.refl _, e, dl_ex, fun _ _ _ z => z⟩
  have hs : (L2.start N (.ref p :: us))[0]? = some (some (.ref p)) := rfl
  have at_ : ∀ {i : Nat} {q : Sl}, (startI c N.length ds)[i]? = some q → (i = 0 ∧ q = .own (.ins c [] [])) ∨ (∃ j d, i = j + 1 ∧ ds[j]? = some d ∧ q = .val d) ∨ q = .un := fun {i q} h => by
    unfold startI at h
    cases i with
    | zero =>
      have h : some (Sl.own (.ins c [] [])) = some q := h
      cases h
      exact .inl ⟨rfl, rfl⟩
    | succ j =>
      rw [List.getElem?_cons_succ] at h
      by_cases h1 : j < ds.length
      · rw [List.getElem?_append_left (by simpa using h1), List.getElem?_map] at h
        cases q2 : ds[j]? with
        | none => rw [q2] at h; cases h
        | some d => rw [q2] at h; cases h; exact .inr (.inl ⟨j, d, rfl, q2, rfl⟩)
      · rw [List.getElem?_append_right (by simpa using h1)] at h
        exact .inr (.inr (List.eq_of_mem_replicate (List.mem_of_getElem? h)))
  refine ⟨⟨g, ?_, fun i d h => ?_, fun i o' h => ?_, fun i j o1 o2 q e1 e2 _ _ => ?_, trOk_none fun i t h => ?_⟩, hs⟩
  · unfold L2.start startI; simp; omega
  · rcases at_ h with ⟨h1, h2⟩ | ⟨j, d', rfl, h2, h3⟩ | h1
    · cases h2
    · cases h3
      obtain ⟨v, hv, rv⟩ := r.get h2
      refine ⟨v, ?_, rv⟩
      have hj : j < us.length := (List.getElem?_eq_some_iff.mp hv).1
      unfold L2.start
      rw [List.getElem?_append_left (by simp; omega), List.getElem?_map, List.getElem?_cons_succ, hv]
      rfl
    · cases h1
  · rcases at_ h with ⟨h1, h2⟩ | ⟨j, d', rfl, h2, h3⟩ | h1
    · cases h2; subst h1
      exact ⟨p, _, hs, hf, hp, ⟨C, dx, [], hC, rfl, rfl, Rps.nil⟩, dl_same⟩
    · cases h3
    · cases h1
  · rcases at_ e1 with ⟨h1, _⟩ | ⟨_, _, _, _, h3⟩ | h1
    · rcases at_ e2 with ⟨h2, _⟩ | ⟨_, _, _, _, h3⟩ | h2
      · rw [h1, h2]
      · cases h3
      · cases h2
    · cases h3
    · cases h1
  · rcases at_ h with ⟨h1, h2⟩ | ⟨j, d', rfl, h2, h3⟩ | h1
    · cases h2
    · cases h3
    · cases h1
theorem def_I {x qual : Str} {st : Stmt} {f : Addr} {fd : FuncData} {N ps : List Str} {k : Nat} {mb : En → Fl D} (F : Fun K x qual st f fd) (S : FnScope N ps (defScope st)) (hn : ps.length ≤ N.length)
    (hb : ∀ (p : Addr) (cdv : Value) (A : Around) (outer : List Env) (s : Shared) (H : Hp) (E : XK), Room k (A.deeper (envOfC qual (defScope st) s.heap.objs.size f cdv)) →
      ∃ t, USs (cxOf (L2N.CX P w) P w K mg base N qual (defScope st) f cdv A outer s H E) cl (WD E) [(0, p)] (RPV K cl [(0, p)]) (defBody st) t mb) : FnOk P w K mg base (L2N.CX P w) (k + 1) f fd ps (spI K cl ps.length (runI N.length mb)) := by
  refine okXN F S (fun vs H Q E ⟨c, C, dx, ds, F, us, p, _, _, _, _, h, _⟩ => h) (fun cdv A outer s H vs Q E hr h => ?_)
  obtain ⟨c, C, dx, ds, Fh, us, p, hC, ex, r, rfl, hl, hf, hp, post⟩ := h
  obtain ⟨t, U⟩ := hb p cdv A outer s H E hr
  obtain ⟨S0, hs⟩ := sr_startI (K := K) (cl := cl) (N := N) (p := p) ex r (by simp at hl; omega) hf hC hp
  have pin0 : Pin [(0, p)] (L2.start N (.ref p :: us)) := fun q hq => by
    have : q = (0, p) := by simpa using hq
    subst this; exact hs
  refine ⟨t, U.pe, U.es Fh (dl H p) Fh H _ _ _ S0 pin0 ?_⟩
  unfold runI at post
  cases e : mb (startI c N.length ds) with
  | nx ρ =>
    rw [e, flI_nx] at post
    intro σ F' H' _ S' P'
    obtain ⟨F2, ex2, S2⟩ := S'.frz 0
    unfold objAt at post
    split at post
    · rename_i c' ns xs ho
      obtain ⟨v, k1, k2⟩ := S2.val 0 _ ho
      have := P' (0, p) (by simp)
      simp only at this
      rw [k1] at this
      cases this
      exact post F2 H' S2.grow k2
    · exact post.elim
  | rt d ρ => rw [e] at post; exact post.elim
  | bk ρ => rw [e] at post; exact post.elim
  | ct ρ => rw [e] at post; exact post.elim
  | er x ρ =>
    rw [e, flI_er] at post
    exact fun c d σ F' H' _ S' _ r' => post c d F' H' S'.grow r'
  | st => rw [e] at post; exact post.elim
theorem fnok_noI {k n : Nat} {f : Addr} {fd : FuncData} {ps : List Str} : FnOk P w K mg base (L2N.CX P w) k f fd ps (spI K cl n fun _ _ => .st) := fnok_no fun vs H Q E ⟨_, _, _, _, _, _, _, _, _, _, _, _, _, _, q⟩ => q
end
/-- making by the class x -/
def CalI (P : Program) (w : World) (K : PySem.W.Frag) (mg : Str → Option Value) (base : Heap) (cl : Str → Option Addr) (k : Nat) (x : Str) (n : Nat) (sp : Sp) : Prop :=
  ∃ (C f : Addr) (fd : FuncData) (ps : List Str), cl x = some C ∧ mg x = some (.ref C) ∧ Mk K C f ∧ FnOk P w K mg base (L2N.CX P w) k f fd ps sp ∧ Binds K fd ps [] ∧ ps.length = n
def CalB (K : PySem.W.Frag) (mg : Str → Option Value) (cl : Str → Option Addr) (x : Str) : Prop := ∃ C : Addr, cl x = some C ∧ mg x = some (.ref C) ∧ MkB K C
theorem make_grow {F H F' H' : Hp} {a dx : Addr} {o o' : HO} (h1 : H a = none) (h2 : H dx = none) (g : Grow F (dl (upd (upd H dx o') a o) a) F' H') : Grow F H F' H' := by
  have at_ : ∀ b u, H b = some u → dl (upd (upd H dx o') a o) a b = some u := fun b u e => by
    rw [dl_ne (ne_of_none e h1), upd_ne (ne_of_none e h1), upd_ne (ne_of_none e h2)]; exact e
  exact ⟨g.f, g.s, fun b u e => g.h b u (at_ b u e), fun b u e z => g.n b u (at_ b u e) z⟩
section
variable {α : Type} {X : Cx} {cl : Str → Option Addr} {W : WX} {K : PySem.W.Frag} {F0 H0 F H F' H' : Hp} {σ : L2.St} {ρ : En} {mp : List (Nat × Addr)} {RP : RPt α} {Dn : Ends} {e o : Expr} {te to : TE} {pos apos cpos pos' p : Pos} {es : List Expr} {t : TA} {m f x : Str} {k n : Nat} {cs : List Str}
def tMakeA (cl : Str → Option Addr) (x : Str) (sp : Sp) (E : L2.St → XK) (t : TA) : TE := fun σ H Q => ∃ C, cl x = some C ∧ tMakeSD C sp [] E t σ H Q
def dMake (x : Str) (m : Str → List D → R D) (ma : En → R (List D)) : En → R D := fun ρ => (ma ρ).bind (m x)
@[simp] theorem dMake_ap (x : Str) (m : Str → List D → R D) (ma : En → R (List D)) : dMake x m ma ρ = (ma ρ).bind (m x) := id rfl
theorem ue_make {m : Str → List D → R D} {ma : En → R (List D)} (G : CalI X.prog X.w X.K X.mg X.base cl k x n (spI X.K cl n m)) (hr : Room (k + 1) X.A) (tk : L2N.Takes X W) (ha : UA X cl W (e :: es) t ma) (hl : ∀ ρ ds, ma ρ = .ok ds → ds.length + 1 = n) (hg : Gl X x := by rfl)
    (hdb : (x == ("__debug__" : Str)) = false := by decide) (he : starEach (e :: es) X.env = (false, eval e X.env) :: starEach es X.env := by rfl) (hpl : (backTo pos (starEach es X.env)).any (·.1) = false := by rfl) :
    UE X cl W (.Call (.Name x p) (e :: es) [] pos) (tMakeA cl x (spI X.K cl n m) (WE W) t) (dMake x m ma) := by
  obtain ⟨C, f, fd, ps, hC, hm, M, Fo, hb, hps⟩ := G
  refine ⟨⟨fun pins s σ H Q I ⟨C', hC', h⟩ => ?_⟩, fun F0 H0 F H σ ρ Q S p => ⟨C, hC, ha.es F0 H0 F H σ ρ _ S ?_⟩⟩
  · rw [hC] at hC'; cases hC'
    exact (pe_makeSD M Fo hr hg hm hb .nil (fun σ => L2N.passAt tk σ) ha.pe hdb he hpl).run pins s σ H Q I h
  · unfold dMake at p
    cases e1 : ma ρ with
    | st => rw [e1] at p; exact p
    | er x => rw [e1] at p; exact p
    | ok ds =>
      rw [e1, R.bind_ok] at p
      intro vs F1 H1 g r a dx h1 h2 hne
      have hF1 : F1 a = none := by
        cases q : F1 a with
        | none => rfl
        | some u => have := g.s _ _ q; rw [h1] at this; cases this
      refine ⟨x, C, dx, ds, F1, vs, a, hC, fun b u z => ?_, r, by rw [List.append_nil], by rw [List.append_nil]; simp [r.length, hl ρ ds e1], hF1, upd_same, ?_⟩
      · have := g.s _ _ z
        rw [upd_ne (ne_of_none this h1), upd_ne (ne_of_none this h2)]; exact this
      · cases e2 : m x ds with
        | st => rw [e2] at p; exact p
        | er y => rw [e2] at p; exact fun c d F2 H2 g2 q => p c d F2 H2 (g.trans (make_grow h1 h2 g2)) q
        | ok d => rw [e2] at p; exact fun F2 H2 g2 q => ⟨rfl, p _ F2 H2 (g.trans (make_grow h1 h2 g2)) q⟩
def tMakeBA (cl : Str → Option Addr) (x : Str) : TE := fun σ H Q => ∃ C, cl x = some C ∧ tMakeB C σ H Q
theorem ue_makeB (G : CalB X.K X.mg cl x) (hg : Gl X x := by rfl) (hdb : (x == ("__debug__" : Str)) = false := by decide) : UE X cl W (.Call (.Name x p) [] [] pos) (tMakeBA cl x) (dC (.obj x [] [])) := by
  obtain ⟨C, hC, hm, M⟩ := G
  refine ⟨⟨fun pins s σ H Q I ⟨C', hC', h⟩ => ?_⟩, fun F0 H0 F H σ ρ Q S p => ⟨C, hC, fun a dx h1 h2 hne => ?_⟩⟩
  · rw [hC] at hC'; cases hC'
    exact (pe_makeB M hg hm hdb).run pins s σ H Q I h
  · have p : Post X.K cl W σ F H Q (.ok (.obj x [] [])) := p
    have ex := S.ex
    have hF : F a = none := by
      cases q : F a with
      | none => rfl
      | some u => have := ex _ _ q; rw [h1] at this; cases this
    refine p (.ref a) (upd F a (.ins C dx [])) _ ⟨Ex.new hF, fun b u z => ?_, fun b u z => ?_, fun b u z1 z2 => ?_⟩ ?_
    · by_cases hb : b = a
      · subst hb; rw [upd_same] at z ⊢; exact z
      · rw [upd_ne hb] at z
        have := ex _ _ z
        rw [upd_ne hb, upd_ne (ne_of_none this h2)]; exact this
    · rw [upd_ne (ne_of_none z h1), upd_ne (ne_of_none z h2)]; exact z
    · rw [upd_ne (ne_of_none z1 h1)]; exact z2
    · unfold Rp
      exact ⟨a, C, dx, [], rfl, hC, upd_same, rfl, Rps.nil⟩
/-! ### x.f = e, x ours -/
theorem putF_new {f : Str} {v : V} : ∀ {ns : List Str} {vs : List V}, ns.length = vs.length → f ∉ ns → putF f v (ns.zip vs) = (ns ++ [f]).zip (vs ++ [v])
  | [], [], _, _ => rfl
  | [], _ :: _, h, _ => by cases h
  | _ :: _, [], h, _ => by cases h
  | n :: ns, u :: us, h, hn => by
    have hne : ¬ n = f := fun z => hn (by simp [z])
    rw [List.zip_cons_cons, List.cons_append, List.cons_append, List.zip_cons_cons]
    show (if n = f then _ else _) = _
    rw [if_neg hne, putF_new (by simpa using h) fun z => hn (by simp [z])]
def fSetFld (cs : List Str) (i : Nat) (f : Str) (me : En → R D) : En → Fl α := fun ρ => fOf (me ρ) ρ fun d => match ρ[i]? with
  | some (.own (.ins c ns xs)) => if c ∈ cs ∧ f ∉ ns ∧ ns.length < 1000 then .nx (ρ.set i (.own (.ins c (ns ++ [f]) (xs ++ [d])))) else .st
  | _ => .st
@[simp] theorem fSetFld_ap (i : Nat) (me : En → R D) : (fSetFld cs i f me ρ : Fl α) = fOf (me ρ) ρ fun d => match ρ[i]? with
  | some (Sl.own (DO.ins c ns xs)) => if c ∈ cs ∧ f ∉ ns ∧ ns.length < 1000 then .nx (ρ.set i (.own (.ins c (ns ++ [f]) (xs ++ [d])))) else .st
  | _ => .st := id rfl
theorem us_setFld {i : Nat} {me : En → R D} (hf : FldOk X.K cl cs f) (ho : PE X o (tVar i)) (he : UE X cl W e te me) (hs : swapsWith e (some (.Attribute o f pos')) pos.line X.env = pure false := by rfl) :
    US X cl W mp RP (.Assign [.Attribute o f pos'] e pos) (sFld X.K (tVar i) te f) (fSetFld cs i f me) := by
  refine ⟨ps_fld ho he.pe hs, fun F0 H0 F H σ ρ Dn S P p => he.es F0 H0 F H σ ρ _ S (post_of S P p fun d v F1 H1 g r q => ?_)⟩
  split at q
  rotate_left
  · exact q.elim
  rename_i c ns xs hi
  split at q
  rotate_left
  · exact q.elim
  rename_i hc
  have S1 := S.mono g
  obtain ⟨a, ho', h1, h2, h3, ⟨C, dx, vs, k0, rfl, k1, k2⟩, h5⟩ := S1.own i _ hi
  obtain ⟨C', q1, q2, q3⟩ := hf c hc.1
  rw [k0] at q1; cases q1
  refine ⟨_, h1, a, C, dx, _, rfl, h3, q2, q3, ?_, ?_⟩
  · rw [List.length_zip]; omega
  · rw [putF_new k1 hc.2.1]
    exact q σ F1 _ (Ex.refl _) (S1.write hi h1 ⟨C, dx, vs ++ [v], k0, rfl, by simp [k1], k2.append (Rps.cons r Rps.nil)⟩) P
/-! ### isinstance(x, C), C an own class -/
structure IsF (K : PySem.W.Frag) (C : Addr) : Prop where
  cl : Cls K C
  ha : PySem.W.findIn K (.ref C) "__class__" = some (some (.builtin "object.__class__"))
  hn : PySem.W.specialIn K (.builtin "object.__class__") "__get__" = some (some (.builtin "getset_descriptor.__get__"))
  htk : PySem.W.takesIn K (.builtin "object.__class__") = some true
  hm : PySem.W.mroIn K C (.type "object") = some true
def TyN : List String := ["NoneType", "bool", "int", "str", "list", "tuple", "dict"]
theorem tyN_mem {d : D} {n : String} (h : tyN d = some n) : n ∈ TyN := by cases d <;> cases h <;> decide
/-- the class x0, and which of the classes named stand under it -/
def IsiC (K : PySem.W.Frag) (mg : Str → Option Value) (cl : Str → Option Addr) (x : Str) (tb : List (Str × Bool)) : Prop := ∃ C0 : Addr, mg x = some (.ref C0) ∧ (∀ n ∈ TyN, PySem.W.kitOne K (.type n) (.ref C0) = some false) ∧
  ∀ q ∈ tb, ∃ C : Addr, cl q.1 = some C ∧ IsF K C ∧ PySem.W.kitOne K (.ref C) (.ref C0) = some q.2
theorem isiC_nil : ∀ q ∈ ([] : List (Str × Bool)), ∃ C : Addr, cl q.1 = some C ∧ IsF K C ∧ PySem.W.kitOne K (.ref C) (.ref C0) = some q.2 := fun q h => by cases h
theorem isiC_cons {c : Str} {b : Bool} {tb : List (Str × Bool)} {C C0 : Addr} (h1 : cl c = some C) (h2 : IsF K C) (h3 : PySem.W.kitOne K (.ref C) (.ref C0) = some b) (r : ∀ q ∈ tb, ∃ C : Addr, cl q.1 = some C ∧ IsF K C ∧ PySem.W.kitOne K (.ref C) (.ref C0) = some q.2) :
    ∀ q ∈ (c, b) :: tb, ∃ C : Addr, cl q.1 = some C ∧ IsF K C ∧ PySem.W.kitOne K (.ref C) (.ref C0) = some q.2 := fun q h => by
  rcases List.mem_cons.mp h with z | z
  · subst z; exact ⟨C, h1, h2, h3⟩
  · exact r q z
def clAt (c : Str) : List (Str × Bool) → Option Bool
  | [] => none
  | (c', b) :: r => if c = c' then some b else clAt c r
theorem clAt_mem {c : Str} {b : Bool} : ∀ {tb : List (Str × Bool)}, clAt c tb = some b → (c, b) ∈ tb
  | [], h => by cases h
  | (c', b') :: r, h => by
    unfold clAt at h
    split at h
    · rename_i e; cases h; subst e; simp
    · exact List.mem_cons_of_mem _ (clAt_mem h)
def isC (tb : List (Str × Bool)) (d : D) : R D := match d with
  | .obj c _ _ => match clAt c tb with
    | some b => .ok (.bl b)
    | none => .st
  | d => match tyN d with
    | some _ => .ok (.bl false)
    | none => .st
@[simp] theorem isC_obj (tb : List (Str × Bool)) (c : Str) (ns : List Str) (xs : List D) : isC tb (.obj c ns xs) = match clAt c tb with
  | some b => .ok (.bl b)
  | none => .st := id rfl
@[simp] theorem isC_int (tb : List (Str × Bool)) (i : Int) : isC tb (.int i) = .ok (.bl false) := id rfl
@[simp] theorem isC_lst (tb : List (Str × Bool)) (xs : List D) : isC tb (.lst xs) = .ok (.bl false) := id rfl
@[simp] theorem isC_tup (tb : List (Str × Bool)) (xs : List D) : isC tb (.tup xs) = .ok (.bl false) := id rfl
@[simp] theorem isC_str (tb : List (Str × Bool)) (x : Str) : isC tb (.str x) = .ok (.bl false) := id rfl
@[simp] theorem isC_non (tb : List (Str × Bool)) : isC tb .non = .ok (.bl false) := id rfl
@[simp] theorem isC_bl (tb : List (Str × Bool)) (b : Bool) : isC tb (.bl b) = .ok (.bl false) := id rfl
@[simp] theorem isC_dk (tb : List (Str × Bool)) (ks : List Key) (xs : List D) : isC tb (.dk ks xs) = .ok (.bl false) := id rfl
def tIsC (K : PySem.W.Frag) (mg : Str → Option Value) (x : Str) (te : TE) : TE := fun σ H Q => ∃ C, mg x = some (.ref C) ∧ tCB (rIsi K) (tCons te (tCons (tC (.ref C)) tNil)) σ H Q
theorem ue_isC {p2 : Pos} {me : En → R D} {tb : List (Str × Bool)} (hm : X.mg "isinstance" = none) (G : IsiC X.K X.mg cl x tb) (he : UE X cl W e te me) (hg2 : Gl X x := by rfl) (hg : Gl X "isinstance" := by rfl) (hdb : (x == ("__debug__" : Str)) = false := by decide)
    (hs1 : starEach (e :: [.Name x p2]) X.env = (false, eval e X.env) :: starEach [.Name x p2] X.env := by rfl)
    (hs2 : starEach (.Name x p2 :: []) X.env = (false, eval (.Name x p2) X.env) :: starEach [] X.env := by rfl)
    (hpl : (backTo pos (starEach [.Name x p2] X.env)).any (·.1) = false := by rfl) :
    UE X cl W (.Call (.Name "isinstance" p) [e, .Name x p2] [] pos) (tIsC X.K X.mg x te) (d1 (isC tb) me) := by
  obtain ⟨C0, h1, h2, h3⟩ := G
  refine ⟨⟨fun pins s σ H Q I ⟨C', hC', h⟩ => ?_⟩, fun F0 H0 F H σ ρ Q S p => ⟨C0, h1, he.es F0 H0 F H σ ρ _ S ?_⟩⟩
  · exact (pe_callB call_isi hg hm boot_isinstance (pa_cons he.pe (pa_cons (pe_glob (v := .ref C') hg2 hC' rfl hdb) pa_nil hs2) hs1) (by decide) (by decide) hs1 hpl).run pins s σ H Q I h
  · unfold d1 at p
    cases e1 : me ρ with
    | st => rw [e1] at p; exact p
    | er y => rw [e1] at p; exact p
    | ok d =>
      rw [e1, R.bind_ok] at p
      intro v F1 H1 g r
      cases d with
      | obj c ns xs =>
        have p : Post X.K cl W σ F H Q (match clAt c tb with | some b => .ok (.bl b) | none => .st) := p
        split at p
        rotate_left
        · exact p.elim
        rename_i b hb
        obtain ⟨C, k1, k2, k3⟩ := h3 _ (clAt_mem hb)
        unfold Rp at r
        obtain ⟨a, C', dx, vs, rfl, q1, q2, q3, q4⟩ := r
        rw [k1] at q1; cases q1
        exact ⟨_, _, .ref C, .ref C0, b, rfl, .own C0, .base (.ins (g.s _ _ q2) k2.cl k2.ha k2.hn k2.htk k2.hm), k3, p _ F1 H1 g rp_bl⟩
      | ty n => exact p.elim
      | exc q ns xs => exact p.elim
      | non => exact ⟨_, _, .type "NoneType", .ref C0, false, rfl, .own C0, ty_ok g.s r rfl, h2 _ (by decide), p _ F1 H1 g rp_bl⟩
      | bl b => exact ⟨_, _, .type "bool", .ref C0, false, rfl, .own C0, ty_ok g.s r rfl, h2 _ (by decide), p _ F1 H1 g rp_bl⟩
      | int b => exact ⟨_, _, .type "int", .ref C0, false, rfl, .own C0, ty_ok g.s r rfl, h2 _ (by decide), p _ F1 H1 g rp_bl⟩
      | str b => exact ⟨_, _, .type "str", .ref C0, false, rfl, .own C0, ty_ok g.s r rfl, h2 _ (by decide), p _ F1 H1 g rp_bl⟩
      | lst b => exact ⟨_, _, .type "list", .ref C0, false, rfl, .own C0, ty_ok g.s r rfl, h2 _ (by decide), p _ F1 H1 g rp_bl⟩
      | tup b => exact ⟨_, _, .type "tuple", .ref C0, false, rfl, .own C0, ty_ok g.s r rfl, h2 _ (by decide), p _ F1 H1 g rp_bl⟩
      | dk b c => exact ⟨_, _, .type "dict", .ref C0, false, rfl, .own C0, ty_ok g.s r rfl, h2 _ (by decide), p _ F1 H1 g rp_bl⟩
end
end UP
namespace UP
open PySem L2 PyProof.Rows
/-! ### which def, by the class -/
def dispAt {β : Type} (c : Str) : List (Str × β) → Option β
  | [] => none
  | (c', m) :: r => if c = c' then some m else dispAt c r
theorem dispAt_eq {β : Type} {c : Str} {m : β} {r : List (Str × β)} : dispAt c ((c, m) :: r) = some m := if_pos rfl
theorem dispAt_ne {β : Type} {c c' : Str} {m m' : β} {r : List (Str × β)} (h : ¬ c = c') (e : dispAt c r = some m) : dispAt c ((c', m') :: r) = some m := (if_neg h).trans e
def disp {β : Type} (l : List (Str × (List D → R β))) : List D → R β
  | .obj c ns xs :: r => match dispAt c l with
    | some m => m (.obj c ns xs :: r)
    | none => .st
  | _ => .st
theorem disp_eq {β : Type} {l : List (Str × (List D → R β))} {c : Str} {m : List D → R β} (h : dispAt c l = some m) (ns : List Str) (xs r : List D) : disp l (.obj c ns xs :: r) = m (.obj c ns xs :: r) := by
  show (match dispAt c l with | some m => m (.obj c ns xs :: r) | none => .st) = _
  rw [h]
abbrev clOf (l : List (Str × Addr)) : Str → Option Addr := fun c => dispAt c l
/-- the law's own promise, whatever the classes are -/
def spLw (K : PySem.W.Frag) (m : List D → R D) : Sp := fun vs H Q E => ∀ cl : Str → Option Addr, spV K cl 1 m vs H Q E
theorem kit7 {K : PySem.W.Frag} {c : Value} (h1 : PySem.W.kitOne K (.type "NoneType") c = some false) (h2 : PySem.W.kitOne K (.type "bool") c = some false) (h3 : PySem.W.kitOne K (.type "int") c = some false) (h4 : PySem.W.kitOne K (.type "str") c = some false)
    (h5 : PySem.W.kitOne K (.type "list") c = some false) (h6 : PySem.W.kitOne K (.type "tuple") c = some false) (h7 : PySem.W.kitOne K (.type "dict") c = some false) : ∀ n ∈ TyN, PySem.W.kitOne K (.type n) c = some false := fun n hn => by
  simp only [TyN, List.mem_cons, List.not_mem_nil, or_false] at hn
  rcases hn with rfl | rfl | rfl | rfl | rfl | rfl | rfl <;> assumption
end UP
namespace L2
open PySem PySem.Spec PyProof.Rows
/-! ### f(e, .., k = v) of a def, what is raised wished for at the caller's slots -/
def tCallND (n m : Nat) (sp : Sp) (gV : List V → List V → List V) (E : St → XK) (t tk : TA) : TE := fun σ H Q => t σ H fun vs H1 => tk σ H1 fun zs H2 => vs.length = n ∧ zs.length = m ∧ sp (gV vs zs) H2 Q (E σ)
section
variable {X : Cx} {CX : CXT} {k n : Nat} {f : Addr} {fd : FuncData} {ps ks : List Str} {sp : Sp} {E : St → XK} {x : Str} {p pos : Pos} {e : Expr} {es : List Expr} {kws : List Keyword} {t tk : TA} {g : List Value → List Value → List Value} {gV : List V → List V → List V}
theorem run_fnND {pins : List (Addr × Obj)} {σ : St} {H : Hp} {s : Shared} {Q : VK} {us ws : List Value} {vs zs : List V} (F : FnOk X.prog X.w X.K X.mg X.base CX k f fd ps sp) (hr : Room k X.A) (hb : KBn X.K fd ps n ks g gV) (hx : PassesAt CX X σ (E σ))
    (I : Inv X pins σ H s) (r : Vals vs us) (rz : Vals zs ws) (l1 : vs.length = n) (l2 : zs.length = ks.length) (h : sp (gV vs zs) H Q (E σ)) : wpAny (model X.prog X.w) X.A (call (.ref f) us (ks.zip ws)) (EP X pins σ Q) X.xe s := by
  have r2 := hb.rel r rz
  refine wpAny_call (codeAny_mono (F.run X.A X.stack s H ⟨us, ks.zip ws⟩ (g us ws) (gV vs zs) Q (E σ) hr I.env0 (hb.to s us ws I.kIn (r.length.symm.trans l1) (rz.length.symm.trans l2)) r2 h) fun r s' hq => ?_)
  cases r with
  | error e => exact hx pins H s e s' I hq
  | ok fl =>
    cases fl with
    | ret u => exact I.after hq
    | next => exact False.elim hq
    | brk => exact False.elim hq
    | cont => exact False.elim hq
theorem pe_callND (F : FnOk X.prog X.w X.K X.mg X.base CX k f fd ps sp) (hr : Room k X.A) (hg : Gl X x) (hm : X.mg x = some (.ref f)) (hk : PySem.W.keepIn X.K (.ref f) = true) (hb : KBn X.K fd ps n ks g gV) (hx : ∀ σ, PassesAt CX X σ (E σ))
    (ha : PA X (e :: es) t) (hkw : PK X kws tk) (hall : (backToKw pos (keywordEach kws X.env)).all (·.1.isSome) = true := by rfl) (hks : (backToKw pos (keywordEach kws X.env)).filterMap (·.1) = ks := by rfl)
    (hdb : (x == ("__debug__" : Str)) = false := by decide) (he : starEach (e :: es) X.env = (false, eval e X.env) :: starEach es X.env := by rfl)
    (hpl : ((backTo pos (starEach (e :: es) X.env)).any (·.1) || (backToKw pos (keywordEach kws X.env)).any (·.1.isNone)) = false := by rfl) :
    PE X (.Call (.Name x p) (e :: es) kws pos) (tCallND n ks.length sp gV E t tk) := by
  refine ⟨fun pins s σ H Q I h => ?_⟩
  refine wpAny_Call_Name_kw (ld_glob I hg hm ?_ hdb)
  refine PySem.W.callWith_KW (h₀ := X.base) I.ok.mod.kin hk hall (thn (ha.run pos pins s σ H _ I h) fun us s1 ⟨vs, H1, I1, r, q⟩ => ?_) hpl he
  refine thn (hkw.run pos pins s1 σ H1 _ I1 q) fun ws s2 ⟨zs, H2, I2, rz, l1, l2, q2⟩ => ⟨I2.kIn, ?_⟩
  rw [hks]
  exact run_fnND F hr hb (hx σ) I2 r rz l1 l2 q2
end
end L2
namespace UP
open PySem L2 PyProof.Rows
/-- f(e, .., x = v), x the last parameter -/
def CalK (P : Program) (w : World) (K : PySem.W.Frag) (mg : Str → Option Value) (base : Heap) (k : Nat) (x : Str) (ps : List Str) (n : Nat) (kw : Str) (sp : Sp) : Prop :=
  ∃ (f : Addr) (fd : FuncData), FnOk P w K mg base (L2N.CX P w) k f fd ps sp ∧ mg x = some (.ref f) ∧ PySem.W.keepIn K (.ref f) = true ∧ KBn K fd ps n [kw] (fun us ws => us ++ ws) (fun vs zs => vs ++ zs)
section
variable {X : Cx} {cl : Str → Option Addr} {W : WX} {K : PySem.W.Frag} {x kw : Str} {ps : List Str} {p pos kpos : Pos} {e d : Expr} {es : List Expr} {t : TA} {td : TE} {k n : Nat}
def dCallK (m : List D → R D) (ma : En → R (List D)) (md : En → R D) : En → R D := fun ρ => (ma ρ).bind fun ds => (md ρ).bind fun d => m (ds ++ [d])
@[simp] theorem dCallK_ap {ρ : En} (m : List D → R D) (ma : En → R (List D)) (md : En → R D) : dCallK m ma md ρ = (ma ρ).bind fun ds => (md ρ).bind fun d => m (ds ++ [d]) := id rfl
theorem ue_callK {ma : En → R (List D)} {md : En → R D} {m : List D → R D} (G : CalK X.prog X.w X.K X.mg X.base k x ps n kw (spV X.K cl (n + 1) m)) (hr : Room k X.A) (tk : L2N.Takes X W) (ha : UA X cl W (e :: es) t ma) (hd : UE X cl W d td md) (hl : ∀ ρ ds, ma ρ = .ok ds → ds.length = n) (hg : Gl X x := by rfl)
    (hall : (backToKw pos (keywordEach [⟨some kw, d, kpos⟩] X.env)).all (·.1.isSome) = true := by rfl) (hks : (backToKw pos (keywordEach [⟨some kw, d, kpos⟩] X.env)).filterMap (·.1) = [kw] := by rfl)
    (hdb : (x == ("__debug__" : Str)) = false := by decide) (he : starEach (e :: es) X.env = (false, eval e X.env) :: starEach es X.env := by rfl)
    (hpl : ((backTo pos (starEach (e :: es) X.env)).any (·.1) || (backToKw pos (keywordEach [⟨some kw, d, kpos⟩] X.env)).any (·.1.isNone)) = false := by rfl) :
    UE X cl W (.Call (.Name x p) (e :: es) [⟨some kw, d, kpos⟩] pos) (tCallND n 1 (spV X.K cl (n + 1) m) (fun vs zs => vs ++ zs) (WE W) t (tCons td tNil)) (dCallK m ma md) := by
  obtain ⟨f, fd, F, hm, hk, hb⟩ := G
  refine ⟨pe_callND F hr hg hm hk hb (fun σ => L2N.passAt tk σ) ha.pe (pk_cons hd.pe pk_nil) hall hks hdb he hpl, fun F0 H0 F H σ ρ Q S p => ha.es F0 H0 F H σ ρ _ S ?_⟩
  unfold dCallK at p
  cases e1 : ma ρ with
  | st => rw [e1] at p; exact p
  | er x => rw [e1] at p; exact p
  | ok ds =>
    rw [e1, R.bind_ok] at p
    intro vs F1 H1 g r
    refine hd.es F0 H0 F1 H1 σ ρ _ (S.mono g) ?_
    cases e2 : md ρ with
    | st => rw [e2] at p; exact p
    | er x => rw [e2] at p; exact fun c d F2 H2 g2 q => p c d F2 H2 (g.trans g2) q
    | ok dz =>
      rw [e2, R.bind_ok] at p
      intro z F2 H2 g2 r2
      refine ⟨by rw [r.length]; exact hl ρ ds e1, rfl, ds ++ [dz], F2, g2.s, (r.mono g2.f).append (Rps.cons r2 Rps.nil), by rw [List.length_append, r.length, hl ρ ds e1]; rfl, ?_⟩
      cases e3 : m (ds ++ [dz]) with
      | st => rw [e3] at p; exact p
      | er x => rw [e3] at p; exact fun c d F3 H3 g3 q => p c d F3 H3 ((g.trans g2).trans g3) q
      | ok d => rw [e3] at p; exact fun v F3 H3 g3 q => p v F3 H3 ((g.trans g2).trans g3) q
end
/-- the binding: one default, its parameter named -/
theorem kbn_of {K : PySem.W.Frag} {x qual : Str} {params : Arguments} {body : List Stmt} {scope : Scope} {v : V} {f : Addr} {fd : FuncData} {ps : List Str} {kw : Str} (F : FunD K x qual params body scope [v] [] f fd) (n : Nat)
    (h : ∀ (T : Addr) (kV doc pm : Value) (an : Option Addr) (cdv ct : Value) (us its ws : List Value), us.length = n → its.length = 1 → ws.length = 1 →
      ∃ k, bindArgs (PySem.W.fnOf x qual params body scope (.ref T) kV doc pm an cdv ct) ⟨us, [kw].zip ws⟩ = seqItems? (.ref T) >>= k ∧ k (some its.toArray) = pure (ps.zip (us ++ ws))) : KBn K fd ps n [kw] (fun us ws => us ++ ws) (fun vs zs => vs ++ zs) := by
  obtain ⟨its, hk⟩ := F.kbindsD n [kw] (fun us its ws => us ++ ws) (by simp) (fun r1 _ r2 => r1.append r2) h
  exact hk
end UP
namespace UP
open PySem L2 PyProof.Rows
section
variable {α : Type} {X : Cx} {cl : Str → Option Addr} {W : WX} {K : PySem.W.Frag} {F0 H0 F H F' H' : Hp} {σ : L2.St} {ρ : En} {mp : List (Nat × Addr)} {RP : RPt α} {Dn : Ends} {e : Expr} {te : TE} {pos pos' p2 cpos np : Pos}

/-! ### raise X("..") -/
def fRaise (c : Str) : En → Fl α := fun ρ => .er ⟨c, [], []⟩ ρ
@[simp] theorem fRaise_ap (c : Str) (ρ : En) : (fRaise c ρ : Fl α) = .er ⟨c, [], []⟩ ρ := id rfl
@[simp] theorem flV_er (x : Exc) (ρ : En) : flV (.er x ρ) = .er x := id rfl
@[simp] theorem flN_er (x : Exc) (ρ : En) : flN (.er x ρ) = .er x := id rfl
@[simp] theorem fW_er (Wp : List Nat) (x : Exc) : fW Wp (.er x ρ : Fl α) = .er x ρ := id rfl
@[simp] theorem fAft_er (x : Exc) (k : En → Fl α) : fAft (.er x ρ : Fl α) k = .er x ρ := id rfl
@[simp] theorem dPop_ap (i : Nat) (me : En → R D) : dPop i me ρ = (noer (me ρ)).bind (dPopV i ρ) := id rfl
@[simp] theorem dPopV_int (i : Nat) (k : Int) : dPopV i ρ (.int k) = match ρ[i]? with
    | some (.own (.lst xs)) => if -(2 ^ 63) ≤ k ∧ k < 2 ^ 63 then match seqIndex? k xs.length with
      | some j => match xs[j]? with
        | some y => .ok (y, ρ.set i (.own (.lst (xs.eraseIdx j))))
        | none => .st
      | none => .st
      else .st
    | _ => .st := id rfl
abbrev veTail : List Value := [.type "ValueError", .type "Exception", .type "BaseException", .type "object"]
/-- an exception class that is made with a text -/
def ExF (K : PySem.W.Frag) (mg : Str → Option Value) (cl : Str → Option Addr) (c : Str) : Prop :=
  ∃ C, cl c = some C ∧ mg c = some (.ref C) ∧ PySem.W.excIn K C veTail "ValueError.__new__" = true ∧ PySem.W.keepIn K (.ref C) = true ∧ PySem.W.subIn K (.ref C) (.type "BaseException") = some true ∧ PySem.W.typeIn K (.ref C) = some (.type "type")
def tRaise (mg : Str → Option Value) (c : Str) (W : WX) : TS := fun _ σ H => ∃ C, mg c = some (.ref C) ∧ W (.ref C) none σ H
theorem us_raise {c m : Str} {j : Nat} (hc : X.calm = true) (tk : L2N.Takes X W) (G : ExF X.K X.mg cl c) (hg : Gl X c := by rfl) (hdb : (c == ("__debug__" : Str)) = false := by decide) :
    US X cl W mp RP (.Raise (some (.Call (.Name c p2) [.Constant (.str m) j cpos] [] pos')) none pos) (tRaise X.mg c W) (fRaise c) := by
  obtain ⟨C, h1, h2, h3, h4, h5, h6⟩ := G
  refine ⟨⟨fun pins s σ H D I ⟨C', hC, h⟩ => ?_⟩, fun F0 H0 F H σ ρ Dn S P p => ⟨C, h2, p _ none σ F H (Ex.refl _) S P ⟨C, h1, rfl, .inl ⟨rfl, rfl⟩⟩⟩⟩
  rw [h2] at hC; cases hC
  exact (L2N.ps_raise hc tk (L2N.pmk_own PySem.F.excBase_ValueError h3 h2 h4 (raises_own h5 h6) hg hdb)).run pins s σ H D I h

/-! ### try -/
/-- what a handler says, whatever the exception's place is -/
noncomputable def tell (f : Addr × Addr → Fl α) : Fl α := open Classical in if h : ∃ r, ∀ q, f q = r then h.choose else .st
@[simp] theorem tell_const (r : Fl α) : tell (fun _ => r) = r := by
  have h : ∃ r', ∀ _ : Addr × Addr, r = r' := ⟨r, fun _ => rfl⟩
  unfold tell
  rw [dif_pos h]
  exact (h.choose_spec (0, 0)).symm
theorem tell_eq {f : Addr × Addr → Fl α} {r : Fl α} (h : ∀ q, f q = r) : tell f = r := by
  have : f = fun _ => r := funext h
  rw [this, tell_const]
theorem tell_at (f : Addr × Addr → Fl α) : tell f = .st ∨ ∀ q, f q = tell f := by
  by_cases h : ∃ r, ∀ q, f q = r
  · obtain ⟨r, h⟩ := h
    exact .inr fun q => by rw [tell_eq h, h q]
  · left; unfold tell; rw [dif_neg h]
/-- behind the suite the name is gone -/
def fUndo (i : Nat) : Fl α → Fl α
  | .nx ρ => .nx (ρ.set i .un)
  | .bk ρ => .bk (ρ.set i .un)
  | .ct ρ => .ct (ρ.set i .un)
  | .rt a ρ => .rt a ρ
  | .er _ _ => .st
  | .st => .st
@[simp] theorem fUndo_nx (i : Nat) (ρ : En) : fUndo i (.nx ρ : Fl α) = .nx (ρ.set i .un) := id rfl
@[simp] theorem fUndo_bk (i : Nat) (ρ : En) : fUndo i (.bk ρ : Fl α) = .bk (ρ.set i .un) := id rfl
@[simp] theorem fUndo_ct (i : Nat) (ρ : En) : fUndo i (.ct ρ : Fl α) = .ct (ρ.set i .un) := id rfl
@[simp] theorem fUndo_rt (i : Nat) (a : α) (ρ : En) : fUndo i (.rt a ρ : Fl α) = .rt a ρ := id rfl
@[simp] theorem fUndo_st (i : Nat) : fUndo i (.st : Fl α) = .st := id rfl
/-- try: .. except X as n: .. (n in slot i; tb: which classes stand under X) -/
noncomputable def fTryK (i : Nat) (tb : List (Str × Bool)) (mh : Addr × Addr → Exc → En → Fl α) : Fl α → Fl α
  | .er x ρ => match clAt x.cls tb with
    | some true => if i < ρ.length then tell fun q => fUndo i (mh q x (ρ.set i (.val (.exc q x.ns x.xs)))) else .st
    | some false => .er x ρ
    | none => .st
  | r => r
noncomputable def fTry (i : Nat) (tb : List (Str × Bool)) (mb : En → Fl α) (mh : Addr × Addr → Exc → En → Fl α) : En → Fl α := fun ρ => fTryK i tb mh (mb ρ)
section
variable {i : Nat} {tb : List (Str × Bool)} {mh : Addr × Addr → Exc → En → Fl α}
@[simp] theorem fTryK_nx (ρ : En) : fTryK i tb mh (.nx ρ) = .nx ρ := id rfl
@[simp] theorem fTryK_bk (ρ : En) : fTryK i tb mh (.bk ρ) = .bk ρ := id rfl
@[simp] theorem fTryK_ct (ρ : En) : fTryK i tb mh (.ct ρ) = .ct ρ := id rfl
@[simp] theorem fTryK_rt (a : α) (ρ : En) : fTryK i tb mh (.rt a ρ) = .rt a ρ := id rfl
@[simp] theorem fTryK_st : fTryK i tb mh .st = .st := id rfl
@[simp] theorem fTryK_er (x : Exc) (ρ : En) : fTryK i tb mh (.er x ρ) = match clAt x.cls tb with
    | some true => if i < ρ.length then tell fun q => fUndo i (mh q x (ρ.set i (.val (.exc q x.ns x.xs)))) else .st
    | some false => .er x ρ
    | none => .st := id rfl
end
/-- what an except clause's class says of each class of exceptions -/
def CatF (K : PySem.W.Frag) (mg : Str → Option Value) (cl : Str → Option Addr) (c : Str) (tb : List (Str × Bool)) : Prop :=
  ∃ cv, (mg c = some cv ∨ (mg c = none ∧ bootBuiltins c = some cv ∧ c ≠ "__name__")) ∧ ∀ p ∈ tb, ∃ D, cl p.1 = some D ∧ PySem.W.exmOne K (.ref D) cv = some p.2
theorem catF_own {mg : Str → Option Value} {c : Str} {C : Addr} {tb : List (Str × Bool)} (h : mg c = some (.ref C)) (h1 : PySem.W.subIn K (.ref C) (.type "BaseException") = some true) (h2 : PySem.W.hasDictIn K C = true) (h3 : PySem.W.typeIn K (.ref C) = some (.type "type"))
    (t : ∀ p ∈ tb, ∃ D, cl p.1 = some D ∧ PySem.W.subIn K (.ref D) (.ref C) = some p.2) : CatF K mg cl c tb :=
  ⟨_, .inl h, fun p hp => let ⟨D, q1, q2⟩ := t p hp; ⟨D, q1, PySem.W.exm_ref h1 h2 h3 q2⟩⟩
/-- the exception's place, class and dict -/
def LnkE (cl : Str → Option Addr) (q : Addr × Addr) (x : Exc) (cls : Value) (dd : Option Addr) : Prop :=
  ∃ D, cl x.cls = some D ∧ cls = .ref D ∧ ((x.ns = [] ∧ dd = none) ∨ (x.ns ≠ [] ∧ dd = some q.2))
/-- the context holds the exception x at q -/
def HX (X : Cx) (cl : Str → Option Addr) (q : Addr × Addr) (x : Exc) : Prop := ∃ p : Addr × Obj, p.1 = q.1 ∧ L2H.Hot1 X.A p ∧ p ∈ X.pn ∧ ∃ cls dd, Zc cls dd p.2 ∧ LnkE cl q x cls dd
/-- the strongest reading of a block -/
def sStar (K : PySem.W.Frag) (cl : Str → Option Addr) (W : WX) (mp : List (Nat × Addr)) (RP : RPt α) (mb : En → Fl α) : TS := fun Dn σ H => ∃ F0 H0 F ρ, Sr K cl F0 H0 F H σ ρ ∧ Pin mp σ ∧ PostS K cl W mp RP F0 H0 F Dn (mb ρ)
theorem USs.star {b : List Stmt} {t : TS} {mb : En → Fl α} (h : USs X cl W mp RP b t mb) : PSs X b (sStar X.K cl W mp RP mb) :=
  ⟨fun pins s σ H D I ⟨F0, H0, F, ρ, S, P, p⟩ => h.pe.run pins s σ H D I (h.es F0 H0 F H σ ρ D S P p)⟩
/-- .. of a handler -/
def hStar (K : PySem.W.Frag) (cl : Str → Option Addr) (i : Nat) (mp : List (Nat × Addr)) (RPa : Addr → RPt α) (mh : Addr × Addr → Exc → En → Fl α) (a : Addr) (cls : Value) (dd : Option Addr) : TS := fun Dn σ H =>
  ∃ q x F0 H0 F ρ, q.1 = a ∧ LnkE cl q x cls dd ∧ Sr K cl F0 H0 F H σ ρ ∧ Pin ((i, q.1) :: mp) σ ∧ PostS K cl WF ((i, q.1) :: mp) (RPa q.1) F0 H0 F Dn (mh q x ρ)
theorem pin_cons {i : Nat} {a : Addr} (P : Pin mp σ) (h : i ∉ mp.map (·.1)) (hi : i < σ.length) : Pin ((i, a) :: mp) (σ.set i (some (.ref a))) := by
  intro q hq
  rcases List.mem_cons.mp hq with e | e
  · subst e
    show (σ.set i _)[i]? = _
    rw [List.getElem?_set_self hi]
  · exact pin_set P h q e
theorem Pin.tail {q : Nat × Addr} (P : Pin (q :: mp) σ) : Pin mp σ := fun z hz => P z (List.mem_cons_of_mem _ hz)
theorem rpV_cons {q : Nat × Addr} {rt : VK} {d : D} (h : RPV K cl mp F0 H0 rt d ρ) : RPV K cl (q :: mp) F0 H0 rt d ρ := fun v σ F H S P r => h v σ F H S P.tail r
theorem rpN_cons {q : Nat × Addr} {rt : VK} {d : DO} (h : RPN K cl mp F0 H0 rt d ρ) : RPN K cl (q :: mp) F0 H0 rt d ρ := fun p ho σ F H S P h1 h2 h3 h4 => h p ho σ F H S P.tail h1 h2 h3 h4
theorem rp_excR {x : Exc} {cls : Value} {dd : Option Addr} (h : ExR K cl F x cls dd) : ∃ d, ∀ a, Rp K cl F (.ref a) (.exc (a, d) x.ns x.xs) ∧ LnkE cl (a, d) x cls dd := by
  obtain ⟨C, h1, h2, h3⟩ := h
  rcases h3 with ⟨e1, e2⟩ | ⟨hn, d, vs, e1, e2, e3, e4⟩
  · exact ⟨0, fun a => ⟨by unfold Rp; exact ⟨rfl, .inl e1⟩, C, h1, h2, .inl ⟨e1, e2⟩⟩⟩
  · exact ⟨d, fun a => ⟨by unfold Rp; exact ⟨rfl, .inr ⟨vs, e2, e3, e4⟩⟩, C, h1, h2, .inr ⟨hn, e1⟩⟩⟩
theorem us_tryAs {i : Nat} {c n : Str} {tb : List (Str × Bool)} {body suite : List Stmt} {b₀ : Stmt} {mb : En → Fl α} {mh : Addr × Addr → Exc → En → Fl α} {RPa : Addr → RPt α} (hs : X.stack = X.env :: X.outer) (hf : X.env.frame = some X.env.locals) (hN : X.N.Nodup) (hi : X.N[i]? = some n)
    (hln : X.env.kindOf n = some .local) (G : CatF X.K X.mg cl c tb) (tk : L2N.Takes X W) (hp : i ∉ mp.map (·.1)) (hR : ∀ z F0 H0 rt d ρ, RP F0 H0 rt d ρ → RPa z F0 H0 rt d ρ)
    (hb : ∀ (W' : WX) (pn : List (Addr × Obj)) (xe : Value → Shared → Prop), L2N.Takes (X.tr pn xe) W' → PassesOwn (model X.prog X.w) X.A X.env xe → ∃ t, USs (X.tr pn xe) cl W' mp RP body t mb)
    (hsu : ∀ (q : Addr × Addr) (x : Exc) (oe : Obj) (pn : List (Addr × Obj)), HX (X.suite q.1 ((q.1, oe) :: pn)) cl q x → ∃ t, USs (X.suite q.1 ((q.1, oe) :: pn)) cl WF ((i, q.1) :: mp) (RPa q.1) (b₀ :: suite) t (mh q x))
    (hg : Gl X c := by rfl) (hdb : (c == ("__debug__" : Str)) = false := by decide) :
    US X cl W mp RP (.Try body [.ExceptHandler (some (.Name c np)) (some n) (b₀ :: suite) pos'] [] [] pos)
      (fun D σ H => ∃ cv, (X.mg c = some cv ∨ (X.mg c = none ∧ bootBuiltins c = some cv ∧ c ≠ "__name__")) ∧ sStar X.K cl (wAs X.K cv i (hStar X.K cl i mp RPa mh) W D) mp RP mb D σ H) (fTry i tb mb mh) := by
  refine ⟨⟨fun pins s σ H D I ⟨cv, h1, h2⟩ => ?_⟩, fun F0 H0 F H σ ρ Dn S P p => ?_⟩
  · refine (L2N.ps_try_as (tb := fun W' => sStar X.K cl W' mp RP mb) (ts := hStar X.K cl i mp RPa mh) hs hf hN hi hln ⟨hg, hdb, h1⟩ tk (fun W' pn xe t po => (hb W' pn xe t po).elim fun _ U => U.star) (fun a oe cls d pn zn hd => ?_)).run pins s σ H D I h2
    refine ⟨fun pins s σ H D I ⟨q, x, F0, H0, F, ρ, e1, k, S, P, p⟩ => ?_⟩
    subst e1
    obtain ⟨vs, hd⟩ := hd
    obtain ⟨t, U⟩ := hsu q x oe pn ⟨(q.1, oe), rfl, ⟨rfl, vs, hd, zn.2.2 vs hd⟩, List.mem_cons_self, cls, d, zn.zc, k⟩
    exact U.pe.run pins s σ H D I (U.es F0 H0 F H σ ρ D S P p)
  · obtain ⟨cv, h1, h2⟩ := G
    refine ⟨cv, h1, F0, H0, F, ρ, S, P, ?_⟩
    unfold fTry at p
    cases e1 : mb ρ with
    | nx ρ1 => rw [e1] at p; exact p
    | bk ρ1 => rw [e1] at p; exact p
    | ct ρ1 => rw [e1] at p; exact p
    | rt a ρ1 => rw [e1] at p; exact p
    | st => rw [e1] at p; exact p
    | er x ρ1 =>
      rw [e1, fTryK_er] at p
      intro cls dd σ1 F1 H1 e2 S1 P1 r
      obtain ⟨C, r1, r2, _⟩ := id r
      cases e3 : clAt x.cls tb with
      | none => rw [e3] at p; exact p.elim
      | some b =>
        obtain ⟨D, k1, k2⟩ := h2 _ (clAt_mem e3)
        rw [r1] at k1; cases k1
        subst r2
        refine ⟨b, k2, fun hb a na => ?_, fun hb => ?_⟩
        · subst hb
          rw [e3] at p
          have p : PostS X.K cl W mp RP F0 H0 F Dn (if i < ρ1.length then tell fun q => fUndo i (mh q x (ρ1.set i (.val (.exc q x.ns x.xs)))) else .st) := p
          by_cases hl : i < ρ1.length
          rotate_left
          · rw [if_neg hl] at p; exact p.elim
          rw [if_pos hl] at p
          obtain ⟨d, rd⟩ := rp_excR r
          obtain ⟨r3, r4⟩ := rd a
          rcases tell_at (fun q => fUndo i (mh q x (ρ1.set i (.val (.exc q x.ns x.xs))))) with z | z
          · rw [z] at p; exact p.elim
          · rw [← z (a, d)] at p
            have S2 := S1.set (i := i) r3
            refine ⟨(a, d), x, F0, H0, F1, ρ1.set i (.val (.exc (a, d) x.ns x.xs)), rfl, r4, S2, ?_, ?_⟩
            · exact pin_cons P1 hp (by rw [S1.len]; exact hl)
            · have p := PostS.mono p e2
              cases e5 : mh (a, d) x (ρ1.set i (.val (.exc (a, d) x.ns x.xs))) with
              | st => rw [e5] at p; exact p
              | er y ρ5 => rw [e5] at p; exact p.elim
              | rt y ρ5 => rw [e5] at p; exact hR _ _ _ _ _ _ p
              | nx ρ5 => rw [e5] at p; exact fun σ5 F5 H5 e6 S5 P5 => p _ F5 H5 e6 S5.un (pin_set P5.tail hp)
              | bk ρ5 => rw [e5] at p; exact fun σ5 F5 H5 e6 S5 P5 => p _ F5 H5 e6 S5.un (pin_set P5.tail hp)
              | ct ρ5 => rw [e5] at p; exact fun σ5 F5 H5 e6 S5 P5 => p _ F5 H5 e6 S5.un (pin_set P5.tail hp)
        · subst hb
          rw [e3] at p
          exact p _ dd σ1 F1 H1 e2 S1 P1 r
/-- try: .. except X: .. -/
def fTryOK (tb : List (Str × Bool)) (mh : En → Fl α) : Fl α → Fl α
  | .er x ρ => match clAt x.cls tb with
    | some true => match mh ρ with
      | .er _ _ => .st
      | r => r
    | some false => .er x ρ
    | none => .st
  | r => r
def fTryO (tb : List (Str × Bool)) (mb mh : En → Fl α) : En → Fl α := fun ρ => fTryOK tb mh (mb ρ)
section
variable {tb : List (Str × Bool)} {mh : En → Fl α}
@[simp] theorem fTryOK_nx (ρ : En) : fTryOK tb mh (.nx ρ) = .nx ρ := id rfl
@[simp] theorem fTryOK_bk (ρ : En) : fTryOK tb mh (.bk ρ) = .bk ρ := id rfl
@[simp] theorem fTryOK_ct (ρ : En) : fTryOK tb mh (.ct ρ) = .ct ρ := id rfl
@[simp] theorem fTryOK_rt (a : α) (ρ : En) : fTryOK tb mh (.rt a ρ) = .rt a ρ := id rfl
@[simp] theorem fTryOK_st : fTryOK tb mh .st = .st := id rfl
@[simp] theorem fTryOK_er (x : Exc) (ρ : En) : fTryOK tb mh (.er x ρ) = match clAt x.cls tb with
    | some true => match mh ρ with
      | .er _ _ => .st
      | r => r
    | some false => .er x ρ
    | none => .st := id rfl
end
def oStar (K : PySem.W.Frag) (cl : Str → Option Addr) (mp : List (Nat × Addr)) (RP : RPt α) (mh : En → Fl α) : Addr → Value → Option Addr → TS := fun _ cls dd => fun Dn σ H =>
  ∃ x F0 H0 F ρ, (∃ q, LnkE cl q x cls dd) ∧ Sr K cl F0 H0 F H σ ρ ∧ Pin mp σ ∧ PostS K cl WF mp RP F0 H0 F Dn (mh ρ)
theorem us_tryO {c : Str} {tb : List (Str × Bool)} {body suite : List Stmt} {b₀ : Stmt} {mb mh : En → Fl α} (hs : X.stack = X.env :: X.outer) (hf : X.env.frame = some X.env.locals) (G : CatF X.K X.mg cl c tb) (tk : L2N.Takes X W)
    (hb : ∀ (W' : WX) (pn : List (Addr × Obj)) (xe : Value → Shared → Prop), L2N.Takes (X.tr pn xe) W' → PassesOwn (model X.prog X.w) X.A X.env xe → ∃ t, USs (X.tr pn xe) cl W' mp RP body t mb)
    (hsu : ∀ (a : Addr) (oe : Obj) (pn : List (Addr × Obj)), ∃ t, USs (X.suite a ((a, oe) :: pn)) cl WF mp RP (b₀ :: suite) t mh)
    (hg : Gl X c := by rfl) (hdb : (c == ("__debug__" : Str)) = false := by decide) :
    US X cl W mp RP (.Try body [.ExceptHandler (some (.Name c np)) none (b₀ :: suite) pos'] [] [] pos)
      (fun D σ H => ∃ cv, (X.mg c = some cv ∨ (X.mg c = none ∧ bootBuiltins c = some cv ∧ c ≠ "__name__")) ∧ sStar X.K cl (wMany X.K W D [(cv, oStar X.K cl mp RP mh)]) mp RP mb D σ H) (fTryO tb mb mh) := by
  refine ⟨⟨fun pins s σ H D I ⟨cv, h1, h2⟩ => ?_⟩, fun F0 H0 F H σ ρ Dn S P p => ?_⟩
  · refine (L2N.ps_try_many (tb := fun W' => sStar X.K cl W' mp RP mb) (l := [(cv, oStar X.K cl mp RP mh)]) hs hf tk (fun W' pn xe t po => (hb W' pn xe t po).elim fun _ U => U.star) (.cons ⟨hg, hdb, h1⟩ (fun a oe cls d pn zn hd => ?_) .nil)).run pins s σ H D I h2
    refine ⟨fun pins s σ H D I ⟨x, F0, H0, F, ρ, k, S, P, p⟩ => ?_⟩
    obtain ⟨t, U⟩ := hsu a oe pn
    exact U.pe.run pins s σ H D I (U.es F0 H0 F H σ ρ D S P p)
  · obtain ⟨cv, h1, h2⟩ := G
    refine ⟨cv, h1, F0, H0, F, ρ, S, P, ?_⟩
    unfold fTryO at p
    cases e1 : mb ρ with
    | nx ρ1 => rw [e1] at p; exact p
    | bk ρ1 => rw [e1] at p; exact p
    | ct ρ1 => rw [e1] at p; exact p
    | rt a ρ1 => rw [e1] at p; exact p
    | st => rw [e1] at p; exact p
    | er x ρ1 =>
      rw [e1, fTryOK_er] at p
      intro cls dd σ1 F1 H1 e2 S1 P1 r
      obtain ⟨C, r1, r2, _⟩ := id r
      cases e3 : clAt x.cls tb with
      | none => rw [e3] at p; exact p.elim
      | some b =>
        obtain ⟨D, k1, k2⟩ := h2 _ (clAt_mem e3)
        rw [r1] at k1; cases k1
        subst r2
        refine ⟨b, k2, fun hb a na => ?_, fun hb => ?_⟩
        · subst hb
          rw [e3] at p
          obtain ⟨d, rd⟩ := rp_excR r
          refine ⟨x, F0, H0, F1, ρ1, ⟨(a, d), (rd a).2⟩, S1, P1, ?_⟩
          have p : PostS X.K cl W mp RP F0 H0 F Dn (match mh ρ1 with | .er _ _ => .st | r => r) := p
          have p := PostS.mono p e2
          cases e5 : mh ρ1 with
          | st => rw [e5] at p; exact p
          | er y ρ5 => rw [e5] at p; exact p.elim
          | rt y ρ5 => rw [e5] at p; exact p
          | nx ρ5 => rw [e5] at p; exact p
          | bk ρ5 => rw [e5] at p; exact p
          | ct ρ5 => rw [e5] at p; exact p
        · subst hb
          rw [e3] at p
          exact p _ dd σ1 F1 H1 e2 S1 P1 r
end
end UP
namespace UP
open PySem L2 PyProof.Rows
section
variable {α : Type} {X : Cx} {cl : Str → Option Addr} {W : WX} {K : PySem.W.Frag} {F0 H0 F H F' H' : Hp} {σ : L2.St} {ρ : En} {mp : List (Nat × Addr)} {RP : RPt α} {Dn : Ends} {e : Expr} {te : TE} {pos pos' p p2 cpos np : Pos}
/-! ### the class of the exception that is held -/
/-- a class by its name -/
def ClsN (mg : Str → Option Value) (c : Str) (v : V) (u : Value) : Prop :=
  (∃ C, v = .ref C ∧ u = .ref C ∧ mg c = some (.ref C)) ∨ ∃ n, v = .ty n ∧ u = .type n ∧ mg c = none ∧ bootBuiltins c = some (.type n) ∧ c ≠ "__name__"
theorem ClsN.v {mg : Str → Option Value} {c : Str} {v : V} {u : Value} (h : ClsN mg c v u) : ClsV v u := by
  rcases h with ⟨C, rfl, rfl, _⟩ | ⟨n, rfl, rfl, _⟩
  · exact .own C
  · exact .ty n
theorem pe_clsN {c : Str} {v : V} {u : Value} (h : ClsN X.mg c v u) (hg : Gl X c) (hdb : (c == ("__debug__" : Str)) = false) : PE X (.Name c pos) (tC v) := by
  rcases h with ⟨C, rfl, rfl, h⟩ | ⟨n, rfl, rfl, h1, h2, h3⟩
  · exact pe_glob hg h rfl hdb
  · exact pe_bltn hg h1 h2 rfl h3 hdb
/-- p is the exception at a, of the class D; its dict, if it has one, is d -/
def AtX (K : PySem.W.Frag) (pn : List (Addr × Obj)) (H : Hp) (q : Addr × Addr) (D : Addr) : Prop :=
  ExcC K D ∧ ∃ (p : Addr × Obj) (vs : Array Value) (dd : Option Addr), p.1 = q.1 ∧ p ∈ pn ∧ Zc (.ref D) dd p.2 ∧ p.2.data = .fields vs ∧ (dd = none ∨ ∃ fs, dd = some q.2 ∧ H q.2 = some (.xd fs))
theorem AtX.inst {pins : List (Addr × Obj)} {s : Shared} {q : Addr × Addr} {D : Addr} (h : AtX X.K X.pn H q D) (I : Inv X pins σ H s) : ∃ ox od, PySem.W.InstAt s.heap q.1 ox D od := by
  obtain ⟨_, p, vs, dd, e1, e2, z, hd, h⟩ := h
  have hget := (I.pin p (List.mem_append_left _ e2)).1
  rw [e1] at hget
  have nc : PySem.W.notCls p.2 = true := by unfold PySem.W.notCls; rw [hd] <;> rfl
  rcases h with rfl | ⟨fs, rfl, hx⟩
  · exact ⟨p.2, none, hget, z.1, nc, by rw [z.2]; trivial⟩
  · have hx : ObjOk X.prog X.w H s.heap q.2 (.xd fs) := I.hok q.2 _ hx
    obtain ⟨mA, hns, hr⟩ := hx
    obtain ⟨od, ho, hl⟩ := lookIn_ns hns
    exact ⟨p.2, some od, hget, z.1, nc, by rw [z.2]; exact ho⟩
def rIsX (K : PySem.W.Frag) (pn : List (Addr × Obj)) (q : Addr × Addr) : List V → Hp → VK → Prop := fun xs H Q => ∃ (c : V) (u : Value) (D : Addr) (b : Bool), xs = [.ref q.1, c] ∧ ClsV c u ∧ AtX K pn H q D ∧ PySem.W.kitOne K (.ref D) u = some b ∧ Q (.bl b) H
def rIsXT (K : PySem.W.Frag) (pn : List (Addr × Obj)) (q : Addr × Addr) : List V → Hp → VK → Prop := fun xs H Q => ∃ (tp : Addr) (cs : List V) (us : List Value) (D : Addr) (b : Bool), xs = [.ref q.1, .ref tp] ∧ H tp = some (.tup cs) ∧ Paired ClsV cs us ∧
  AtX K pn H q D ∧ PySem.W.kitAny K (.ref D) us = some b ∧ Q (.bl b) H
theorem kitx_D {D x : Addr} {ox : Obj} {od : Option Obj} (C : ExcC K D) : PySem.W.KitX K (.ref x) (.ref D) (fun h => PySem.W.InstAt h x ox D od) := by
  refine PySem.W.kitx_exc ?_ C.hg C.hk C.hs C.ha C.hn C.ht C.hm
  obtain ⟨cd, hc, _⟩ := PySem.W.any_some C.hd
  rw [hc]; rfl
theorem call_isX {q : Addr × Addr} : CallR X (.builtin "isinstance") (rIsX X.K X.pn q) := by
  intro pins s σ H xs us Q I r h
  obtain ⟨c, u, D, b, rfl, k, at_, e, z⟩ := h
  obtain ⟨u1, u2, rfl, r1, r2⟩ := vals2 r
  obtain rfl : u1 = Value.ref q.1 := r1
  have e2 := k.eq r2
  subst e2
  obtain ⟨ox, od, J⟩ := at_.inst I
  exact PySem.W.kia_one (kitx_D at_.1) I.kIn J e (fun w => nomatch w) fun tk => ⟨.bl b, H, I.tok tk, rfl, z⟩
theorem call_isXT {q : Addr × Addr} : CallR X (.builtin "isinstance") (rIsXT X.K X.pn q) := by
  intro pins s σ H xs us Q I r h
  obtain ⟨tp, cs, ws, D, b, rfl, hT, k, at_, e, z⟩ := h
  obtain ⟨u1, u2, rfl, r1, r2⟩ := vals2 r
  obtain rfl : u1 = Value.ref q.1 := r1
  obtain rfl : u2 = Value.ref tp := r2
  obtain ⟨ox, od, J⟩ := at_.inst I
  obtain ⟨_, its, rv, ⟨oc, od', dt, sl⟩, h1, h2, n, h3⟩ := (show ObjOk X.prog X.w H s.heap tp (.tup cs) from I.hok tp _ hT)
  have e3 := ClsV.all k rv
  subst e3
  dsimp only at h2 h3
  subst h2 h3
  exact PySem.W.kia_tup (kitx_D at_.1) I.kIn J h1 e (fun w => nomatch w) fun tk => ⟨.bl b, H, I.tok tk, rfl, z⟩

/-- isinstance of the exception x at q -/
def isE (q : Addr × Addr) (x : Exc) (tb : List (Str × Bool)) (d : D) : R D := match d with
  | .exc q' ns _ => if q' = q ∧ ns = x.ns then match clAt x.cls tb with
    | some b => .ok (.bl b)
    | none => .st
    else .st
  | _ => .st
@[simp] theorem isE_exc (q : Addr × Addr) (x : Exc) (tb : List (Str × Bool)) (xs : List D) : isE q x tb (.exc q x.ns xs) = match clAt x.cls tb with
    | some b => .ok (.bl b)
    | none => .st := by simp [isE]
@[simp] theorem isE_exc' (q : Addr × Addr) (c : Str) (ns : List Str) (xs ys : List D) (tb : List (Str × Bool)) : isE q ⟨c, ns, ys⟩ tb (.exc q ns xs) = match clAt c tb with
    | some b => .ok (.bl b)
    | none => .st := isE_exc q ⟨c, ns, ys⟩ tb xs
/-- which classes stand under the class by this name -/
def IsE (K : PySem.W.Frag) (mg : Str → Option Value) (cl : Str → Option Addr) (c : Str) (tb : List (Str × Bool)) : Prop :=
  ∃ v u, ClsN mg c v u ∧ ∀ p ∈ tb, ∃ D, cl p.1 = some D ∧ ExcC K D ∧ PySem.W.kitOne K (.ref D) u = some p.2
def ClsNs (mg : Str → Option Value) : List Str → List V → List Value → Prop
  | [], vs, us => vs = [] ∧ us = []
  | c :: cs, vs, us => ∃ v u vr ur, vs = v :: vr ∧ us = u :: ur ∧ ClsN mg c v u ∧ ClsNs mg cs vr ur
theorem ClsNs.prd {mg : Str → Option Value} : ∀ {cs : List Str} {vs : List V} {us : List Value}, ClsNs mg cs vs us → Paired ClsV vs us ∧ vs.length = cs.length
  | [], _, _, ⟨rfl, rfl⟩ => ⟨.nil, rfl⟩
  | c :: cs, _, _, ⟨v, u, vr, ur, rfl, rfl, h, r⟩ => ⟨.cons h.v r.prd.1, by rw [List.length_cons, List.length_cons, r.prd.2]⟩
def IsET (K : PySem.W.Frag) (mg : Str → Option Value) (cl : Str → Option Addr) (cs : List Str) (tb : List (Str × Bool)) : Prop :=
  ∃ vs us, ClsNs mg cs vs us ∧ ∀ p ∈ tb, ∃ D, cl p.1 = some D ∧ ExcC K D ∧ PySem.W.kitAny K (.ref D) us = some p.2
theorem atX_of {pn : List (Addr × Obj)} {q : Addr × Addr} {x : Exc} {xs : List D} {v : V} {D : Addr} (hx : HX X cl q x) (C : ExcC X.K D) (hD : cl x.cls = some D) (e : Ex F H) (r : Rp X.K cl F v (.exc q x.ns xs)) : v = .ref q.1 ∧ AtX X.K X.pn H q D := by
  obtain ⟨p, e1, ⟨_, vs, e2, _⟩, e3, cls, dd, z, D', k1, k2, k3⟩ := hx
  rw [hD] at k1; cases k1
  subst k2
  unfold Rp at r
  obtain ⟨rfl, r⟩ := r
  refine ⟨rfl, C, p, vs, dd, e1, e3, z, e2, ?_⟩
  rcases k3 with ⟨_, k⟩ | ⟨hn, k⟩
  · exact .inl k
  · rcases r with r | ⟨ws, r1, _, _⟩
    · exact (hn r).elim
    · exact .inr ⟨_, k, e _ _ r1⟩
def tIsE (K : PySem.W.Frag) (mg : Str → Option Value) (pn : List (Addr × Obj)) (q : Addr × Addr) (c : Str) (te : TE) : TE := fun σ H Q => ∃ v u, ClsN mg c v u ∧ tCB (rIsX K pn q) (tCons te (tCons (tC v) tNil)) σ H Q
theorem ue_isE {q : Addr × Addr} {x : Exc} {c : Str} {me : En → R D} {tb : List (Str × Bool)} (hx : HX X cl q x) (hm : X.mg "isinstance" = none) (G : IsE X.K X.mg cl c tb) (he : UE X cl W e te me) (hg2 : Gl X c := by rfl) (hg : Gl X "isinstance" := by rfl) (hdb : (c == ("__debug__" : Str)) = false := by decide)
    (hs1 : starEach (e :: [.Name c p2]) X.env = (false, eval e X.env) :: starEach [.Name c p2] X.env := by rfl)
    (hs2 : starEach (.Name c p2 :: []) X.env = (false, eval (.Name c p2) X.env) :: starEach [] X.env := by rfl)
    (hpl : (backTo pos (starEach [.Name c p2] X.env)).any (·.1) = false := by rfl) :
    UE X cl W (.Call (.Name "isinstance" p) [e, .Name c p2] [] pos) (tIsE X.K X.mg X.pn q c te) (d1 (isE q x tb) me) := by
  obtain ⟨v0, u0, h1, h2⟩ := G
  refine ⟨⟨fun pins s σ H Q I ⟨v, u, hC, h⟩ => ?_⟩, fun F0 H0 F H σ ρ Q S p => ⟨v0, u0, h1, he.es F0 H0 F H σ ρ _ S ?_⟩⟩
  · exact (pe_callB call_isX hg hm boot_isinstance (pa_cons he.pe (pa_cons (pe_clsN hC hg2 hdb) pa_nil hs2) hs1) (by decide) (by decide) hs1 hpl).run pins s σ H Q I h
  · unfold d1 at p
    cases e1 : me ρ with
    | st => rw [e1] at p; exact p
    | er y => rw [e1] at p; exact p
    | ok d =>
      rw [e1, R.bind_ok] at p
      intro v F1 H1 g r
      unfold isE at p
      split at p
      rotate_left
      · exact p.elim
      split at p
      rotate_left
      · exact p.elim
      rename_i hq
      obtain ⟨rfl, rfl⟩ := hq
      split at p
      rotate_left
      · exact p.elim
      rename_i b hb
      obtain ⟨D, k1, k2, k3⟩ := h2 _ (clAt_mem hb)
      obtain ⟨rfl, at_⟩ := atX_of (pn := X.pn) hx k2 k1 g.s r
      exact ⟨v0, u0, D, b, rfl, h1.v, at_, k3, p _ F1 H1 g rp_bl⟩
/-- names of classes, as a tuple's parts -/
def CNames (X : Cx) : List Expr → List Str → Prop
  | [], cs => cs = []
  | e :: es, cs => ∃ c r p, e = .Name c p ∧ cs = c :: r ∧ Gl X c ∧ (c == ("__debug__" : Str)) = false ∧ starEach (e :: es) X.env = (false, eval e X.env) :: starEach es X.env ∧ CNames X es r
theorem cn_nil : CNames X [] [] := rfl
theorem cn_cons {c : Str} {p : Pos} {es : List Expr} {cs : List Str} (hg : Gl X c) (hdb : (c == ("__debug__" : Str)) = false) (hst : starEach (.Name c p :: es) X.env = (false, eval (.Name c p) X.env) :: starEach es X.env) (r : CNames X es cs) : CNames X (.Name c p :: es) (c :: cs) :=
  ⟨c, cs, p, rfl, rfl, hg, hdb, hst, r⟩
def tConsts : List V → TA
  | [] => tNil
  | v :: vs => tCons (tC v) (tConsts vs)
theorem pa_cls : ∀ (es : List Expr) (cs : List Str) (vs : List V) (us : List Value), CNames X es cs → ClsNs X.mg cs vs us → PA X es (tConsts vs)
  | [], cs, vs, us, h, k => by
    have h : cs = [] := h
    subst h
    obtain ⟨rfl, _⟩ := k
    exact pa_nil
  | e :: es, cs, vs, us, h, k => by
    obtain ⟨c, r, p, e1, e2, h1, h2, h3, h4⟩ := h
    subst e2
    obtain ⟨v, u, vr, ur, e3, e4, h, k⟩ := k
    subst e1 e3
    exact pa_cons (pe_clsN h h1 h2) (pa_cls es r vr ur h4 k) h3
theorem tConsts_es {Q : List V → Hp → Prop} : ∀ {vs : List V}, Q vs H → tConsts vs σ H Q
  | [], h => h
  | v :: vs, h => tConsts_es (Q := fun ws H => Q (v :: ws) H) (vs := vs) h
def tIsET (K : PySem.W.Frag) (mg : Str → Option Value) (pn : List (Addr × Obj)) (q : Addr × Addr) (cs : List Str) (te : TE) : TE := fun σ H Q => ∃ vs us, ClsNs mg cs vs us ∧ tCB (rIsXT K pn q) (tCons te (tCons (tTup (tConsts vs)) tNil)) σ H Q
theorem ue_isET {q : Addr × Addr} {x : Exc} {cs : List Str} {es : List Expr} {me : En → R D} {tb : List (Str × Bool)} {k : Nat} (hx : HX X cl q x) (hm : X.mg "isinstance" = none) (G : IsET X.K X.mg cl cs tb) (he : UE X cl W e te me) (hes : CNames X es cs) (hlen : cs.length ≤ 20 := by decide) (hg : Gl X "isinstance" := by rfl)
    (hs1 : starEach (e :: [.Tuple es k p2]) X.env = (false, eval e X.env) :: starEach [.Tuple es k p2] X.env := by rfl)
    (hs2 : starEach (.Tuple es k p2 :: []) X.env = (false, eval (.Tuple es k p2) X.env) :: starEach [] X.env := by rfl)
    (hpl : (backTo pos (starEach [.Tuple es k p2] X.env)).any (·.1) = false := by rfl) :
    UE X cl W (.Call (.Name "isinstance" p) [e, .Tuple es k p2] [] pos) (tIsET X.K X.mg X.pn q cs te) (d1 (isE q x tb) me) := by
  obtain ⟨v0, u0, h1, h2⟩ := G
  refine ⟨⟨fun pins s σ H Q I ⟨v, u, hC, h⟩ => ?_⟩, fun F0 H0 F H σ ρ Q S p => ⟨v0, u0, h1, he.es F0 H0 F H σ ρ _ S ?_⟩⟩
  · exact (pe_callB call_isXT hg hm boot_isinstance (pa_cons he.pe (pa_cons (pe_tup (pa_cls _ _ _ _ hes hC)) pa_nil hs2) hs1) (by decide) (by decide) hs1 hpl).run pins s σ H Q I h
  · unfold d1 at p
    cases e1 : me ρ with
    | st => rw [e1] at p; exact p
    | er y => rw [e1] at p; exact p
    | ok d =>
      rw [e1, R.bind_ok] at p
      intro v F1 H1 g r
      unfold isE at p
      split at p
      rotate_left
      · exact p.elim
      split at p
      rotate_left
      · exact p.elim
      rename_i hq
      obtain ⟨rfl, rfl⟩ := hq
      split at p
      rotate_left
      · exact p.elim
      rename_i b hb
      obtain ⟨D, k1, k2, k3⟩ := h2 _ (clAt_mem hb)
      refine tConsts_es (Q := fun xs H1 => xs.length ≤ sizeLine ∧ ∀ p, H1 p = none → tNil σ (upd H1 p (.tup xs)) fun vs H2 => rIsXT X.K X.pn _ (v :: (.ref p :: vs)) H2 Q) ⟨by rw [h1.prd.2]; exact Nat.le_trans hlen (by rw [sizeLine_eq]; omega), fun tp htp => ?_⟩
      have e3 : Ex H1 (upd H1 tp (.tup v0)) := Ex.new htp
      obtain ⟨rfl, at_⟩ := atX_of (pn := X.pn) hx k2 k1 (g.s.trans e3) r
      exact ⟨tp, v0, u0, D, b, rfl, upd_same, h1.prd.1, at_, k3, p _ _ _ (g.trans (Grow.lay' g.s htp)) rp_bl⟩
end
end UP
namespace UP
open PySem L2 PyProof.Rows
section
variable {α : Type} {X : Cx} {cl : Str → Option Addr} {W : WX} {K : PySem.W.Frag} {F0 H0 F H F' H' : Hp} {σ : L2.St} {ρ : En} {mp : List (Nat × Addr)} {RP : RPt α} {Dn : Ends} {e : Expr} {te : TE} {pos pos' p p2 cpos np : Pos}
/-! ### a field of the exception that is held -/
def fldE (q : Addr × Addr) (x : Exc) (cs : List Str) (f : Str) (d : D) : R D := match d with
  | .exc q' ns xs => if q' = q ∧ ns = x.ns ∧ x.cls ∈ cs ∧ x.ns ≠ [] then match dFind f ns xs with
    | some z => .ok z
    | none => .st
    else .st
  | _ => .st
@[simp] theorem fldE_exc (q : Addr × Addr) (c : Str) (ns cs : List Str) (xs ys : List D) (f : Str) (hc : c ∈ cs) (hn : ns ≠ []) : fldE q ⟨c, ns, ys⟩ cs f (.exc q ns xs) = match dFind f ns xs with
    | some z => .ok z
    | none => .st := by simp [fldE, hc, hn]
def FldX (K : PySem.W.Frag) (cl : Str → Option Addr) (cs : List Str) (f : Str) : Prop := ∀ c ∈ cs, ∃ C, cl c = some C ∧ ExcC K C ∧ PySem.W.findIn K (.ref C) f = some none
def tXfE (K : PySem.W.Frag) (pn : List (Addr × Obj)) (q : Addr × Addr) (f : Str) (te : TE) : TE := fun σ H Q => te σ H fun x H1 => x = .ref q.1 ∧ ∃ (D : Addr) (p : Addr × Obj) (ws : Array Value) (fs : List (Str × V)) (v : V), ExcC K D ∧
  PySem.W.findIn K (.ref D) f = some none ∧ p.1 = q.1 ∧ p ∈ pn ∧ Zc (.ref D) (some q.2) p.2 ∧ p.2.data = .fields ws ∧ H1 q.2 = some (.xd fs) ∧ fs.lookup f = some v ∧ Q v H1
theorem pe_xfE {q : Addr × Addr} {f : Str} (he : PE X e te) (hb : attributeBase e f X.env (eval e X.env) = eval e X.env := by rfl) : PE X (.Attribute e f pos) (tXfE X.K X.pn q f te) := by
  refine ⟨fun pins s σ H Q I h => attr_of hb (thn (he.run pins s σ H _ I h) fun u s1 hh => ?_)⟩
  obtain ⟨x, H1, I1, rx, ex, D, p, ws, fs, v, C, hno, e1, e2, z, hd, ea, l, k⟩ := hh
  subst ex
  obtain rfl : u = Value.ref q.1 := rx
  have hget := (I1.pin p (List.mem_append_left _ e2)).1
  rw [e1] at hget
  have hx : ObjOk X.prog X.w H1 s1.heap q.2 (.xd fs) := I1.hok q.2 _ ea
  obtain ⟨mA, hns, hr⟩ := hx
  obtain ⟨od, ho, hl⟩ := lookIn_ns hns
  obtain ⟨u, hu, ru⟩ := RelO.some_of (v := v) (o := mA f) (by rw [← l]; exact hr f)
  have J : PySem.W.InstAt s1.heap q.1 p.2 D (some od) := ⟨hget, z.1, by unfold PySem.W.notCls; rw [hd] <;> rfl, by rw [z.2]; exact ho⟩
  exact PySem.HandSPX.exc_get I1.kIn J C.hg C.hk C.hs (PySem.W.findObj_own C.hd hno rfl (by rw [hl, hu])) (handed_of ru) ⟨v, H1, I1.tok _, ru, k⟩
theorem ue_fldE {q : Addr × Addr} {x : Exc} {cs : List Str} {f : Str} {me : En → R D} (hx : HX X cl q x) (G : FldX X.K cl cs f) (he : UE X cl W e te me) (hb : attributeBase e f X.env (eval e X.env) = eval e X.env := by rfl) :
    UE X cl W (.Attribute e f pos) (tXfE X.K X.pn q f te) (d1 (fldE q x cs f) me) := by
  refine ⟨pe_xfE he.pe hb, fun F0 H0 F H σ ρ Q S p => he.es F0 H0 F H σ ρ _ S ?_⟩
  unfold d1 at p
  cases e1 : me ρ with
  | st => rw [e1] at p; exact p
  | er y => rw [e1] at p; exact p
  | ok d =>
    rw [e1, R.bind_ok] at p
    intro v F1 H1 g r
    unfold fldE at p
    split at p
    rotate_left
    · exact p.elim
    split at p
    rotate_left
    · exact p.elim
    rename_i hq
    obtain ⟨rfl, rfl, hc, hn⟩ := hq
    split at p
    rotate_left
    · exact p.elim
    rename_i z hz
    obtain ⟨C, k1, k2, k3⟩ := G _ hc
    obtain ⟨p0, e2, ⟨_, vs, e3, _⟩, e4, cls, dd, zz, D', j1, j2, j3⟩ := hx
    rw [k1] at j1; cases j1
    subst j2
    unfold Rp at r
    obtain ⟨rfl, r⟩ := r
    rcases j3 with ⟨j3, _⟩ | ⟨_, j3⟩
    · exact (hn j3).elim
    subst j3
    rcases r with r | ⟨us, r1, r2, r3⟩
    · exact (hn r).elim
    obtain ⟨v, q1, q2⟩ := dFind_ok r2 r3 hz
    exact ⟨rfl, C, p0, vs, _, v, k2, k3, e2, e4, zz, e3, g.s _ _ r1, q1, p v F1 H1 g q2⟩
end

/-! ### defs called within a suite -/
theorem _root_.L2H.RoomH.units {k : Nat} {A : Around} (r : L2H.RoomH k A) : A.units + 64 < cLine := by have := r.un; omega
theorem _root_.L2H.RoomH.units0 {k : Nat} {A : Around} (r : L2H.RoomH k A) : A.units < cLine := by have := r.un; omega
/-- the exception p is x, at q -/
def IsX (cl : Str → Option Addr) (q : Addr × Addr) (x : Exc) (p : Addr × Obj) : Prop := p.1 = q.1 ∧ ∃ cls dd, Zc cls dd p.2 ∧ LnkE cl q x cls dd
/-- what a def promises where the exception p is held: told of p -/
structure FnX (P : Program) (w : World) (K : PySem.W.Frag) (mg : Str → Option Value) (base : Heap) (CX : CXT) (k : Nat) (f : Addr) (fd : FuncData) (ps : List Str) (sp : Addr × Obj → Sp) : Prop where
  wide : ∀ z vs H Q E, sp z vs H Q E → vs.length = ps.length
  go : ∀ (A : Around) (z : Addr × Obj) (outer : List Env) (s : Shared) (H : Hp) (args : Args) (us : List Value) (vs : List V) (Q : VK) (E : XK), L2H.RoomH k A → L2H.Hot1 A z → L2H.PinOk outer H s z → Env0 P w K mg base A outer s H →
    BindsTo s fd args (ps.zip us) → Vals vs us → sp z vs H Q E → codeAny (model P w) A (.call (.ref f) args) (CR CX outer P w H s Q E) s
section
variable {P : Program} {w : World} {K : PySem.W.Frag} {mg : Str → Option Value} {base : Heap} {cl : Str → Option Addr} {CX : CXT}
theorem fnX_of {x qual : Str} {st : Stmt} {f : Addr} {fd : FuncData} {N ps : List Str} {k : Nat} {sp : Addr × Obj → Sp} (F : Fun K x qual st f fd) (S : FnScope N ps (defScope st)) (hl : ∀ z vs H Q E, sp z vs H Q E → vs.length = ps.length)
    (hb : ∀ (cdv : Value) (A : Around) (z : Addr × Obj) (outer : List Env) (s : Shared) (H : Hp) (vs : List V) (Q : VK) (E : XK), L2H.Hot1 A z → L2H.RoomH k (A.deeper (envOfC qual (defScope st) s.heap.objs.size f cdv)) → sp z vs H Q E →
      ∃ t, PSs (L2H.cxH CX P w K mg base N qual (defScope st) f cdv A outer s H E z) (defBody st) t ∧ t { nx := fun _ H' => Q .non H', rt := Q } (L2.start N vs) H) : FnX P w K mg base CX (k + 1) f fd ps sp := by
  obtain ⟨_, _, _, _, _, _, cdv, _, _, e, q1, q2⟩ := F.ex
  subst e
  refine ⟨hl, fun A z outer s H args us vs Q E room hot pin e0 bd rv hsp => ?_⟩
  have kept := fun (b : Addr) (o : Obj) (h : base.get? b = some o) => (e0.bs b o h).1
  have inK : K.In s.heap := e0.mod.kin.keeps kept
  refine codeAny_call_function room.depth (inK _ _ q1) rfl S.co S.gen rfl (PySem.W.codeRec_of inK q2) (bd _ _ _ _ (wpAny_newFunctionEnv_cells S.kind (fun y hy => ?_) fun env he s1 inc => ?_))
  · rcases S.par y.1 (List.of_mem_zip (a := y.1) (b := y.2) hy).1 with c | c
    · exact Or.inl c
    · exact Or.inr ⟨c, PySem.W.cellsFrom_some _ _ _ (Or.inl c)⟩
  · subst he
    obtain ⟨t, U, ht⟩ := hb cdv A z outer s H vs Q E hot (room.deeper _) hsp
    have J := L2H.inv_startH (CX := CX) (E := E) (cd := cdv) (f := f) S pin e0 (hl _ _ _ _ _ hsp) rv inc
    refine ⟨Heap.NoLimit.keeps (e0.mod.nolimit.keeps kept) inc.toInCall.keep, codeAny_func (wpAny_mono (U.run [] s1 _ H _ J ht) (fun fl s2 hs => ?_) fun _ _ h => h)⟩
    cases fl with
    | ret u => exact let ⟨v, _, H2, I2, r2, h2⟩ := hs; ⟨v, H2, I2.os, I2.bare, I2.base, I2.hok, r2, h2⟩
    | next => exact let ⟨_, H2, I2, h2⟩ := hs; ⟨V.non, H2, I2.os, I2.bare, I2.base, I2.hok, rfl, h2⟩
    | brk => exact let ⟨_, _, _, h2⟩ := hs; h2.elim
    | cont => exact let ⟨_, _, _, h2⟩ := hs; h2.elim
/-- what such a def tells: it raises nothing -/
def flH : Fl D → R D
  | .rt d _ => .ok d
  | .nx _ => .ok .non
  | _ => .st
def runH (n : Nat) (mb : En → Fl D) (ds : List D) : R D := flH (mb (startE n ds))
theorem runH_ap (n : Nat) (mb : En → Fl D) (ds : List D) : runH n mb ds = flH (mb (startE n ds)) := id rfl
@[simp] theorem flH_rt (d : D) (ρ : En) : flH (.rt d ρ) = .ok d := id rfl
@[simp] theorem flH_nx (ρ : En) : flH (.nx ρ) = .ok .non := id rfl
@[simp] theorem flH_st : flH .st = .st := id rfl
/-- what m says of the exception that is held -/
def spVX (K : PySem.W.Frag) (cl : Str → Option Addr) (n : Nat) (m : Addr × Addr → Exc → List D → R D) : Addr × Obj → Sp := fun z vs H Q E => ∃ q x, IsX cl q x z ∧ spV K cl n (m q x) vs H Q E
theorem hx_start {N : List Str} {qual : Str} {scope : Scope} {f : Addr} {cd : Value} {A : Around} {outer : List Env} {s : Shared} {H : Hp} {E : XK} {z : Addr × Obj} {q : Addr × Addr} {x : Exc} (hot : L2H.Hot1 A z) (h : IsX cl q x z) :
    HX (L2H.cxH CX P w K mg base N qual scope f cd A outer s H E z) cl q x := ⟨z, h.1, hot, List.mem_singleton.mpr rfl, h.2⟩
theorem def_X {x qual : Str} {st : Stmt} {f : Addr} {fd : FuncData} {N ps : List Str} {k : Nat} {mb : Addr × Addr → Exc → En → Fl D} (F : Fun K x qual st f fd) (S : FnScope N ps (defScope st)) (hn : ps.length ≤ N.length)
    (hb : ∀ (cdv : Value) (A : Around) (outer : List Env) (s : Shared) (H : Hp) (E : XK) (z : Addr × Obj) (q : Addr × Addr) (x : Exc), L2H.RoomH k (A.deeper (envOfC qual (defScope st) s.heap.objs.size f cdv)) →
      HX (L2H.cxH (L2N.CX P w) P w K mg base N qual (defScope st) f cdv A outer s H E z) cl q x →
      ∃ t, USs (L2H.cxH (L2N.CX P w) P w K mg base N qual (defScope st) f cdv A outer s H E z) cl WF [] (RPV K cl []) (defBody st) t (mb q x)) :
    FnX P w K mg base (L2N.CX P w) (k + 1) f fd ps (spVX K cl ps.length fun q x => runH N.length (mb q x)) := by
  refine fnX_of F S (fun z vs H Q E ⟨_, _, _, ds, F, _, _, h, _⟩ => h) fun cdv A z outer s H vs Q E hot hr h => ?_
  obtain ⟨q, x, hx, ds, Fh, ex, r, hl, p⟩ := h
  obtain ⟨t, U⟩ := hb cdv A outer s H E z q x hr (hx_start hot hx)
  refine ⟨t, U.pe, U.es Fh H Fh H _ _ _ (sr_start ex r (by omega)) (fun q hq => by cases hq) ?_⟩
  have p : PostC K cl Fh H Q E (flH (mb q x (startE N.length ds))) := p
  cases e : mb q x (startE N.length ds) with
  | nx ρ => rw [e] at p; exact fun σ F' H' _ S' _ => p .non F' H' S'.grow rp_non
  | rt d ρ => rw [e] at p; exact fun v σ F' H' S' _ r' => p v F' H' S'.grow r'
  | bk ρ => rw [e] at p; exact p.elim
  | ct ρ => rw [e] at p; exact p.elim
  | er y ρ => rw [e] at p; exact p.elim
  | st => rw [e] at p; exact p.elim
end
/-- a def that can be called within a suite -/
def CalX (P : Program) (w : World) (K : PySem.W.Frag) (mg : Str → Option Value) (base : Heap) (cl : Str → Option Addr) (k : Nat) (x : Str) (ps : List Str) (n : Nat) (m : Addr × Addr → Exc → List D → R D) : Prop :=
  ∃ (f : Addr) (fd : FuncData), FnX P w K mg base (L2N.CX P w) k f fd ps (spVX K cl n m) ∧ mg x = some (.ref f) ∧ PySem.W.keepIn K (.ref f) = true ∧ Binds K fd ps []
section
variable {X : Cx} {cl : Str → Option Addr} {W : WX} {e : Expr} {es : List Expr} {t : TA} {p pos : Pos} {x : Str} {ps : List Str} {k n : Nat}
/-- the promise at the exception that is held -/
def tCallX (pn : List (Addr × Obj)) (A : Around) (sp : Addr × Obj → Sp) (E : L2.St → XK) (t : TA) : TE := fun σ H Q => ∃ z, L2H.Hot1 A z ∧ z ∈ pn ∧ t σ H fun vs H1 => sp z vs H1 Q (E σ)
theorem pe_callX {f : Addr} {fd : FuncData} {sp : Addr × Obj → Sp} (F : FnX X.prog X.w X.K X.mg X.base (L2N.CX X.prog X.w) k f fd ps sp) (hr : L2H.RoomH k X.A) (hm : X.mg x = some (.ref f)) (hk : PySem.W.keepIn X.K (.ref f) = true) (hb : Binds X.K fd ps []) (tk : L2N.Takes X W)
    (ha : PA X (e :: es) t) (hg : Gl X x) (hdb : (x == ("__debug__" : Str)) = false) (he : starEach (e :: es) X.env = (false, eval e X.env) :: starEach es X.env) (hpl : (backTo pos (starEach es X.env)).any (·.1) = false) :
    PE X (.Call (.Name x p) (e :: es) [] pos) (tCallX X.pn X.A sp (WE W) t) := by
  refine ⟨fun pins s σ H Q I ⟨z, hot, hz, h⟩ => wpAny_Call_Name_kw (ld_glob I hg hm (PySem.W.callWith_K (h₀ := X.base) I.ok.mod.kin hk (thn (ha.run pos pins s σ H _ I h) fun us s1 hh => ?_) he hpl) hdb)⟩
  obtain ⟨vs, H1, I1, r, q⟩ := hh
  refine ⟨I1.kIn, ?_⟩
  have b := hb s1 us I1.kIn (by rw [List.append_nil, ← r.length]; exact F.wide _ _ _ _ _ q)
  rw [List.append_nil] at b
  obtain ⟨p1, p2, p3, p4⟩ := I1.pin z (List.mem_append_left _ hz)
  have pin : L2H.PinOk X.stack H1 s1 z := ⟨p1, p2, fun hm => Or.elim (List.mem_cons.mp (I1.stkSub z.1 hm)) p3 p4.1, p4.2⟩
  refine wpAny_call (codeAny_mono (F.go X.A z X.stack s1 H1 ⟨us, []⟩ us vs Q (WE W σ) hr hot pin I1.env0 b r q) fun y s2 hy => ?_)
  rcases y with err | fl
  · exact L2N.passAt tk σ pins H1 s1 err s2 I1 hy
  · cases fl with
    | ret u => exact I1.after hy
    | next => exact hy.elim
    | brk => exact hy.elim
    | cont => exact hy.elim
theorem ue_callX {ma : En → R (List D)} {m : Addr × Addr → Exc → List D → R D} {q : Addr × Addr} {y : Exc} (hx : HX X cl q y) (G : CalX X.prog X.w X.K X.mg X.base cl k x ps n m) (hr : L2H.RoomH k X.A) (tk : L2N.Takes X W) (hn : ps.length = n) (ha : UA X cl W (e :: es) t ma)
    (hl : ∀ ρ ds, ma ρ = .ok ds → ds.length = n) (hg : Gl X x := by rfl)
    (hdb : (x == ("__debug__" : Str)) = false := by decide) (he : starEach (e :: es) X.env = (false, eval e X.env) :: starEach es X.env := by rfl) (hpl : (backTo pos (starEach es X.env)).any (·.1) = false := by rfl) :
    UE X cl W (.Call (.Name x p) (e :: es) [] pos) (tCallX X.pn X.A (spVX X.K cl n m) (WE W) t) (d1 (m q y) ma) := by
  obtain ⟨f, fd, F, hm, hk, hb⟩ := G
  refine ⟨pe_callX F hr hm hk hb tk ha.pe hg hdb he hpl, fun F0 H0 F H σ ρ Q S p => ?_⟩
  obtain ⟨z, z1, z2, z3, z4⟩ := hx
  refine ⟨z, z2, z3, ha.es F0 H0 F H σ ρ _ S ?_⟩
  unfold d1 at p
  cases e : ma ρ with
  | st => rw [e] at p; exact p
  | er x => rw [e] at p; exact p
  | ok ds =>
    rw [e, R.bind_ok] at p
    intro vs F1 H1 g r
    refine ⟨q, y, ⟨z1, z4⟩, ds, F1, g.s, r, by rw [r.length, hl ρ ds e], ?_⟩
    cases e2 : m q y ds with
    | st => rw [e2] at p; exact p
    | er x => rw [e2] at p; exact fun c d F2 H2 g2 q => p c d F2 H2 (g.trans g2) q
    | ok d => rw [e2] at p; exact fun v F2 H2 g2 q => p v F2 H2 (g.trans g2) q
end
theorem roomX {k : Nat} {A : Around} {v : Option Value} (r : Room k A) : L2H.RoomH k (A.mark v) := ⟨r.dp, r.un⟩
end UP
namespace UP
open PySem L2 PyProof.Rows
/-! ### isinstance of a built-in class, an own class's object among what is asked -/
def NotT (K : PySem.W.Frag) (cl : Str → Option Addr) (cs : List Str) (t : Ty) : Prop := ∀ c ∈ cs, ∃ C : Addr, cl c = some C ∧ IsF K C ∧ PySem.W.kitOne K (.ref C) (.type t.nm) = some false
theorem notT_nil {K : PySem.W.Frag} {cl : Str → Option Addr} {t : Ty} : NotT K cl [] t := fun c h => by cases h
theorem notT_cons {K : PySem.W.Frag} {cl : Str → Option Addr} {t : Ty} {c : Str} {cs : List Str} {C : Addr} (h1 : cl c = some C) (h2 : IsF K C) (h3 : PySem.W.kitOne K (.ref C) (.type t.nm) = some false) (r : NotT K cl cs t) : NotT K cl (c :: cs) t := fun d h => by
  rcases List.mem_cons.mp h with z | z
  · subst z; exact ⟨C, h1, h2, h3⟩
  · exact r d z
def isKO (t : Ty) (cs : List Str) (d : D) : R D := match d with
  | .obj c _ _ => if c ∈ cs then .ok (.bl false) else .st
  | d => isK t d
@[simp] theorem isKO_obj (t : Ty) (cs : List Str) (c : Str) (ns : List Str) (xs : List D) : isKO t cs (.obj c ns xs) = if c ∈ cs then .ok (.bl false) else .st := id rfl
@[simp] theorem isKO_lst (t : Ty) (cs : List Str) (xs : List D) : isKO t cs (.lst xs) = isK t (.lst xs) := id rfl
@[simp] theorem isKO_tup (t : Ty) (cs : List Str) (xs : List D) : isKO t cs (.tup xs) = isK t (.tup xs) := id rfl
@[simp] theorem isKO_int (t : Ty) (cs : List Str) (i : Int) : isKO t cs (.int i) = isK t (.int i) := id rfl
@[simp] theorem isKO_bl (t : Ty) (cs : List Str) (i : Bool) : isKO t cs (.bl i) = isK t (.bl i) := id rfl
@[simp] theorem isKO_str (t : Ty) (cs : List Str) (i : Str) : isKO t cs (.str i) = isK t (.str i) := id rfl
@[simp] theorem isKO_non (t : Ty) (cs : List Str) : isKO t cs .non = isK t .non := id rfl
@[simp] theorem isKO_dk (t : Ty) (cs : List Str) (k : List Key) (xs : List D) : isKO t cs (.dk k xs) = isK t (.dk k xs) := id rfl
section
variable {X : Cx} {cl : Str → Option Addr} {W : WX} {a : Expr} {ta : TE} {ma : En → R D} {p p2 pos : Pos} {x : Str}
theorem ue_isiO (t : Ty) {cs : List Str} (hm : X.mg "isinstance" = none) (ht : X.mg (Str.ofString t.nm) = none) (G : NotT X.K cl cs t) (ha : UE X cl W a ta ma) (hg2 : Gl X (Str.ofString t.nm) := by rfl) (hg : Gl X "isinstance" := by rfl)
    (hs1 : starEach (a :: [.Name (Str.ofString t.nm) p2]) X.env = (false, eval a X.env) :: starEach [.Name (Str.ofString t.nm) p2] X.env := by rfl)
    (hs2 : starEach (.Name (Str.ofString t.nm) p2 :: []) X.env = (false, eval (.Name (Str.ofString t.nm) p2) X.env) :: starEach [] X.env := by rfl)
    (hpl : (backTo pos (starEach [.Name (Str.ofString t.nm) p2] X.env)).any (·.1) = false := by rfl) :
    UE X cl W (.Call (.Name "isinstance" p) [a, .Name (Str.ofString t.nm) p2] [] pos) (tCB (rIsi X.K) (tCons ta (tCons (tC (.ty t.nm)) tNil))) (d1 (isKO t cs) ma) := by
  refine ⟨(ue_isi t hm ht ha hg2 hg hs1 hs2 hpl).pe, fun F0 H0 F H σ ρ Q S p => ?_⟩
  have B := fun q => (ue_isi (p := ‹_›) (p2 := p2) (pos := pos) t hm ht ha hg2 hg hs1 hs2 hpl).es F0 H0 F H σ ρ Q S q
  unfold d1 at p B
  cases e1 : ma ρ with
  | st => rw [e1] at p; exact p.elim
  | er y => rw [e1] at p B; exact B p
  | ok d =>
    rw [e1, R.bind_ok] at p
    rw [e1, R.bind_ok] at B
    cases d with
    | obj c ns xs =>
      have p : Post X.K cl W σ F H Q (if c ∈ cs then .ok (.bl false) else .st) := p
      by_cases hc : c ∈ cs
      · rw [if_pos hc] at p
        obtain ⟨C, k1, k2, k3⟩ := G c hc
        refine ha.es F0 H0 F H σ ρ _ S ?_
        rw [e1]
        intro v F1 H1 g r
        unfold Rp at r
        obtain ⟨a', C', dx, vs, rfl, q1, q2, q3, q4⟩ := r
        rw [k1] at q1; cases q1
        exact ⟨_, _, .ref C, .type t.nm, false, rfl, .ty t.nm, .base (.ins (g.s _ _ q2) k2.cl k2.ha k2.hn k2.htk k2.hm), k3, p _ F1 H1 g rp_bl⟩
      · rw [if_neg hc] at p; exact p.elim
    | _ => exact B p
end
end UP
namespace UP
open PySem L2 PyProof.Rows
open Classical in
/-- for y in x, x ours: it stays as it is -/
noncomputable def fLoopO {α : Type} (i : Nat) (d0 : List D) (mg : D → En → R En) (mb : En → Fl α) : List D → En → Fl α
  | [], ρ => if ρ[i]? = some (.own (.lst d0)) then .nx ρ else .st
  | d :: ds, ρ => if ρ[i]? = some (.own (.lst d0)) then fG (mg d ρ) fun ρ1 => fAft (mb ρ1) (fLoopO i d0 mg mb ds) else .st
noncomputable def fForO {α : Type} (i : Nat) (W : List Nat) (mg : D → En → R En) (mb : En → Fl α) : En → Fl α := fun ρ => match ρ[i]? with
  | some (.own (.lst ds)) => fLoopO i ds mg mb ds (wipeE ρ W)
  | _ => .st
section
variable {α : Type} {X : Cx} {cl : Str → Option Addr} {W : WX} {K : PySem.W.Frag} {F0 H0 F H F' H' : Hp} {σ : L2.St} {ρ : En} {mp : List (Nat × Addr)} {RP : RPt α} {Dn : Ends} {e o : Expr} {te : TE} {pos apos cpos pos' : Pos} {es : List Expr} {t : TA}
theorem us_forO (Wp : List Nat) {i : Nat} {a : Addr} {tg : Expr} {body : List Stmt} {g : TG} {tb : TS} {mg : D → En → R En} {ws : List Nat} {mb : En → Fl α} (po : PassesOwn (model X.prog X.w) X.A X.env X.xe) (hc : X.calm = true)
    (hin : (i, a) ∈ mp) (ho : PE X o (tVar i)) (hg : UG X cl tg g mg ws) (hb : USs X cl W mp RP body tb mb) (hp : ∀ i ∈ ws, i ∉ mp.map (·.1))
    (hs : ∀ x, foldedSetIterable o X.env x = pure x := by intro _; rfl) : US X cl W mp RP (.For tg o body [] pos) (tFor (iList X.K (tVar i)) g tb) (fForO i Wp mg mb) := by
  refine ⟨ps_for po hc (pi_list ho) hg.pe hb.pe hs, fun F0 H0 F H σ ρ Dn S P p => ?_⟩
  unfold fForO at p
  split at p
  rotate_left
  · exact p.elim
  rename_i ds hi
  have own_at : ∀ {F2 H2 : Hp} {σ2 : L2.St} {ρ2 : En}, Sr X.K cl F0 H0 F2 H2 σ2 ρ2 → Pin mp σ2 → ρ2[i]? = some (.own (.lst ds)) → ∃ vs, H2 a = some (.lst vs) ∧ Rps X.K cl F2 vs ds := fun {F2 H2 σ2 ρ2} S2 P2 e2 => by
    obtain ⟨q, hv, h1, h2, h3, ⟨vs, rfl, h4⟩, h5⟩ := S2.own i _ e2
    have := P2 (i, a) hin
    simp only at this
    rw [h1] at this
    cases this
    exact ⟨vs, h3, h4⟩
  obtain ⟨vs0, hv0, _⟩ := own_at S P hi
  have hp0 := P (i, a) hin
  refine ⟨_, hp0, a, rfl, ⟨vs0, Or.inl (Or.inl hv0)⟩, ?_⟩
  refine ⟨fun j m σ H => m = ds.length - j ∧ j ≤ ds.length ∧ ∃ F2 ρ2, Sr X.K cl F0 H0 F2 H σ ρ2 ∧ Pin mp σ ∧ Ex F F2 ∧ PostS X.K cl W mp RP F0 H0 F2 Dn (fLoopO i ds mg mb (ds.drop j) ρ2),
    ⟨ds.length, by simp, Nat.zero_le _, F, wipeE ρ Wp, S.unsE Wp, P, Ex.refl _, by simpa using p⟩, ?_⟩
  rintro j m σ H ⟨rfl, hj, F2, ρ2, S2, P2, e2, p2⟩
  by_cases hlt : j < ds.length
  · have hd : ds[j]? = some ds[j] := List.getElem?_eq_getElem hlt
    rw [List.drop_eq_getElem_cons hlt] at p2
    unfold fLoopO at p2
    split at p2
    rotate_left
    · exact p2.elim
    rename_i hown
    obtain ⟨vs, hv, rv⟩ := own_at S2 P2 hown
    have sq : SqL X.K H a vs := Or.inl (Or.inl hv)
    obtain ⟨v, hvj, rj⟩ := rv.get hd
    refine .inr ⟨⟨vs, v, sq, hvj⟩, fun σ H => ∃ F2 ρ2, Sr X.K cl F0 H0 F2 H σ ρ2 ∧ Pin mp σ ∧ Ex F F2 ∧ PostS X.K cl W mp RP F0 H0 F2 Dn (fLoopO i ds mg mb (ds.drop (j + 1)) ρ2), fun σ' H' n => ⟨ds.length - (j + 1), by omega, rfl, hlt, n⟩, fun x H3 y => ?_⟩
    obtain ⟨e, y⟩ := y
    subst e
    have := y vs sq
    rw [hvj] at this; cases this
    refine hg.es F0 H0 F2 H3 σ ρ2 v _ _ S2 rj ?_
    cases e3 : mg ds[j] ρ2 with
    | st => rw [e3] at p2; exact p2
    | er x => rw [e3] at p2; exact p2
    | ok ρ3 =>
      rw [e3] at p2
      have p2 : PostS X.K cl W mp RP F0 H0 F2 Dn (fAft (mb ρ3) (fLoopO i ds mg mb (ds.drop (j + 1)))) := p2
      intro σ3 S3 hl3 hk3
      have P3 : Pin mp σ3 := fun z hz => by rw [hk3 _ fun w => hp _ w (List.mem_map.mpr ⟨z, hz, rfl⟩)]; exact P2 z hz
      refine hb.es F0 H0 F2 H3 σ3 ρ3 _ S3 P3 ?_
      cases e4 : mb ρ3 with
      | nx ρ4 => rw [e4] at p2; exact fun σ4 F4 H4 E4 S4 P4 => ⟨F4, ρ4, S4, P4, e2.trans E4, PostS.mono p2 E4⟩
      | ct ρ4 => rw [e4] at p2; exact fun σ4 F4 H4 E4 S4 P4 => ⟨F4, ρ4, S4, P4, e2.trans E4, PostS.mono p2 E4⟩
      | bk ρ4 => rw [e4] at p2; exact fun σ4 F4 H4 E4 S4 P4 => p2 σ4 F4 H4 E4 S4 P4
      | rt d ρ4 => rw [e4] at p2; exact p2
      | er x ρ4 => rw [e4] at p2; exact p2
      | st => rw [e4] at p2; exact p2
  · have hje : j = ds.length := by omega
    subst hje
    rw [List.drop_length] at p2
    unfold fLoopO at p2
    split at p2
    rotate_left
    · exact p2.elim
    rename_i hown
    obtain ⟨vs, hv, rv⟩ := own_at S2 P2 hown
    have sq : SqL X.K H a vs := Or.inl (Or.inl hv)
    exact .inl ⟨⟨vs, sq, by rw [rv.length]; exact Nat.le_refl _⟩, p2 σ F2 H (Ex.refl _) S2 P2⟩
end
end UP
namespace UP
open PySem L2 PyProof.Rows
/-! ### several of ours handed to a def -/
def dls (H : Hp) (ps : List Addr) : Hp := fun a => if a ∈ ps then none else H a
theorem dls_in {H : Hp} {ps : List Addr} {a : Addr} (h : a ∈ ps) : dls H ps a = none := if_pos h
theorem dls_out {H : Hp} {ps : List Addr} {a : Addr} (h : a ∉ ps) : dls H ps a = H a := if_neg h
theorem dls_ex {H : Hp} {ps : List Addr} : Ex (dls H ps) H := fun a o e => by
  by_cases h : a ∈ ps
  · rw [dls_in h] at e; cases e
  · rw [dls_out h] at e; exact e
section
variable {K : PySem.W.Frag} {cl : Str → Option Addr} {F0 H0 F H F' H' : Hp} {σ : L2.St} {ρ : En}
theorem val_ne {d : D} : Sl.val d ≠ .un := fun z => nomatch z
def isSt : Sl → Prop
  | .val _ => True
  | .own _ => True
  | _ => False
theorem sr_startG {N : List Str} {vs : List V} {sls : List Sl} {ps : List Addr} (e : Ex F H) (hl : vs.length = sls.length) (hN : vs.length ≤ N.length) (hst : ∀ s ∈ sls, isSt s)
    (hval : ∀ (i : Nat) (d : D), sls[i]? = some (.val d) → ∃ v, vs[i]? = some v ∧ Rp K cl F v d)
    (hown : ∀ (i : Nat) (o : DO), sls[i]? = some (.own o) → ∃ p ho, vs[i]? = some (.ref p) ∧ p ∈ ps ∧ F p = none ∧ H p = some ho ∧ HR K cl F ho o)
    (hdis : ∀ (i j : Nat) (o o' : DO) (p : Addr), sls[i]? = some (.own o) → sls[j]? = some (.own o') → vs[i]? = some (.ref p) → vs[j]? = some (.ref p) → i = j) :
    Sr K cl F (dls H ps) F H (L2.start N vs) (sls ++ List.replicate (N.length - sls.length) .un) := by
  have g : Grow F (dls H ps) F H := ⟨Ex.refl _, e, dls_ex, fun _ _ _ z => z⟩
  have at_ : ∀ {i : Nat} {q : Sl}, q ≠ .un → (sls ++ List.replicate (N.length - sls.length) Sl.un)[i]? = some q → i < sls.length ∧ sls[i]? = some q := fun {i q} hq h => by
    by_cases h1 : i < sls.length
    · rw [List.getElem?_append_left h1] at h; exact ⟨h1, h⟩
    · rw [List.getElem?_append_right (by omega)] at h
      exact absurd (List.eq_of_mem_replicate (List.mem_of_getElem? h)) hq
  have st_ : ∀ {i : Nat} {v : V}, vs[i]? = some v → (L2.start N vs)[i]? = some (some v) := fun {i v} h => by
    have hi := (List.getElem?_eq_some_iff.mp h).1
    unfold L2.start
    rw [List.getElem?_append_left (by simpa using hi), List.getElem?_map, h]; rfl
  have ts_ : ∀ {i : Nat} {v : V}, i < vs.length → (L2.start N vs)[i]? = some (some v) → vs[i]? = some v := fun {i v} hi h => by
    unfold L2.start at h
    rw [List.getElem?_append_left (by simpa using hi), List.getElem?_map, List.getElem?_eq_getElem hi] at h
    rw [List.getElem?_eq_getElem hi]
    simpa using h
  refine ⟨g, ?_, fun i d h => ?_, fun i o h => ?_, fun i j o1 o2 q e1 e2 h1 h2 => ?_, trOk_none fun i t h => ?_⟩
  · unfold L2.start; simp; omega
  · obtain ⟨_, h2⟩ := at_ val_ne h
    obtain ⟨v, hv, rv⟩ := hval i d h2
    exact ⟨v, st_ hv, rv⟩
  · obtain ⟨_, h2⟩ := at_ own_ne h
    obtain ⟨p, ho, k1, k2, k3, k4, k5⟩ := hown i o h2
    exact ⟨p, ho, st_ k1, k3, k4, k5, dls_in k2⟩
  · obtain ⟨i1, k1⟩ := at_ own_ne e1
    obtain ⟨i2, k2⟩ := at_ own_ne e2
    exact hdis i j o1 o2 q k1 k2 (ts_ (by omega) h1) (ts_ (by omega) h2)
  · obtain ⟨h1, h2⟩ := at_ tr_ne h
    have := hst _ (List.mem_of_getElem? h2)
    exact this.elim
theorem Sr.inout2 {i j : Nat} {p q : Addr} {ho' hu' : HO} {o o' u u' : DO} (S : Sr K cl F0 H0 F H σ ρ) (hij : i ≠ j) (hi : ρ[i]? = some (.own o)) (hj : ρ[j]? = some (.own u)) (hp : σ[i]? = some (some (.ref p))) (hq : σ[j]? = some (some (.ref q)))
    (g : Grow F (dls H [p, q]) F' H') (hf : F' p = none) (hH : H' p = some ho') (r : HR K cl F' ho' o') (hf2 : F' q = none) (hH2 : H' q = some hu') (r2 : HR K cl F' hu' u') :
    Sr K cl F0 H0 F' H' σ ((ρ.set i (.own o')).set j (.own u')) := by
  obtain ⟨p', ho, h1, h2, h3, h4, h5⟩ := S.own i o hi
  rw [hp] at h1; cases h1
  obtain ⟨q', hu, k1, k2, k3, k4, k5⟩ := S.own j u hj
  rw [hq] at k1; cases k1
  have hi' : i < ρ.length := (List.getElem?_eq_some_iff.mp hi).1
  have hj' : j < ρ.length := (List.getElem?_eq_some_iff.mp hj).1
  have hpq : p ≠ q := fun z => hij (S.dis i j o u p hi hj hp (z ▸ hq))
  have out_ : ∀ {a : Addr} {w : HO}, a ≠ p → a ≠ q → H a = some w → dls H [p, q] a = some w := fun {a w} z1 z2 e => by
    rw [dls_out (by simp [z1, z2])]; exact e
  have g2 : Grow F0 H0 F' H' := ⟨S.grow.f.trans g.f, g.s, fun a w e => g.h a w (out_ (ne_of_none e h5) (ne_of_none e k5) (S.grow.h a w e)), fun a w e z => by
    have ha := ne_of_none e h5
    have ha2 := ne_of_none e k5
    exact g.n a w (out_ ha ha2 (S.grow.h a w e)) (S.grow.n a w e z)⟩
  have notin : ∀ (jj : Nat) (t : DT) (v : V) (fp : List Addr), ρ[jj]? = some (.tr t) → σ[jj]? = some (some v) → Tr K cl F' H' v t fp → p ∉ fp ∧ q ∉ fp := fun jj t v fp e1 e2 h => by
    obtain ⟨ω, t1, t2, t3⟩ := S.tr
    obtain ⟨v', q1, q2, q3, q4⟩ := t1 jj t e1
    rw [e2] at q1; cases q1
    have np := t3 jj i t o p e1 hi hp
    have nq := t3 jj j t u q e1 hj hq
    have same : ∀ a ∈ ω jj, H' a = H a := fun a ha => by
      obtain ⟨w, hw⟩ := q2.here a ha
      rw [hw]
      exact g.h a w (out_ (fun z => np (z ▸ ha)) (fun z => nq (z ▸ ha)) hw)
    have := Tr.mono g.f q2 same
    rw [h.fn this]
    exact ⟨np, nq⟩
  have S1 : Sr K cl F0 H0 F' H' σ ((ρ.set i .un).set j .un) := by
    have S0 := (S.unE (i := i)).unE (i := j)
    have back : ∀ {n : Nat} {s : Sl}, s ≠ .un → ((ρ.set i .un).set j .un)[n]? = some s → n ≠ i ∧ n ≠ j ∧ ρ[n]? = some s := fun {n s} hs e => by
      obtain ⟨e1, e2⟩ := set_un e hs
      obtain ⟨e3, e4⟩ := set_un e2 hs
      exact ⟨e3, e1, e4⟩
    refine ⟨g2, S0.len, fun n d e => ?_, fun n o2 e => ?_, S0.dis, S.tr.to (fun n t e => ⟨(back tr_ne e).2.2, rfl⟩) (fun n o p e1 e2 => .inl ⟨o, (back own_ne e1).2.2, e2⟩) g.f fun a w hw hf _ hne => ?_⟩
    · obtain ⟨v, q1, q2⟩ := S0.val n d e
      exact ⟨v, q1, q2.mono g.f⟩
    · obtain ⟨z, ho2, q1, q2, q3, q4, q5⟩ := S0.own n o2 e
      obtain ⟨e1, e2, e3⟩ := back own_ne e
      have hzp : z ≠ p := fun w => by
        rw [w] at q1
        exact e1 (S.dis n i o2 o p e3 hi q1 hp)
      have hzq : z ≠ q := fun w => by
        rw [w] at q1
        exact e2 (S.dis n j o2 u q e3 hj q1 hq)
      exact ⟨z, ho2, q1, g.n z ho2 (out_ hzp hzq q3) q2, g.h _ _ (out_ hzp hzq q3), q4.mono g.f, q5⟩
    · have z1 := hne i o p hi hp
      have z2 := hne j u q hj hq
      exact ⟨(g.h a w (out_ z1 z2 hw)).trans hw.symm, g.n a w (out_ z1 z2 hw) hf⟩
  have back : ∀ {n : Nat} {s : Sl}, s ≠ .un → ((ρ.set i .un).set j .un)[n]? = some s → n ≠ i ∧ n ≠ j ∧ ρ[n]? = some s := fun {n s} hs e => by
    obtain ⟨e1, e2⟩ := set_un e hs
    obtain ⟨e3, e4⟩ := set_un e2 hs
    exact ⟨e3, e1, e4⟩
  have same : ∀ {k : Nat} {a : Addr}, k < σ.length → σ[k]? = some (some (.ref a)) → σ.set k (some (.ref a)) = σ := fun {k a} hk h => by
    refine List.ext_getElem? fun n => ?_
    by_cases hn : k = n
    · subst hn; rw [List.getElem?_set_self hk, h]
    · rw [List.getElem?_set_ne hn]
  have hls := S.len
  have S2 := S1.setOwn (i := i) (p := p) (o := o') hf hH r h5 (fun n o2 e z => by
    obtain ⟨e1, e2, e3⟩ := back own_ne e
    exact e1 (S.dis n i o2 o p e3 hi z hp)) fun n t v fp e z h => (notin n t v fp (back tr_ne e).2.2 z h).1
  rw [same (by omega) hp] at S2
  have S3 := S2.setOwn (i := j) (p := q) (o := u') hf2 hH2 r2 k5 (fun n o2 e z => by
    by_cases hn : n = i
    · subst hn
      rw [hp] at z
      exact hpq (by cases z; rfl)
    · rw [List.getElem?_set_ne (Ne.symm hn)] at e
      obtain ⟨e1, e2, e3⟩ := back own_ne e
      exact e2 (S.dis n j o2 u q e3 hj z hq)) fun n t v fp e z h => by
        have hn : n ≠ i := fun w => by
          subst w
          rw [List.getElem?_set_self (by simp; omega)] at e; cases e
        rw [List.getElem?_set_ne (Ne.symm hn)] at e
        exact (notin n t v fp (back tr_ne e).2.2 z h).2
  rw [same (by omega) hq] at S3
  have e1 : ((((ρ.set i Sl.un).set j Sl.un).set i (.own o')).set j (.own u')) = (ρ.set i (.own o')).set j (.own u') := by
    rw [List.set_comm _ _ (Ne.symm hij), List.set_set, List.set_set]
  rw [e1] at S3
  exact S3
end
theorem makeJ_grow {F H F' H' : Hp} {a q dx : Addr} {o o' : HO} (h1 : H a = none) (h2 : H dx = none) (g : Grow F (dls (upd (upd H dx o') a o) [a, q]) F' H') : Grow F (dl H q) F' H' := by
  have at_ : ∀ b u, dl H q b = some u → dls (upd (upd H dx o') a o) [a, q] b = some u := fun b u e => by
    by_cases hb : b = q
    · subst hb; rw [dl_same] at e; cases e
    · rw [dl_ne hb] at e
      have z1 := ne_of_none e h1
      have z2 := ne_of_none e h2
      rw [dls_out (by simp [z1, hb]), upd_ne z1, upd_ne z2]; exact e
  exact ⟨g.f, g.s, fun b u e => g.h b u (at_ b u e), fun b u e z => g.n b u (at_ b u e) z⟩
/-! ### constructors whose argument stays ours -/
def PostJ (K : PySem.W.Frag) (cl : Str → Option Addr) (F H : Hp) (p q : Addr) (Q : VK) : R (D × DO) → Prop
  | .ok (d, o) => ∀ F' H' ho, Grow F (dls H [p, q]) F' H' → F' q = none → H' q = some ho → HR K cl F' ho o → Rp K cl F' (.ref p) d → Q .non H'
  | _ => False
def spJ (K : PySem.W.Frag) (cl : Str → Option Addr) (m : Str → DO → R (D × DO)) : Sp := fun vs H Q _ => ∃ c C dx F p q ho o, cl c = some C ∧ Ex F H ∧ vs = [.ref p, .ref q] ∧ F p = none ∧ H p = some (.ins C dx []) ∧ F q = none ∧ H q = some ho ∧ p ≠ q ∧ HR K cl F ho o ∧ PostJ K cl F H p q Q (m c o)
def startJ (c : Str) (n : Nat) (o : DO) : En := [.own (.ins c [] []), .own o] ++ List.replicate (n - 2) .un
def flJ : Fl D → R (D × DO)
  | .nx ρ => (objAt ρ).bind fun d => (ownAt 1 ρ).bind fun o => .ok (d, o)
  | _ => .st
def runJ (n : Nat) (mb : En → Fl D) (c : Str) (o : DO) : R (D × DO) := flJ (mb (startJ c n o))
theorem runJ_ap (n : Nat) (mb : En → Fl D) (c : Str) (o : DO) : runJ n mb c o = flJ (mb (startJ c n o)) := id rfl
@[simp] theorem flJ_nx (ρ : En) : flJ (.nx ρ) = (objAt ρ).bind fun d => (ownAt 1 ρ).bind fun o => .ok (d, o) := id rfl
@[simp] theorem flJ_st : flJ .st = .st := id rfl
theorem np2 {i : Nat} {p q : Addr} (h : i ≠ 0 ∧ i ≠ 1) : i ∉ [(0, p), (1, q)].map (·.1) := by simpa using h
theorem nps2 {ws : List Nat} {p q : Addr} (h : ∀ i ∈ ws, i ≠ 0 ∧ i ≠ 1) : ∀ i ∈ ws, i ∉ [(0, p), (1, q)].map (·.1) := fun i hi => np2 (h i hi)
section
variable {P : Program} {w : World} {K : PySem.W.Frag} {mg : Str → Option Value} {base : Heap} {cl : Str → Option Addr}
theorem def_J {x qual : Str} {st : Stmt} {f : Addr} {fd : FuncData} {N ps : List Str} {k : Nat} {mb : En → Fl D} (F : Fun K x qual st f fd) (S : FnScope N ps (defScope st)) (hn : 2 ≤ N.length) (h2 : ps.length = 2)
    (hb : ∀ (p q : Addr) (cdv : Value) (A : Around) (outer : List Env) (s : Shared) (H : Hp) (E : XK), Room k (A.deeper (envOfC qual (defScope st) s.heap.objs.size f cdv)) →
      ∃ t, USs (cxOf (L2N.CX P w) P w K mg base N qual (defScope st) f cdv A outer s H E) cl (WD E) [(0, p), (1, q)] (RPV K cl [(0, p), (1, q)]) (defBody st) t mb) : FnOk P w K mg base (L2N.CX P w) (k + 1) f fd ps (spJ K cl (runJ N.length mb)) := by
  refine okXN F S (fun vs H Q E ⟨c, C, dx, F, p, q, ho, o, _, _, h, _⟩ => by rw [h, h2]; rfl) (fun cdv A outer s H vs Q E hr h => ?_)
  obtain ⟨c, C, dx, Fh, p, q, ho, o, hC, ex, rfl, hfp, hp, hfq, hq, hpq, hro, post⟩ := h
  obtain ⟨t, U⟩ := hb p q cdv A outer s H E hr
  have S0 : Sr K cl Fh (dls H [p, q]) Fh H (L2.start N [.ref p, .ref q]) (startJ c N.length o) := by
    refine sr_startG (sls := [.own (.ins c [] []), .own o]) (ps := [p, q]) ex rfl (by simpa using hn) (fun s hs => ?_) (fun i d e => ?_) (fun i o' e => ?_) (fun i j o1 o2 z e1 e2 h1 h2 => ?_)
    · rcases List.mem_cons.mp hs with rfl | hs
      · exact True.intro
      · rcases List.mem_cons.mp hs with rfl | hs
        · exact True.intro
        · cases hs
    · match i, e with
      | 0, e => cases e
      | 1, e => cases e
      | n + 2, e => simp at e
    · match i, e with
      | 0, e =>
        cases e
        exact ⟨p, _, rfl, by simp, hfp, hp, ⟨C, dx, [], hC, rfl, rfl, Rps.nil⟩⟩
      | 1, e =>
        cases e
        exact ⟨q, ho, rfl, by simp, hfq, hq, hro⟩
      | n + 2, e => simp at e
    · match i, j, e1, e2, h1, h2 with
      | 0, 0, _, _, _, _ => rfl
      | 1, 1, _, _, _, _ => rfl
      | 0, 1, _, _, h1, h2 => cases h1; cases h2; exact absurd rfl hpq
      | 1, 0, _, _, h1, h2 => cases h1; cases h2; exact absurd rfl hpq
      | n + 2, _, e, _, _, _ => simp at e
      | _, n + 2, _, e, _, _ => simp at e
  have pin0 : Pin [(0, p), (1, q)] (L2.start N [.ref p, .ref q]) := fun z hz => by
    rcases List.mem_cons.mp hz with rfl | hz
    · rfl
    · rcases List.mem_cons.mp hz with rfl | hz
      · rfl
      · cases hz
  refine ⟨t, U.pe, U.es Fh (dls H [p, q]) Fh H _ _ _ S0 pin0 ?_⟩
  unfold runJ at post
  cases e : mb (startJ c N.length o) with
  | nx ρ =>
    rw [e, flJ_nx] at post
    intro σ F' H' _ S' P'
    obtain ⟨F2, ex2, S2⟩ := S'.frz 0
    unfold objAt at post
    split at post
    · rename_i c' ns xs hobj
      rw [R.bind_ok] at post
      unfold ownAt at post
      split at post
      rotate_left
      · exact post.elim
      rename_i o' ho'
      obtain ⟨v, k1, k2⟩ := S2.val 0 _ hobj
      have := P' (0, p) (by simp)
      simp only at this
      rw [k1] at this
      cases this
      have e1 : (frzE 0 ρ)[1]? = some (.own o') := by
        unfold frzE
        split
        · split
          · rw [List.getElem?_set_ne (by decide)]; exact ho'
          · exact ho'
        · split
          · rw [List.getElem?_set_ne (by decide)]; exact ho'
          · exact ho'
        · exact ho'
      obtain ⟨q', hv, z1, z2, z3, z4, z5⟩ := S2.own 1 _ e1
      have := P' (1, q) (by simp)
      simp only at this
      rw [z1] at this
      cases this
      exact post F2 H' hv S2.grow z2 z3 z4 k2
    · exact post.elim
  | rt d ρ => rw [e] at post; exact post.elim
  | bk ρ => rw [e] at post; exact post.elim
  | ct ρ => rw [e] at post; exact post.elim
  | er x ρ => rw [e] at post; exact post.elim
  | st => rw [e] at post; exact post.elim
end
section
variable {X : Cx} {cl : Str → Option Addr} {W : WX} {K : PySem.W.Frag} {e : Expr} {es : List Expr} {t : TA} {i n k : Nat} {x : Str} {p pos : Pos}
def dMakeJ (i : Nat) (x : Str) (m : Str → DO → R (D × DO)) : En → R (D × En) := fun ρ => (ownAt i ρ).bind fun o => (m x o).bind fun q => .ok (q.1, ρ.set i (.own q.2))
@[simp] theorem dMakeJ_ap (i : Nat) (x : Str) (m : Str → DO → R (D × DO)) (ρ : En) : dMakeJ i x m ρ = (ownAt i ρ).bind fun o => (m x o).bind fun q => .ok (q.1, ρ.set i (.own q.2)) := id rfl
theorem ux_makeJ {m : Str → DO → R (D × DO)} (G : CalI X.prog X.w X.K X.mg X.base cl k x 2 (spJ X.K cl m)) (hr : Room (k + 1) X.A) (ho : PE X e (tVar i)) (hg : Gl X x := by rfl)
    (hdb : (x == ("__debug__" : Str)) = false := by decide) (he : starEach [e] X.env = (false, eval e X.env) :: starEach [] X.env := by rfl) (hpl : (backTo pos (starEach [] X.env)).any (·.1) = false := by rfl) :
    UX X cl (.Call (.Name x p) [e] [] pos) (tMakeA cl x (spJ X.K cl m) (WE WF) (tCons (tVar i) tNil)) (dMakeJ i x m) := by
  obtain ⟨C, f, fd, ps, hC, hm, M, Fo, hb, hps⟩ := G
  refine ⟨⟨fun pins s σ H Q I ⟨C', hC', h⟩ => ?_⟩, fun F0 H0 F H σ ρ Q S p => ⟨C, hC, ?_⟩⟩
  · rw [hC] at hC'; cases hC'
    exact (pe_makeSD M Fo hr hg hm hb .nil (fun σ => L2N.passAt takesN0 σ) (pa_cons ho pa_nil he) hdb he hpl).run pins s σ H Q I h
  · unfold dMakeJ ownAt at p
    split at p
    rotate_left
    · exact p.elim
    rename_i o hi
    rw [R.bind_ok] at p
    obtain ⟨q, hv, h1, h2, h3, h4, h5⟩ := S.own i o hi
    refine ⟨_, h1, ?_⟩
    intro a dx ha hdx hne
    have ex := S.ex
    have hFa : F a = none := by
      cases z : F a with
      | none => rfl
      | some u => have := ex _ _ z; rw [ha] at this; cases this
    have hqa : q ≠ a := fun z => by rw [z, ha] at h3; cases h3
    have hqd : q ≠ dx := fun z => by rw [z, hdx] at h3; cases h3
    refine ⟨x, C, dx, F, a, q, hv, o, hC, fun b u z => ?_, rfl, hFa, upd_same, h2, by rw [upd_ne hqa, upd_ne hqd]; exact h3, Ne.symm hqa, h4, ?_⟩
    · have := ex _ _ z
      rw [upd_ne (ne_of_none this ha), upd_ne (ne_of_none this hdx)]; exact this
    · cases e2 : m x o with
      | st => rw [e2] at p; exact p.elim
      | er y => rw [e2] at p; exact p.elim
      | ok r =>
        obtain ⟨d, o'⟩ := r
        rw [e2, R.bind_ok] at p
        intro F2 H2 ho2 g2 k1 k2 k3 k4
        exact ⟨rfl, p _ F2 H2 g2.f (S.inout hi h1 (makeJ_grow ha hdx g2) k1 k2 k3) k4⟩
end
end UP
namespace UP
open PySem L2 PyProof.Rows
theorem dNil_len2 : ∀ ρ ds, dNil ρ = .ok ds → ds.length + 2 = 2 := fun ρ ds h => by cases h; rfl
theorem dCons_len2 {a : En → R D} {b : En → R (List D)} {n : Nat} (h : ∀ ρ ds, b ρ = .ok ds → ds.length + 2 = n) : ∀ ρ ds, dCons a b ρ = .ok ds → ds.length + 2 = n + 1 := fun ρ ds q => by
  unfold dCons d2 at q
  cases e1 : a ρ with
  | st => rw [e1] at q; cases q
  | er x => rw [e1] at q; cases q
  | ok d =>
    rw [e1, R.bind_ok] at q
    cases e2 : b ρ with
    | st => rw [e2] at q; cases q
    | er x => rw [e2] at q; cases q
    | ok es =>
      rw [e2, R.bind_ok] at q
      cases q
      have := h ρ es e2
      simp; omega
/-! ### defs that change their first two arguments -/
def PostP (K : PySem.W.Frag) (cl : Str → Option Addr) (F H : Hp) (p q : Addr) (Q : VK) : R (D × DO × DO) → Prop
  | .ok (d, o, u) => ∀ v F' H' ho hu, Grow F (dls H [p, q]) F' H' → F' p = none → H' p = some ho → HR K cl F' ho o → F' q = none → H' q = some hu → HR K cl F' hu u → Rp K cl F' v d → Q v H'
  | _ => False
def spP (K : PySem.W.Frag) (cl : Str → Option Addr) (n : Nat) (m : List D → DO → DO → R (D × DO × DO)) : Sp := fun vs H Q _ => ∃ ds F us p q ho hu o u, Ex F H ∧ Rps K cl F us ds ∧ vs = .ref p :: .ref q :: us ∧ vs.length = n ∧ p ≠ q ∧ F p = none ∧ H p = some ho ∧ HR K cl F ho o ∧ F q = none ∧ H q = some hu ∧ HR K cl F hu u ∧ PostP K cl F H p q Q (m ds o u)
def startP (n : Nat) (ds : List D) (o u : DO) : En := (.own o :: .own u :: ds.map Sl.val) ++ List.replicate (n - ds.length - 2) .un
def flP : Fl D → R (D × DO × DO)
  | .rt d ρ => (ownAt 0 ρ).bind fun o => (ownAt 1 ρ).bind fun u => .ok (d, o, u)
  | .nx ρ => (ownAt 0 ρ).bind fun o => (ownAt 1 ρ).bind fun u => .ok (.non, o, u)
  | _ => .st
def runP (n : Nat) (mb : En → Fl D) (ds : List D) (o u : DO) : R (D × DO × DO) := flP (mb (startP n ds o u))
theorem runP_ap (n : Nat) (mb : En → Fl D) (ds : List D) (o u : DO) : runP n mb ds o u = flP (mb (startP n ds o u)) := id rfl
@[simp] theorem flP_rt (d : D) (ρ : En) : flP (.rt d ρ) = (ownAt 0 ρ).bind fun o => (ownAt 1 ρ).bind fun u => .ok (d, o, u) := id rfl
@[simp] theorem flP_nx (ρ : En) : flP (.nx ρ) = (ownAt 0 ρ).bind fun o => (ownAt 1 ρ).bind fun u => .ok (.non, o, u) := id rfl
@[simp] theorem flP_st : flP .st = .st := id rfl
@[simp] theorem startP_ap (n : Nat) (ds : List D) (o u : DO) : startP n ds o u = (.own o :: .own u :: ds.map Sl.val) ++ List.replicate (n - ds.length - 2) .un := id rfl
section
variable {P : Program} {w : World} {K : PySem.W.Frag} {mg : Str → Option Value} {base : Heap} {cl : Str → Option Addr}
theorem def_P {x qual : Str} {st : Stmt} {f : Addr} {fd : FuncData} {N ps : List Str} {k : Nat} {mb : En → Fl D} (F : Fun K x qual st f fd) (S : FnScope N ps (defScope st)) (hn : ps.length ≤ N.length)
    (hb : ∀ (p q : Addr) (cdv : Value) (A : Around) (outer : List Env) (s : Shared) (H : Hp) (E : XK), Room k (A.deeper (envOfC qual (defScope st) s.heap.objs.size f cdv)) →
      ∃ t, USs (cxOf (L2N.CX P w) P w K mg base N qual (defScope st) f cdv A outer s H E) cl WF [(0, p), (1, q)] (RPV K cl [(0, p), (1, q)]) (defBody st) t mb) : FnOk P w K mg base (L2N.CX P w) (k + 1) f fd ps (spP K cl ps.length (runP N.length mb)) := by
  refine okXN F S (fun vs H Q E ⟨ds, F, us, p, q, ho, hu, o, u, _, _, _, h, _⟩ => h) (fun cdv A outer s H vs Q E hr h => ?_)
  obtain ⟨ds, Fh, us, p, q, ho, hu, o, u, ex, r, rfl, hl, hpq, hfp, hp, hro, hfq, hq, hru, post⟩ := h
  obtain ⟨t, U⟩ := hb p q cdv A outer s H E hr
  have hrl := r.length
  have S0 : Sr K cl Fh (dls H [p, q]) Fh H (L2.start N (.ref p :: .ref q :: us)) (startP N.length ds o u) := by
    have := sr_startG (K := K) (cl := cl) (N := N) (vs := .ref p :: .ref q :: us) (sls := .own o :: .own u :: ds.map Sl.val) (ps := [p, q]) ex (by simp [hrl]) (by rw [hl]; exact hn) (fun s hs => ?_) (fun i d e => ?_) (fun i o' e => ?_) (fun i j o1 o2 z e1 e2 h1 h2 => ?_)
    · have e : N.length - (Sl.own o :: Sl.own u :: ds.map Sl.val).length = N.length - ds.length - 2 := by simp; omega
      rw [e] at this
      exact this
    · rcases List.mem_cons.mp hs with rfl | hs
      · exact True.intro
      · rcases List.mem_cons.mp hs with rfl | hs
        · exact True.intro
        · obtain ⟨d, _, rfl⟩ := List.mem_map.mp hs
          exact True.intro
    · match i, e with
      | 0, e => cases e
      | 1, e => cases e
      | n + 2, e =>
        have e : (ds.map Sl.val)[n]? = some (.val d) := e
        rw [List.getElem?_map] at e
        cases hd : ds[n]? with
        | none => rw [hd] at e; cases e
        | some d' =>
          rw [hd] at e; cases e
          obtain ⟨v, hv, rv⟩ := r.get hd
          exact ⟨v, hv, rv⟩
    · match i, e with
      | 0, e =>
        cases e
        exact ⟨p, _, rfl, by simp, hfp, hp, hro⟩
      | 1, e =>
        cases e
        exact ⟨q, _, rfl, by simp, hfq, hq, hru⟩
      | n + 2, e =>
        have e : (ds.map Sl.val)[n]? = some (.own o') := e
        rw [List.getElem?_map] at e
        cases hd : ds[n]? with
        | none => rw [hd] at e; cases e
        | some d' => rw [hd] at e; cases e
    · have no : ∀ {n : Nat} {z : DO}, (Sl.own o :: Sl.own u :: ds.map Sl.val)[n + 2]? = some (.own z) → False := fun {n z} e => by
        have e : (ds.map Sl.val)[n]? = some (.own z) := e
        rw [List.getElem?_map] at e
        cases hd : ds[n]? with
        | none => rw [hd] at e; cases e
        | some d' => rw [hd] at e; cases e
      match i, j, e1, e2, h1, h2 with
      | 0, 0, _, _, _, _ => rfl
      | 1, 1, _, _, _, _ => rfl
      | 0, 1, _, _, h1, h2 => cases h1; cases h2; exact absurd rfl hpq
      | 1, 0, _, _, h1, h2 => cases h1; cases h2; exact absurd rfl hpq
      | n + 2, _, e, _, _, _ => exact (no e).elim
      | _, n + 2, _, e, _, _ => exact (no e).elim
  have pin0 : Pin [(0, p), (1, q)] (L2.start N (.ref p :: .ref q :: us)) := fun z hz => by
    rcases List.mem_cons.mp hz with rfl | hz
    · rfl
    · rcases List.mem_cons.mp hz with rfl | hz
      · rfl
      · cases hz
  refine ⟨t, U.pe, U.es Fh (dls H [p, q]) Fh H _ _ _ S0 pin0 ?_⟩
  have fin : ∀ {v : V} {d : D} {σ : L2.St} {ρ : En} {F' H' : Hp}, Sr K cl Fh (dls H [p, q]) F' H' σ ρ → Pin [(0, p), (1, q)] σ → Rp K cl F' v d → PostP K cl Fh H p q Q ((ownAt 0 ρ).bind fun o => (ownAt 1 ρ).bind fun u => .ok (d, o, u)) → Q v H' := fun {v d σ ρ F' H'} S' P' r' post => by
    unfold ownAt at post
    split at post
    rotate_left
    · exact post.elim
    rename_i o' e0
    rw [R.bind_ok] at post
    split at post
    rotate_left
    · exact post.elim
    rename_i u' e1
    obtain ⟨p', ho', k1, k2, k3, k4, k5⟩ := S'.own 0 o' e0
    have := P' (0, p) (by simp)
    simp only at this
    rw [k1] at this
    cases this
    obtain ⟨q', hu', z1, z2, z3, z4, z5⟩ := S'.own 1 u' e1
    have := P' (1, q) (by simp)
    simp only at this
    rw [z1] at this
    cases this
    exact post v F' H' ho' hu' S'.grow k2 k3 k4 z2 z3 z4 r'
  unfold runP at post
  cases e : mb (startP N.length ds o u) with
  | nx ρ => rw [e, flP_nx] at post; exact fun σ F' H' _ S' P' => fin S' P' rp_non post
  | rt d ρ => rw [e, flP_rt] at post; exact fun v σ F' H' S' P' r' => fin S' P' r' post
  | bk ρ => rw [e] at post; exact post.elim
  | ct ρ => rw [e] at post; exact post.elim
  | er x ρ => rw [e] at post; exact post.elim
  | st => rw [e] at post; exact post.elim
end
section
variable {X : Cx} {cl : Str → Option Addr} {W : WX} {K : PySem.W.Frag} {e1 e2 : Expr} {es : List Expr} {t : TA} {i j n k : Nat} {x : Str} {ps : List Str} {p pos : Pos} {ma : En → R (List D)}
def dCallP (i j : Nat) (m : List D → DO → DO → R (D × DO × DO)) (ma : En → R (List D)) : En → R (D × En) := fun ρ => (ma ρ).bind fun ds => (ownAt i ρ).bind fun o => (ownAt j ρ).bind fun u => (m ds o u).bind fun q => .ok (q.1, (ρ.set i (.own q.2.1)).set j (.own q.2.2))
@[simp] theorem dCallP_ap (i j : Nat) (m : List D → DO → DO → R (D × DO × DO)) (ma : En → R (List D)) (ρ : En) : dCallP i j m ma ρ = (ma ρ).bind fun ds => (ownAt i ρ).bind fun o => (ownAt j ρ).bind fun u => (m ds o u).bind fun q => .ok (q.1, (ρ.set i (.own q.2.1)).set j (.own q.2.2)) := id rfl
theorem ux_callP {m : List D → DO → DO → R (D × DO × DO)} (G : Cal X.prog X.w X.K X.mg X.base k x ps (spP X.K cl n m)) (hr : Room k X.A) (hn : ps.length = n) (hij : i ≠ j) (h1 : PE X e1 (tVar i)) (h2 : PE X e2 (tVar j)) (ha : UA X cl WF es t ma) (hl : ∀ ρ ds, ma ρ = .ok ds → ds.length + 2 = n) (hg : Gl X x := by rfl)
    (hdb : (x == ("__debug__" : Str)) = false := by decide) (he : starEach (e1 :: e2 :: es) X.env = (false, eval e1 X.env) :: starEach (e2 :: es) X.env := by rfl) (he2 : starEach (e2 :: es) X.env = (false, eval e2 X.env) :: starEach es X.env := by rfl)
    (hpl : (backTo pos (starEach (e2 :: es) X.env)).any (·.1) = false := by rfl) :
    UX X cl (.Call (.Name x p) (e1 :: e2 :: es) [] pos) (tCallSD (spP X.K cl n m) [] (WE WF) (tCons (tVar i) (tCons (tVar j) t))) (dCallP i j m ma) := by
  obtain ⟨f, fd, F, hm, hk, hb⟩ := G
  refine ⟨pe_callSD F hr hg hm hk hb .nil (fun σ => L2N.passAt takesN0 σ) (pa_cons h1 (pa_cons h2 ha.pe he2) he) hdb he hpl, fun F0 H0 F H σ ρ Q S p => ?_⟩
  unfold dCallP at p
  cases e1 : ma ρ with
  | st => rw [e1] at p; exact p.elim
  | er x => rw [e1] at p; exact p.elim
  | ok ds =>
    rw [e1, R.bind_ok] at p
    unfold ownAt at p
    split at p
    rotate_left
    · exact p.elim
    rename_i o hi
    rw [R.bind_ok] at p
    split at p
    rotate_left
    · exact p.elim
    rename_i u hj
    rw [R.bind_ok] at p
    obtain ⟨pp, _, a1, _⟩ := S.own i o hi
    obtain ⟨qq, _, b1, _⟩ := S.own j u hj
    refine ⟨_, a1, _, b1, ha.es F0 H0 F H σ ρ _ S ?_⟩
    rw [e1]
    intro us F1 H1 g r
    have S1 := S.mono g
    obtain ⟨p', ho, c1, c2, c3, c4, c5⟩ := S1.own i o hi
    rw [a1] at c1; cases c1
    obtain ⟨q', hu, d1, d2, d3, d4, d5⟩ := S1.own j u hj
    rw [b1] at d1; cases d1
    show spP X.K cl n m ((V.ref pp :: V.ref qq :: us) ++ []) H1 Q (WE WF σ)
    rw [List.append_nil]
    refine ⟨ds, F1, us, pp, qq, ho, hu, o, u, g.s, r, rfl, by simp only [List.length_cons]; rw [r.length]; exact hl ρ ds e1, fun z => hij (S1.dis i j o u pp hi hj a1 (z ▸ b1)), c2, c3, c4, d2, d3, d4, ?_⟩
    cases e2 : m ds o u with
    | st => rw [e2] at p; exact p.elim
    | er x => rw [e2] at p; exact p.elim
    | ok z =>
      obtain ⟨d, o', u'⟩ := z
      rw [e2, R.bind_ok] at p
      intro v F2 H2 ho2 hu2 g2 k1 k2 k3 k4 k5 k6 k7
      exact p v F2 H2 (g.f.trans g2.f) (S1.inout2 hij hi hj a1 b1 g2 k1 k2 k3 k4 k5 k6) k7
end
end UP
namespace UP
open PySem L2 PyProof.Rows
/-- d.get(k, x), d ours -/
def isDo : DO → Bool
  | .dK _ _ => true
  | .dT _ _ => true
  | _ => false
def dGetD2 (i : Nat) (mk mz : En → R D) : En → R D := fun ρ => (ownAt i ρ).bind fun o => if isDo o = true then (mk ρ).bind fun k => (mz ρ).bind fun z => match dLook o k with
  | some x => .ok (x.getD z)
  | none => .st else .st
section
variable {X : Cx} {cl : Str → Option Addr} {W : WX} {e f o : Expr} {te tz : TE} {mk mz : En → R D} {i : Nat} {apos cpos : Pos}
theorem ue_getD2 (hu : X.A.units + 1 < cLine) (ho : PE X o (tVar i)) (he : UE X cl W e te mk) (hf : UE X cl W f tz mz) (m : M2 X o "get" apos e f cpos) :
    UE X cl W (.Call (.Attribute o "get" apos) [e, f] [] cpos) (tDGet2 (tVar i) te tz) (dGetD2 i mk mz) := by
  refine ⟨pe_dget2 hu ho he.pe hf.pe m, fun F0 H0 F H σ ρ Q S p => ?_⟩
  unfold dGetD2 ownAt at p
  split at p
  rotate_left
  · exact p.elim
  rename_i od hi
  rw [R.bind_ok] at p
  split at p
  rotate_left
  · exact p.elim
  rename_i hd
  obtain ⟨q, hob, h1, h2, h3, h4, h5⟩ := S.own i _ hi
  refine ⟨_, h1, q, rfl, ?_, he.es F0 H0 F H σ ρ _ S ?_⟩
  · cases od with
    | lst xs => cases hd
    | ins c ns xs => cases hd
    | dK ks xs =>
      obtain ⟨vs, rfl, _, _⟩ := h4
      exact .inl ⟨_, .inl h3⟩
    | dT ks xs =>
      obtain ⟨vs, rfl, _, _⟩ := h4
      exact .inr ⟨_, .inl h3⟩
  cases e1 : mk ρ with
  | st => rw [e1] at p; exact p
  | er x => rw [e1] at p; exact p
  | ok d =>
    rw [e1, R.bind_ok] at p
    intro y F1 H1 g r
    refine hf.es F0 H0 F1 H1 σ ρ _ (S.mono g) ?_
    cases e2 : mz ρ with
    | st => rw [e2] at p; exact p
    | er x => rw [e2] at p; exact Post.grow (r := .er x) p g
    | ok dz =>
      rw [e2, R.bind_ok] at p
      intro z F2 H2 g2 rz
      split at p
      · rename_i x hx
        obtain ⟨ov, k1, k2⟩ := dLook_ok g2.s ((h4.mono g.f).mono g2.f) (g2.h _ _ (g.h _ _ h3)) (r.mono g2.f) hx
        rcases k2 with ⟨v, x', rfl, rfl, rv⟩ | ⟨rfl, rfl⟩
        · exact ⟨_, k1, p v F2 H2 (g.trans g2) rv⟩
        · exact ⟨_, k1, p z F2 H2 (g.trans g2) rz⟩
      · exact p.elim
end
end UP
namespace UP
open PySem L2 PyProof.Rows
/-- list(range(e)) -/
def dLstRg : D → R DO
  | .int j => if 0 ≤ j ∧ j ≤ 16777216 then .ok (.lst (dRange 0 j.toNat)) else .st
  | _ => .st
section
variable {X : Cx} {cl : Str → Option Addr} {W : WX} {K : PySem.W.Frag} {F : Hp} {e : Expr} {te : TE} {me : En → R D} {p p2 pos pos2 : Pos}
theorem rgV_rps {j : Int} : Rps K cl F (rgV 0 j) (dRange 0 j.toNat) := by
  unfold rgV dRange
  simp only [Int.sub_zero]
  generalize j.toNat = n
  have : ∀ l : List Nat, Rps K cl F (l.map fun (i : Nat) => V.int (0 + (i : Int))) (l.map fun (i : Nat) => D.int (0 + (i : Int))) := by
    intro l
    induction l with
    | nil => exact Rps.nil
    | cons a l ih => exact Rps.cons rp_int ih
  exact this _
theorem un_listRg1 (hc : X.calm = true) (hm : X.mg "list" = none) (hm2 : X.mg "range" = none) (h : UE X cl W e te me) (hg : Gl X "list" := by rfl) (hg2 : Gl X "range" := by rfl)
    (hs : starEach [e] X.env = (false, eval e X.env) :: starEach [] X.env := by rfl)
    (hs2 : starEach [.Call (.Name "range" p2) [e] [] pos2] X.env = (false, eval (.Call (.Name "range" p2) [e] [] pos2) X.env) :: starEach [] X.env := by rfl) :
    UN X cl W (.Call (.Name "list" p) [.Call (.Name "range" p2) [e] [] pos2] [] pos) (tLstRg (tRg1 te)) (d1 dLstRg me) := by
  refine ⟨pe_listRg hc hg hm (prg_1 hg2 hm2 h.pe hs) hs2, fun F0 H0 F H σ ρ Q S p => h.es F0 H0 F H σ ρ _ S ?_⟩
  unfold d1 at p
  cases e1 : me ρ with
  | st => rw [e1] at p; exact p
  | er x => rw [e1] at p; exact p
  | ok d =>
    rw [e1, R.bind_ok] at p
    intro v F1 H1 g r
    unfold dLstRg at p
    split at p
    · rename_i j
      split at p
      · rename_i hj
        refine ⟨j, r.int_inv, RgOk.of_le (by decide) hj.2 (by decide) hj.1, fun q hq => ?_⟩
        exact p q (.lst (rgV 0 j)) F1 _ (g.trans (Grow.lay' g.s hq)) (g.old q hq) (Grow.fnone g.s hq) upd_same ⟨_, rfl, rgV_rps⟩
      · exact p.elim
    · exact p.elim
end
end UP
namespace UP
open PySem L2 PyProof.Rows
/-- x[k][j] = e, x a tree of ours, x[k] a list of frozen ones -/
def tSetD (d dj : D) : DT → Option (D × DT)
  | .lst us => match fzs us, dj with
    | some ds, .int z => match ixN ds.length z with
      | some n => some (.non, .lst ((ds.set n d).map .fz))
      | none => none
    | _, _ => none
  | _ => none
theorem tSetD_inv {d dj d0 : D} {us : List DT} {t' : DT} (h : tSetD d dj (.lst us) = some (d0, t')) : ∃ ds z m, fzs us = some ds ∧ dj = .int z ∧ ixN ds.length z = some m ∧ d0 = .non ∧ t' = .lst ((ds.set m d).map .fz) := by
  unfold tSetD at h
  cases e : fzs us with
  | none => simp [e] at h
  | some ds =>
    cases dj with
    | int z =>
      cases e2 : ixN ds.length z with
      | none => simp [e, e2] at h
      | some m =>
        simp [e, e2] at h
        exact ⟨ds, z, m, rfl, rfl, e2, h.1.symm, h.2.symm ▸ (by simp)⟩
    | _ => simp [e] at h
def fItSet2 {α : Type} (i : Nat) (mk mj me : En → R D) : En → Fl α := fun ρ => fOf (me ρ) ρ fun d => fOf (noer (mk ρ)) ρ fun k => fOf (noer (mj ρ)) ρ fun j => match itMod i (tSetD d j) ρ k with
  | .ok (_, ρ') => .nx ρ'
  | _ => .st
section
variable {α : Type} {X : Cx} {cl : Str → Option Addr} {W : WX} {mp : List (Nat × Addr)} {RP : RPt α} {o k j e : Expr} {te tk tj : TE} {kpos pos tpos : Pos}
theorem us_itSet2 {i : Nat} {mk mj me : En → R D} (ho : PE X o (tVar i)) (hk : UE X cl W k tk mk) (hj : UE X cl W j tj mj) (he : UE X cl W e te me)
    (hp : PS X (.Assign [.Subscript (.Subscript o k kpos) j tpos] e pos) (tAsg te (gSub (tOp (rIxL X.K) (tVar i) tk) tj rSetL))) :
    US X cl W mp RP (.Assign [.Subscript (.Subscript o k kpos) j tpos] e pos) (tAsg te (gSub (tOp (rIxL X.K) (tVar i) tk) tj rSetL)) (fItSet2 i mk mj me) := by
  refine ⟨hp, fun F0 H0 F H σ ρ Dn S P p => he.es F0 H0 F H σ ρ _ S (post_of S P p fun d v F1 H1 g r p => ?_)⟩
  cases e1 : mk ρ with
  | st => rw [e1] at p; exact p.elim
  | er x => rw [e1] at p; exact p.elim
  | ok dk =>
  cases e2 : mj ρ with
  | st => rw [e1, e2] at p; exact p.elim
  | er x => rw [e1, e2] at p; exact p.elim
  | ok dj =>
  rw [e1, e2] at p
  have p : PostS X.K cl W mp RP F0 H0 F1 Dn (match itMod i (tSetD d dj) ρ dk with
    | .ok (_, ρ') => .nx ρ'
    | _ => .st) := p
  cases e3 : itMod i (tSetD d dj) ρ dk with
  | st => rw [e3] at p; exact p.elim
  | er x => rw [e3] at p; exact p.elim
  | ok q =>
  obtain ⟨d0, ρ'⟩ := q
  rw [e3] at p
  obtain ⟨jz, ts, n, t, t', rfl, hi, hn, ht, hf, rfl⟩ := itMod_ok e3
  have S1 := S.mono g
  obtain ⟨pp, vs, v0, f2, w1, w2, w3, w4, w5, w6, w7⟩ := S1.itAt hi ht
  refine ⟨_, w1, hk.es F0 H0 F1 H1 σ ρ _ S1 ?_⟩
  rw [e1]
  intro yk F2 H2 g2 r2
  have S2 := S1.mono g2
  obtain ⟨p1, vs1, v1, f21, x1, x2, x3, x4, x5, x6, x7⟩ := S2.itAt hi ht
  rw [w1] at x1; cases x1
  have ha : atI vs1 jz = some v1 := by unfold atI; rw [x3, hn]; exact x4
  cases t with
  | fz _ => cases hf
  | tup _ => cases hf
  | dk _ _ => cases hf
  | ob _ _ _ => cases hf
  | lst us =>
  unfold Tr at x5
  obtain ⟨q, zs, fq, rfl, y1, rfl, y2⟩ := x5
  refine ⟨pp, vs1, jz, .ref q, rfl, r2.int_inv, SqL.of x2, ha, hj.es F0 H0 F2 H2 σ ρ _ S2 ?_⟩
  rw [e2]
  intro yj F3 H3 g3 r3
  have S3 := S2.mono g3
  obtain ⟨p2, vs2, v2, f22, z1, z2, z3, z4, z5, z6, z7⟩ := S3.itAt hi ht
  rw [w1] at z1; cases z1
  have e5 : vs2 = vs1 := by have := g3.h _ _ x2; rw [z2] at this; cases this; rfl
  subst e5
  rw [x4] at z4; cases z4
  unfold Tr at z5
  obtain ⟨q', zs', fq', e6, y1', rfl, y2'⟩ := z5
  cases e6
  obtain ⟨ds, z, m, hfz, rfl, hm, rfl, rfl⟩ := tSetD_inv hf
  rw [fzs_eq hfz] at y2'
  obtain ⟨rfl, rz⟩ := trs_fz_inv y2'
  refine ⟨q, zs', z, m, rfl, r3.int_inv, y1', by rw [rz.length]; exact hm, ?_⟩
  refine p σ F3 _ (g2.f.trans g3.f) (z6 _ _ [q] (fun a ha => upd_ne fun z => ha (by simp [z])) ?_ z7 fun a ha => ha) P
  unfold Tr
  exact ⟨q, zs'.set m v, [], rfl, upd_same, rfl, trs_fz (rz.set m (r.mono (g2.f.trans g3.f)))⟩
end
@[simp] theorem fItSet2_ap {α : Type} {ρ : En} (i : Nat) (mk mj me : En → R D) : (fItSet2 i mk mj me ρ : Fl α) = fOf (me ρ) ρ fun d => fOf (noer (mk ρ)) ρ fun k => fOf (noer (mj ρ)) ρ fun j => match itMod i (tSetD d j) ρ k with
  | .ok (_, ρ') => .nx ρ'
  | _ => .st := id rfl
end UP
namespace UP
open PySem L2 PyProof.Rows
section
variable {X : Cx} {cl : Str → Option Addr} {K : PySem.W.Frag} {mg : Str → Option Value} {e : Expr} {es : List Expr} {ta : TA} {p1 p2 pos : Pos} {x : Str}
/-! ### an own exception class whose __init__ calls its base's and keeps one field -/
/-- what x.__init__ is, x an own class over ValueError without an __init__ -/
def IniH (K : PySem.W.Frag) (mg : Str → Option Value) (x : Str) : Prop := ∃ CH, mg x = some (.ref CH) ∧ PySem.W.readsIn K CH (.type "type") = true ∧
  PySem.W.findCls K (.ref CH) (.type "type") "__init__" = some (.val (.builtin "ValueError.__init__")) ∧ PySem.W.specialIn K (.ref CH) "__getattribute__" = some (some (.builtin "type.__getattribute__"))
theorem pe_clinit {pl : Sem Bool} (G : IniH X.K X.mg x) (hg : Gl X x) (ha : PA X (e :: es) ta)
    (hc : eval (.Call (.Attribute (.Name x p1) "__init__" p2) (e :: es) [] pos) X.env = (do
      let ov ← eval (.Name x p1) X.env
      standAt p2.atName
      let (f, first) ← holding [ov] (getMethod ov "__init__" pl)
      callWith pos f first (backTo pos (starEach (e :: es) X.env)) (backToKw pos (keywordEach [] X.env))) := by rfl)
    (he : starEach (e :: es) X.env = (false, eval e X.env) :: starEach es X.env := by rfl) (hpl : (backTo pos (starEach es X.env)).any (·.1) = false := by rfl) (hdb : (x == ("__debug__" : Str)) = false := by decide) :
    PE X (.Call (.Attribute (.Name x p1) "__init__" p2) (e :: es) [] pos) (tVeI X.K ta) := by
  obtain ⟨CH, hm, hr, hf, hga⟩ := G
  refine ⟨fun pins s σ H Q I h => ?_⟩
  refine PySem.W.methodCall_KW (ld_glob I hg hm ?_ hdb) hc
  refine PySem.W.method_cls I.kIn hga (PySem.W.cls_value I.kIn hr hf (by decide +kernel) ?_)
  show wpAny _ _ (callWith pos (Value.builtin "ValueError.__init__") [] (backTo pos (starEach (e :: es) X.env)) []) _ _ _
  refine PyProof.Rows.callWith_method1 (thn (ha.run pos pins _ σ H _ (I.tok _) h) fun us s1 ⟨vs, H1, I1, r1, a, C, ws, ev, hl, T, ea, q⟩ => ?_) he hpl
  subst ev
  cases r1 with
  | @cons _ u0 _ ur ra rw' =>
    obtain rfl : u0 = Value.ref a := ra
    have hlen : ur.length ≤ sizeLine := by
      rw [← Paired.length rw', sizeLine_eq]
      omega
    exact oinit_ok T I1 ea hlen fun s' J => ⟨.non, H1, J, rfl, q⟩
section
variable {pins : List (Addr × Obj)} {σ : L2.St} {H : Hp} {Q : XK} {CX : CXT} {k : Nat} {C fI : Addr} {fd : FuncData} {ps : List Str} {sp : Sp}
/-- C(e, ..), C an own exception class with an __init__ of its own -/
theorem pmkN (T : OexC X.K C) (iC : PySem.W.findIn X.K (.ref C) "__init__" = some (some (.ref fI))) (tI : PySem.W.typeIn X.K (.ref fI) = some (.type "function")) (F1 : FnOk X.prog X.w X.K X.mg X.base CX k fI fd ps sp) (hr : Room (k + 1) X.A)
    (hb : Binds X.K fd ps []) (hx : Passes CX X (fun _ _ _ => False)) (hg : Gl X x) (hm : X.mg x = some (.ref C)) (ha : PA X (e :: es) ta) (hdb : (x == ("__debug__" : Str)) = false := by decide) (he : starEach (e :: es) X.env = (false, eval e X.env) :: starEach es X.env := by rfl)
    (hpl : (backTo pos (starEach es X.env)).any (·.1) = false := by rfl) : L2N.PMk X (.Call (.Name x p1) (e :: es) [] pos) (tMkO C sp [] ta) := by
  intro pins s σ H Q I h
  obtain ⟨nm, q, N, bs, bm, sn, sub, ab, col, dd, k0, k1, k2, k3, k5, hC, hbm⟩ := T.cls
  refine wpAny_Call_Name_kw (ld_glob I hg hm ?_ hdb)
  refine PySem.W.callWith_K (h₀ := X.base) I.ok.mod.kin T.kC (thn (ha.run pos pins s σ H _ I h) fun us s1 ⟨vs, H1, I1, r1, hz, q1⟩ => ⟨I1.kIn, ?_⟩) he hpl
  show wpAny _ _ (call (.ref C) us) _ _ _
  obtain ⟨hp, g, dr, tk, os⟩ := s1
  have hle : hp.objs.size ≤ hp.objs.size + 1 := by omega
  have fresh : H1 (hp.objs.size + 1) = none := I1.hok.fresh hle
  have hq := q1 (hp.objs.size + 1) fresh
  let hp2 : Heap := (hp.push (PySem.W.kdv_tup us)).push (PySem.HandSPX.excO C hp.objs.size)
  have keep : ∀ b o, hp.get? b = some o → hp2.get? b = some o := fun b o z => Heap.get?_push_of_some _ (Heap.get?_push_of_some _ z)
  have isx : hp2.get? (hp.objs.size + 1) = some (PySem.HandSPX.excO C hp.objs.size) := by
    show ((hp.push (PySem.W.kdv_tup us)).push _).get? _ = _
    heap_get
  have I2 : Inv X pins σ (upd H1 (hp.objs.size + 1) (exo (hp.objs.size + 1) C none)) ⟨hp2, g, dr, tk, os⟩ := I1.laid (t' := tk) (h' := hp2) keep hle (exo_ok isx)
  rw [List.append_nil] at hq
  have r2 : Vals (V.ref (hp.objs.size + 1) :: vs) (Value.ref (hp.objs.size + 1) :: us) := .cons rfl r1
  have hl : (Value.ref (hp.objs.size + 1) :: us ++ ([] : List Value)).length = ps.length := by
    have z := r2.length
    rw [F1.len _ _ _ _ hq] at z
    rw [List.append_nil]; exact z.symm
  have hus : us.length ≤ sizeLine := by
    have z := Paired.length r1
    rw [sizeLine_eq]; omega
  have b2 := hb ⟨hp2, g, dr, tk, os⟩ (Value.ref (hp.objs.size + 1) :: us) I2.kIn hl
  rw [List.append_nil] at b2
  refine wpAny_call (PySem.HandSPX.call_own F.excBase_ValueError (fun Y => PySem.HandSPX.refsVE_contains Y bm hbm) (I1.kIn _ _ hC) (PySem.W.looks_findIn I1.kIn iC)
    (fun self => PySem.W.bind_fn I1.kIn self tI) hus (codeAny_mono (F1.run _ X.stack _ _ ⟨Value.ref (hp.objs.size + 1) :: us, []⟩ _ _ _ (fun _ _ _ => False) (hr.make C us []) (I2.env0.make C us []) b2 r2 hq) fun r s' z => ?_))
  cases r with
  | error er => exact hx pins σ _ _ er s' I2 z
  | ok fl =>
    cases fl with
    | ret u =>
      obtain ⟨v, H2, os2, bare2, un2, hok2, rv, ev, d, fs, ea, ed, hd1, q2⟩ := z
      subst ev
      obtain ⟨h2, g2, d2, t2, os'⟩ := s'
      refine ⟨rv, ?_⟩
      obtain ⟨t0, G, J, kG, ge, hoe, na⟩ := mk_end0 (d2 := d2) (t2 := t2) I1 hle keep un2 hok2 os2 bare2 ea ed hd1
      exact ⟨_, _, _, ⟨G, g2, d2, t2, os'⟩, _, .ref C, some d, rfl, J, kG, ge, hoe, ⟨rfl, rfl, fun vs z => by cases z; rfl⟩, rfl, rfl, na, rfl, bare2, raises_own T.exC T.tyC, q2⟩
    | next => exact False.elim z
    | brk => exact False.elim z
    | cont => exact False.elim z
end
/-- the promise of such an __init__: (self, v) keeps v as the field f -/
def spXv (K : PySem.W.Frag) (f : Str) : Sp := fun vs H Q E => ∃ (a C : Addr) (v : V), vs = [.ref a, v] ∧ OexC K C ∧ PySem.W.findIn K (.ref C) f = some none ∧ H a = some (exo a C none) ∧
  ∀ dx, H dx = none → dx ≠ a → Q .non (upd (upd H dx (exd dx [(f, v)])) a (exo a C (some dx)))
section
variable {P : Program} {w : World} {base : Heap} {qual n : Str} {st : Stmt} {f : Addr} {fd : FuncData} {N ps : List Str} {k : Nat} {fld : Str} {z : V}
theorem def_XI (F : Fun K n qual st f fd) (S : FnScope N ps (defScope st)) (hp : ps.length = 2)
    (hb : ∀ (cdv : Value) (A : Around) (outer : List Env) (s : Shared) (H : Hp) (E : XK),
      PSs (cxOf (L2N.CX P w) P w K mg base N qual (defScope st) f cdv A outer s H E) (defBody st) (tSeq (tDrop (tVeI K (tCons (tVar 0) (tCons (tC z) tNil)))) (tOst K fld (tVar 0) (tVar 1)))) :
    FnOk P w K mg base (L2N.CX P w) (k + 1) f fd ps (spXv K fld) := by
  refine okXN F S (fun vs H Q E h => ?_) (fun cdv A outer s H vs Q E hr h => ?_)
  · obtain ⟨a, C, v, rfl, _⟩ := h
    rw [hp]; rfl
  · obtain ⟨a, C, v, rfl, T, hf, ha, post⟩ := h
    have s0 : (L2.start N [.ref a, v])[0]? = some (some (.ref a)) := rfl
    have s1 : (L2.start N [.ref a, v])[1]? = some (some v) := rfl
    refine ⟨_, hb cdv A outer s H E, ⟨.ref a, s0, a, C, [z], rfl, Nat.le_of_ble_eq_true rfl, T, ha, ?_⟩⟩
    exact ⟨v, s1, .ref a, s0, a, C, rfl, T, hf, .inl ⟨ha, fun dx h1 h2 => post dx h1 h2⟩⟩
end
/-- raise c(e), c keeps it as f -/
def CalXI (P : Program) (w : World) (K : PySem.W.Frag) (mg : Str → Option Value) (base : Heap) (cl : Str → Option Addr) (k : Nat) (c f : Str) : Prop :=
  ∃ (C fI : Addr) (fd : FuncData) (ps : List Str), cl c = some C ∧ mg c = some (.ref C) ∧ OexC K C ∧ PySem.W.findIn K (.ref C) "__init__" = some (some (.ref fI)) ∧ PySem.W.typeIn K (.ref fI) = some (.type "function") ∧
    FnOk P w K mg base (L2N.CX P w) k fI fd ps (spXv K f) ∧ Binds K fd ps [] ∧ PySem.W.findIn K (.ref C) f = some none
def fRaiseI {α : Type} (c f : Str) (ma : En → R (List D)) : En → Fl α := fun ρ => fOf (ma ρ) ρ fun ds => .er ⟨c, [f], ds⟩ ρ
@[simp] theorem fRaiseI_ap {α : Type} (c f : Str) (ma : En → R (List D)) (ρ : En) : (fRaiseI c f ma ρ : Fl α) = fOf (ma ρ) ρ fun ds => .er ⟨c, [f], ds⟩ ρ := id rfl
def tRaiseI (K : PySem.W.Frag) (cl : Str → Option Addr) (c f : Str) (t : TA) (W : WX) : TS := fun _ σ H => ∃ C, cl c = some C ∧ tMkO C (spXv K f) [] t σ H fun cls d H' => W cls d σ H'
section
variable {α : Type} {W : WX} {mp : List (Nat × Addr)} {RP : RPt α} {t : TA} {ma : En → R (List D)} {c f : Str} {k : Nat} {pos' : Pos}
theorem us_raiseI (hc : X.calm = true) (tk : L2N.Takes X W) (G : CalXI X.prog X.w X.K X.mg X.base cl k c f) (hr : Room (k + 1) X.A) (ha : UA X cl W (e :: es) t ma) (hl : ∀ ρ ds, ma ρ = .ok ds → ds.length + 1 = 2) (hg : Gl X c := by rfl) (hdb : (c == ("__debug__" : Str)) = false := by decide)
    (hse : starEach (e :: es) X.env = (false, eval e X.env) :: starEach es X.env := by rfl) (hpl : (backTo pos' (starEach es X.env)).any (·.1) = false := by rfl) :
    US X cl W mp RP (.Raise (some (.Call (.Name c p2) (e :: es) [] pos')) none pos) (tRaiseI X.K cl c f t W) (fRaiseI c f ma) := by
  obtain ⟨C, fI, fd, ps, h1, h2, T, iC, tI, Fo, hb, hf⟩ := G
  refine ⟨⟨fun pins s σ H D I ⟨C', hC, h⟩ => ?_⟩, fun F0 H0 F H σ ρ Dn S P p => ⟨C, h1, ?_⟩⟩
  · rw [h1] at hC; cases hC
    exact (L2N.ps_raise hc tk (pmkN T iC tI Fo hr hb (fun _ σ _ _ e s' I c => tk e s' (L2N.XE.of_call I (fun _ _ _ h => False.elim h) c)) hg h2 ha.pe hdb hse hpl)).run pins s σ H D I h
  · refine ha.es F0 H0 F H σ ρ _ S ?_
    unfold fRaiseI at p
    cases e1 : ma ρ with
    | st => rw [e1] at p; exact p
    | er x => rw [e1] at p; exact fun cls dd F1 H1 g r => p cls dd σ F1 H1 g.f (S.mono g) P r
    | ok ds =>
    rw [e1, fOf_ok] at p
    have hds := hl ρ ds e1
    intro vs F1 H1 g r
    have hvl := r.length
    obtain ⟨v, rfl⟩ : ∃ v, vs = [v] := by
      match vs, hvl with
      | [v], _ => exact ⟨v, rfl⟩
      | [], h => simp at h; omega
      | _ :: _ :: _, h => simp at h; omega
    refine ⟨Nat.le_of_ble_eq_true rfl, fun a ha => ⟨a, C, v, rfl, T, hf, upd_same, fun dx hdx hne => ?_⟩⟩
    have hd1 : H1 dx = none := by rw [upd_ne hne] at hdx; exact hdx
    refine ⟨rfl, dx, [(f, v)], upd_same, ?_, hd1, ?_⟩
    · rw [upd_ne hne, upd_same]
    have eH : upd (del (upd (upd (upd H1 a (exo a C none)) dx (exd dx [(f, v)])) a (exo a C (some dx))) a) dx (.xd [(f, v)]) = upd H1 dx (.xd [(f, v)]) := by
      funext b
      by_cases hb : b = dx
      · rw [hb, upd_same, upd_same]
      · rw [upd_ne hb, upd_ne hb]
        by_cases hba : b = a
        · rw [hba, del_same, ha]
        · rw [del_ne hba, upd_ne hba, upd_ne hb, upd_ne hba]
    rw [eH]
    exact p _ _ _ _ _ (g.f.trans (Grow.lay (o := .xd [(f, v)]) g.s hd1).f) (S.mono (g.trans (Grow.lay g.s hd1))) P ⟨C, h1, rfl, .inr ⟨by simp, dx, [v], rfl, upd_same, rfl, r.mono (Grow.lay (o := .xd [(f, v)]) g.s hd1).f⟩⟩
end
end
end UP
namespace UP
open PySem L2 PyProof.Rows
/-! ### trees with tuples -/
section
variable {α : Type} {X : Cx} {cl : Str → Option Addr} {W : WX} {K : PySem.W.Frag} {F0 H0 F H F' H' : Hp} {σ : L2.St} {ρ : En} {mp : List (Nat × Addr)} {RP : RPt α} {Dn : Ends} {e o : Expr} {te : TE} {pos apos cpos pos' p : Pos} {es : List Expr} {t : TA} {x : Str} {ps : List Str} {k n : Nat}
/-- a tree's places are written anyhow, the slot is dead -/
theorem Sr.spoil {i : Nat} {v : V} {t : DT} {fp : List Addr} (S : Sr K cl F0 H0 F H σ ρ) (hi : ρ[i]? = some (.tr t)) (hv : σ[i]? = some (some v)) (hT : Tr K cl F H v t fp) (hH : ∀ a, a ∉ fp → H' a = H a) : Sr K cl F0 H0 F H' σ (ρ.set i .un) := by
  obtain ⟨ω, h1, h2, h3⟩ := S.tr
  obtain ⟨u, q1, q2, q3, q4⟩ := h1 i t hi
  rw [hv] at q1; cases q1
  have := hT.fn q2
  subst this
  have ne : ∀ {a : Addr} {o : HO}, F a = some o → a ∉ ω i := fun {a o} e z => by rw [(q4 a z).1] at e; cases e
  have ne0 : ∀ {a : Addr} {o : HO}, H0 a = some o → a ∉ ω i := fun {a o} e z => by rw [(q4 a z).2] at e; cases e
  have S0 := S.unE (i := i)
  refine ⟨⟨S.grow.f, fun a o e => by rw [hH a (ne e)]; exact S.grow.s a o e, fun a o e => by rw [hH a (ne0 e)]; exact S.grow.h a o e, S.grow.n⟩, S0.len, S0.val, fun j o e => ?_, S0.dis, ω, fun j t' e => ?_, fun j k t1 t2 a e1 e2 => h2 j k t1 t2 a (set_un e1 tr_ne).2 (set_un e2 tr_ne).2, fun j k t1 o p e1 e2 => h3 j k t1 o p (set_un e1 tr_ne).2 (set_un e2 own_ne).2⟩
  · obtain ⟨p, ho, w1, w2, w3, w4, w5⟩ := S0.own j o e
    have : p ∉ ω i := h3 i j t o p hi (set_un e own_ne).2 w1
    exact ⟨p, ho, w1, w2, by rw [hH p this]; exact w3, w4, w5⟩
  · obtain ⟨hji, e'⟩ := set_un e tr_ne
    obtain ⟨u, w1, w2, w3, w4⟩ := h1 j t' e'
    exact ⟨u, w1, w2.mono (Ex.refl _) fun a ha => hH a fun w => hji (h2 j i t' t a e' hi ha w), w3, w4⟩
/-- for row in x: row[0].append(e) -/
def tApp0 (d : D) : DT → Option (D × DT)
  | .tup (.lst us :: rs) => if us.length < SZ then some (.non, .tup (.lst (us ++ [.fz d]) :: rs)) else none
  | _ => none
def appAll0 (d : D) : List DT → Option (List DT)
  | [] => some []
  | t :: ts => match tApp0 d t, appAll0 d ts with
    | some (_, t'), some ts' => some (t' :: ts')
    | _, _ => none
def fForApp0 (i y : Nat) (me : En → R D) : En → Fl α := fun ρ => match ρ[i]? with
  | some (.tr (.lst ts)) => if y < ρ.length then match me ((ρ.set y .un).set i .un) with
    | .ok d => match appAll0 d ts with
      | some ts' => .nx ((ρ.set y .un).set i (.tr (.lst ts')))
      | none => .st
    | _ => .st
    else .st
  | _ => .st
theorem us_forApp0 {i y : Nat} {me : En → R D} {ty : Expr} {o2 : Expr} (po : PassesOwn (model X.prog X.w) X.A X.env X.xe) (hc : X.calm = true) (hiy : i ≠ y) (ho : PE X o (tVar i)) (hg : PG X ty (gName y)) (he : UE X cl WF e te me) (hy : y ∉ mp.map (·.1))
    (hb : PE X (.Call (.Attribute o2 "append" apos) [e] [] cpos) (tBM X.K "list" rAppend (tOp (fun x y H Q => rIxL X.K x y H Q ∨ rIxT X.K x y H Q) (tVar y) (tC (.int 0))) (tCons te tNil)))
    (hs : ∀ x, foldedSetIterable o X.env x = pure x := by intro _; rfl)
    (hsw : swapsWith (.Call (.Attribute o2 "append" apos) [e] [] cpos) none pos'.line X.env = pure false := by rfl) :
    US X cl W mp RP (.For ty o [.Expr (.Call (.Attribute o2 "append" apos) [e] [] cpos) pos'] [] pos) (tFor (iList X.K (tVar i)) (gName y) (tDrop (tBM X.K "list" rAppend (tOp (fun x y H Q => rIxL X.K x y H Q ∨ rIxT X.K x y H Q) (tVar y) (tC (.int 0))) (tCons te tNil)))) (fForApp0 i y me) := by
  refine ⟨ps_for po hc (pi_list ho) hg (pss_one (ps_expr hb hsw)) hs, fun F0 H0 F H σ ρ Dn S P p => ?_⟩
  unfold fForApp0 at p
  split at p
  rotate_left
  · exact p.elim
  rename_i ts hi
  split at p
  rotate_left
  · exact p.elim
  rename_i hyl
  split at p
  rotate_left
  · exact p.elim
  rename_i d hd
  split at p
  rotate_left
  · exact p.elim
  rename_i ts' hts
  have hil : i < ρ.length := (List.getElem?_eq_some_iff.mp hi).1
  obtain ⟨ω, h1, h2, h3⟩ := S.tr
  obtain ⟨u, q1, q2, q3, q4⟩ := h1 i _ hi
  unfold Tr at q2
  obtain ⟨pp, vs, fq, rfl, y1, y2, y3⟩ := q2
  refine ⟨_, q1, pp, rfl, ⟨vs, SqL.of y1⟩, ?_⟩
  let st (us : List DT) : En := (ρ.set y .un).set i (.tr (.lst us))
  refine ⟨fun n m σ H => m = ts.length - n ∧ n ≤ ts.length ∧ ∃ F2 a b, Sr X.K cl F0 H0 F2 H σ (st (a ++ ts.drop n)) ∧ Pin mp σ ∧ σ[i]? = some (some (.ref pp)) ∧ Ex F F2 ∧ a.length = n ∧ appAll0 d (ts.drop n) = some b ∧ a ++ b = ts',
    ⟨ts.length, by simp, Nat.zero_le _, F, [], ts', ?_, P, q1, Ex.refl _, rfl, hts, rfl⟩, ?_⟩
  · have S1 := S.unE (i := y)
    have e1 : (ρ.set y .un).set i (.tr (.lst ts)) = ρ.set y .un := by
      refine List.ext_getElem? fun j => ?_
      by_cases hj : i = j
      · subst hj; rw [List.getElem?_set_self (by simpa using hil), List.getElem?_set_ne (Ne.symm hiy), hi]
      · rw [List.getElem?_set_ne hj]
    show Sr X.K cl F0 H0 F H σ ((ρ.set y .un).set i (.tr (.lst ([] ++ ts.drop 0))))
    rw [List.nil_append, List.drop_zero, e1]
    exact S1
  rintro n m σ H ⟨rfl, hn, F2, a, b, S2, P2, hpp, e2, ha, hb2, hab⟩
  have hst : ∀ us, (st us)[i]? = some (.tr (.lst us)) := fun us => List.getElem?_set_self (by simpa using hil)
  obtain ⟨ω2, k1, k2, k3⟩ := S2.tr
  obtain ⟨u2, z1, z2, z3, z4⟩ := k1 i _ (hst _)
  rw [hpp] at z1; cases z1
  unfold Tr at z2
  obtain ⟨pp', vs2, fq2, e5, w1, w2, w3⟩ := z2
  cases e5
  have hlen : vs2.length = ts.length := by rw [w3.length, List.length_append, List.length_drop]; omega
  by_cases hlt : n < ts.length
  · have hdr := List.drop_eq_getElem_cons hlt
    rw [hdr] at hb2
    have hat : (a ++ ts.drop n)[n]? = some ts[n] := by rw [List.getElem?_append_right (by omega), ha, Nat.sub_self, hdr]; rfl
    obtain ⟨p1, vs1, v1, f2, x1, x2, x3, x4, x5, x6, x7⟩ := S2.itAt (hst _) hat
    rw [hpp] at x1; cases x1
    rw [w1] at x2; cases x2
    unfold appAll0 at hb2
    split at hb2
    rotate_left
    · cases hb2
    rename_i d0 t' b' hf hb'
    cases hb2
    refine .inr ⟨⟨vs2, v1, SqL.of w1, x4⟩, fun σ H => ∃ F2 a b, Sr X.K cl F0 H0 F2 H σ (st (a ++ ts.drop (n + 1))) ∧ Pin mp σ ∧ σ[i]? = some (some (.ref pp)) ∧ Ex F F2 ∧ a.length = n + 1 ∧ appAll0 d (ts.drop (n + 1)) = some b ∧ a ++ b = ts', fun σ' H' z => ⟨ts.length - (n + 1), by omega, rfl, hlt, z⟩, fun x H3 yl => ?_⟩
    obtain ⟨rfl, yl⟩ := yl
    have ex := yl vs2 (SqL.of w1)
    rw [x4] at ex; cases ex
    have S3 := S2.un (i := y) (u := some v1)
    have e6 : (st (a ++ ts.drop n)).set y .un = st (a ++ ts.drop n) := set_un_y hiy
    rw [e6] at S3
    have P3 : Pin mp (σ.set y (some v1)) := pin_set P2 hy
    have hsl : y < σ.length := by
      have h5 := S2.len
      have h6 : (st (a ++ ts.drop n)).length = ρ.length := by show ((ρ.set y .un).set i _).length = _; simp
      omega
    have hv1 : (σ.set y (some v1))[y]? = some (some v1) := List.getElem?_set_self hsl
    have hpi : (σ.set y (some v1))[i]? = some (some (.ref pp)) := by rw [List.getElem?_set_ne (Ne.symm hiy)]; exact hpp
    generalize hts0 : ts[n] = t0 at *
    cases t0 with
    | fz _ => cases hf
    | lst _ => cases hf
    | dk _ _ => cases hf
    | ob _ _ _ => cases hf
    | tup rs =>
    cases rs with
    | nil => cases hf
    | cons r0 rs =>
    cases r0 with
    | fz _ => cases hf
    | tup _ => cases hf
    | dk _ _ => cases hf
    | ob _ _ _ => cases hf
    | lst us =>
    unfold Tr at x5
    obtain ⟨tq, tz, fq', rfl, yy1, rfl, yy2⟩ := x5
    unfold Trs at yy2
    obtain ⟨v0, r0, g1, g2, rfl, rfl, yy3, yy4⟩ := yy2
    unfold Tr at yy3
    obtain ⟨q, zs, fl, rfl, yy5, rfl, yy6⟩ := yy3
    have S4 : Sr X.K cl F0 H0 F2 H3 (σ.set y (some (.ref tq))) ((ρ.set y .un).set i .un) := by
      have h7 := S3.unE (i := i)
      have h8 : (st (a ++ ts.drop n)).set i .un = (ρ.set y .un).set i .un := List.set_set _
      rw [h8] at h7
      exact h7
    have at0 : atI (V.ref q :: r0) 0 = some (.ref q) := atI_nat' (V.ref q :: r0) 0
    refine ⟨_, hv1, .inr ⟨tq, _, 0, .ref q, rfl, rfl, SqT.of yy1, at0, tyV_l yy5, he.es F0 H0 F2 H3 _ _ _ S4 ?_⟩⟩
    rw [hd]
    intro yv F4 H4 g4 r4
    obtain ⟨p5, vs5, v5, f5, c1, c2, c3, c4, c5, c6, c7⟩ := (S3.mono g4).itAt (hst _) hat
    rw [hpi] at c1; cases c1
    have e7 : vs5 = vs2 := by have := g4.h _ _ w1; rw [c2] at this; cases this; rfl
    subst e7
    rw [x4] at c4; cases c4
    unfold Tr at c5
    obtain ⟨tq', tz', fq5, e8, d1, rfl, d2⟩ := c5
    cases e8
    have e10 : tz' = V.ref q :: r0 := by have := g4.h _ _ yy1; rw [d1] at this; cases this; rfl
    subst e10
    unfold Trs at d2
    obtain ⟨v0', r0', h1', h2', e11, rfl, d3, d4⟩ := d2
    cases e11
    unfold Tr at d3
    obtain ⟨q', zs', fl', e12, d5, rfl, d6⟩ := d3
    cases e12
    have hf : (if us.length < SZ then some (D.non, DT.tup (.lst (us ++ [.fz d]) :: rs)) else none) = some (d0, t') := hf
    split at hf
    rotate_left
    · cases hf
    rename_i hz
    cases hf
    refine ⟨q, zs', yv, rfl, rfl, d5, by rw [d6.length]; exact sz_lt hz, ?_⟩
    have c7' := c7
    rw [List.nodup_cons, List.cons_append, List.nodup_cons] at c7
    obtain ⟨c8, c9, c10⟩ := c7
    have tne : tq ≠ q := fun z => c8 (by simp [z])
    have S6 := c6 (upd H4 q (.lst (zs' ++ [yv]))) (.tup (.lst (us ++ [.fz d]) :: rs)) (tq :: ((q :: fl') ++ h2')) (fun b hb => upd_ne fun z => hb (by simp [z])) ?_ c7' fun b hb => hb
    rotate_left
    · unfold Tr
      refine ⟨tq, .ref q :: r0, (q :: fl') ++ h2', rfl, by rw [upd_ne tne]; exact d1, rfl, ?_⟩
      unfold Trs
      refine ⟨.ref q, r0, q :: fl', h2', rfl, rfl, ?_, d4.mono (Ex.refl _) fun b hb => upd_ne fun z => c9 (by rw [← z]; simp [hb])⟩
      unfold Tr
      refine ⟨q, zs' ++ [yv], fl', rfl, upd_same, rfl, ?_⟩
      have y3 := d6.append (Trs.one (tr_fz (H := H4) r4))
      rw [List.append_nil] at y3
      exact y3.mono (Ex.refl _) fun b hb => upd_ne fun z => c9 (by rw [← z]; simp [hb])
    have e9 : (st (a ++ ts.drop n)).set i (.tr (.lst ((a ++ ts.drop n).set n (.tup (.lst (us ++ [.fz d]) :: rs))))) = st ((a ++ [.tup (.lst (us ++ [.fz d]) :: rs)]) ++ ts.drop (n + 1)) := by
      show ((ρ.set y .un).set i _).set i _ = (ρ.set y .un).set i _
      rw [List.set_set, hdr]
      congr 3
      rw [List.set_append_right _ _ (by omega), ha, Nat.sub_self, List.set_cons_zero, List.append_assoc]
      rfl
    rw [e9] at S6
    exact ⟨F4, a ++ [.tup (.lst (us ++ [.fz d]) :: rs)], b', S6, P3, hpi, e2.trans g4.f, by simp [ha], hb', by rw [List.append_assoc]; exact hab⟩
  · have e : n = ts.length := by omega
    subst e
    refine .inl ⟨⟨vs2, SqL.of w1, by omega⟩, ?_⟩
    rw [List.drop_length] at hb2 S2
    cases hb2
    rw [List.append_nil] at hab S2
    subst hab
    exact p σ F2 H e2 S2 P2

/-- x.append(x[0]), x is dead behind it -/
def fDropApp (i : Nat) : En → Fl α := fun ρ => match ρ[i]? with
  | some (.tr (.lst (t :: ts))) => if ts.length + 1 < SZ then .nx (ρ.set i .un) else .st
  | _ => .st
theorem us_dropApp {i : Nat} (ho : PE X o (tVar i))
    (hp : PE X (.Call (.Attribute o "append" apos) [e] [] cpos) (tBM X.K "list" rAppend (tVar i) (tCons (tOp (fun x y H Q => rIxL X.K x y H Q ∨ rIxT X.K x y H Q) (tVar i) (tC (.int 0))) tNil)))
    (hs : swapsWith (.Call (.Attribute o "append" apos) [e] [] cpos) none pos.line X.env = pure false := by rfl) :
    US X cl W mp RP (.Expr (.Call (.Attribute o "append" apos) [e] [] cpos) pos) (tDrop (tBM X.K "list" rAppend (tVar i) (tCons (tOp (fun x y H Q => rIxL X.K x y H Q ∨ rIxT X.K x y H Q) (tVar i) (tC (.int 0))) tNil))) (fDropApp i) := by
  refine ⟨ps_expr hp hs, fun F0 H0 F H σ ρ Dn S P p => ?_⟩
  unfold fDropApp at p
  split at p
  rotate_left
  · exact p.elim
  rename_i t ts hi
  split at p
  rotate_left
  · exact p.elim
  rename_i hz
  obtain ⟨ω, h1, h2, h3⟩ := S.tr
  obtain ⟨u, q1, q2, q3, q4⟩ := h1 i _ hi
  have q2' := q2
  unfold Tr at q2
  obtain ⟨pp, vs, fq, rfl, y1, y2, y3⟩ := q2
  have hl := y3.length
  obtain ⟨v0, r0, rfl⟩ : ∃ v0 r0, vs = v0 :: r0 := by
    cases vs with
    | nil => simp at hl
    | cons a b => exact ⟨a, b, rfl⟩
  have at0 : atI (v0 :: r0) 0 = some v0 := atI_nat' (v0 :: r0) 0
  refine ⟨_, q1, tyV_l y1, _, q1, .inl ⟨pp, _, 0, v0, rfl, rfl, SqL.of y1, at0, ?_⟩⟩
  refine ⟨pp, _, v0, rfl, rfl, y1, by rw [hl, List.length_cons]; exact sz_lt hz, ?_⟩
  exact p σ F _ (Ex.refl _) (S.spoil hi q1 q2' fun a ha => upd_ne fun z => ha (by rw [z, y2]; simp)) P
/-- looks at a tree that may hold tuples; what is told is flat -/
def dPkA (i : Nat) (me : En → R D) : En → R D := fun ρ => dFlat (me (frzA i ρ))
theorem ue_pkA {te : TE} {me : En → R D} (i : Nat) (he : UE X cl W e te me) : UE X cl W e te (dPkA i me) := by
  refine ⟨he.pe, fun F0 H0 F H σ ρ Q S p => ?_⟩
  obtain ⟨F', x, S'⟩ : ∃ F', Ex F F' ∧ Sr X.K cl F0 H0 F' H σ (frzA i ρ) := by
    unfold frzA
    split
    · rename_i t hi
      obtain ⟨F', a, _, b⟩ := S.frzTr hi
      exact ⟨F', a, b⟩
    · exact ⟨F, Ex.refl _, S⟩
  refine he.es F0 H0 F' H σ _ Q S' ?_
  unfold dPkA dFlat at p
  cases e1 : me (frzA i ρ) with
  | st => rw [e1] at p; exact p.elim
  | er x => rw [e1] at p; exact p.elim
  | ok d =>
    rw [e1] at p
    have p : Post X.K cl W σ F H Q (if flatD d = true then .ok d else .st) := p
    by_cases hd : flatD d = true
    · rw [if_pos hd] at p
      intro v F1 H1 g r
      exact p v F H1 ⟨Ex.refl _, (x.trans g.f).trans g.s, g.h, fun _ _ _ z => z⟩ (rp_flat_any hd r)
    · rw [if_neg hd] at p; exact p.elim
/-- a tuple of new ones and frozen ones -/
def PostQA (K : PySem.W.Frag) (cl : Str → Option Addr) (W : WX) (σ : L2.St) (F H : Hp) (Q : List V → Hp → Prop) : R (List DT) → Prop
  | .ok ts => ∀ vs fp F' H', Grow F H F' H' → Trs K cl F' H' vs ts fp → fp.Nodup → (∀ a ∈ fp, H a = none ∧ F' a = none) → Q vs H'
  | .er x => ∀ cls dd F' H', Grow F H F' H' → ExR K cl F' x cls dd → W cls dd σ H'
  | .st => False
structure UQA (X : Cx) (cl : Str → Option Addr) (W : WX) (es : List Expr) (ta : TA) (me : En → R (List DT)) : Prop where
  pe : PA X es ta
  es : ∀ F0 H0 F H σ ρ Q, Sr X.K cl F0 H0 F H σ ρ → PostQA X.K cl W σ F H Q (me ρ) → ta σ H Q
def qNil : En → R (List DT) := fun _ => .ok []
def qCons (a : En → R DT) (b : En → R (List DT)) : En → R (List DT) := fun ρ => (a ρ).bind fun x => (b ρ).bind fun xs => .ok (x :: xs)
def dTup (m : En → R (List DT)) : En → R DT := fun ρ => (m ρ).bind fun ts => if ts.length ≤ SZ then .ok (.tup ts) else .st
theorem uqa_nil : UQA X cl W [] tNil qNil := ⟨pa_nil, fun F0 H0 F H σ ρ Q S p => p [] [] F H (Grow.refl S.ex) (by unfold Trs; exact ⟨rfl, rfl⟩) List.nodup_nil fun a ha => by cases ha⟩
theorem uqa_cons {es : List Expr} {te : TE} {t : TA} {me : En → R DT} {ma : En → R (List DT)} (h : UQ X cl W e te me) (hr : UQA X cl W es t ma) (hs : starEach (e :: es) X.env = (false, eval e X.env) :: starEach es X.env := by rfl) :
    UQA X cl W (e :: es) (tCons te t) (qCons me ma) := by
  refine ⟨pa_cons h.pe hr.pe hs, fun F0 H0 F H σ ρ Q S p => ?_⟩
  unfold qCons at p
  refine h.es F0 H0 F H σ ρ _ S ?_
  cases e1 : me ρ with
  | st => rw [e1] at p; exact p
  | er x => rw [e1] at p; exact p
  | ok dx =>
    rw [e1, R.bind_ok] at p
    intro x f1 F1 H1 g1 T1 n1 z1
    refine hr.es F0 H0 F1 H1 σ ρ _ (S.mono g1) ?_
    cases e2 : ma ρ with
    | st => rw [e2] at p; exact p
    | er x => rw [e2] at p; exact fun c d F2 H2 g2 q => p c d F2 H2 (g1.trans g2) q
    | ok dy =>
      rw [e2, R.bind_ok] at p
      intro ys f2 F2 H2 g2 T2 n2 z2
      have T1' : Tr X.K cl F2 H2 x dx f1 := T1.mono g2.f fun a ha => by
        obtain ⟨u, hu⟩ := T1.here a ha
        rw [hu]; exact g2.h a u hu
      refine p (x :: ys) (f1 ++ f2) F2 H2 (g1.trans g2) (by unfold Trs; exact ⟨x, ys, f1, f2, rfl, rfl, T1', T2⟩) (List.nodup_append.mpr ⟨n1, n2, fun a ha b hb z => ?_⟩) fun a ha => ?_
      · subst z
        obtain ⟨u, hu⟩ := T1.here a ha
        rw [(z2 a hb).1] at hu; cases hu
      · rcases List.mem_append.mp ha with w | w
        · obtain ⟨u, hu⟩ := T1.here a w
          exact ⟨(z1 a w).1, g2.n a u hu (z1 a w).2⟩
        · refine ⟨?_, (z2 a w).2⟩
          cases q : H a with
          | none => rfl
          | some u => have := g1.h a u q; rw [(z2 a w).1] at this; cases this
theorem uq_tup {es : List Expr} {t : TA} {ma : En → R (List DT)} {x1 : Nat} (h : UQA X cl W es t ma) : UQ X cl W (.Tuple es x1 pos) (tTup t) (dTup ma) := by
  refine ⟨pe_tup h.pe, fun F0 H0 F H σ ρ Q S p => h.es F0 H0 F H σ ρ _ S ?_⟩
  unfold dTup at p
  cases e : ma ρ with
  | st => rw [e] at p; exact p
  | er x => rw [e] at p; exact p
  | ok ts =>
    rw [e, R.bind_ok] at p
    split at p
    · rename_i hz
      intro vs fp F1 H1 g T n z
      refine ⟨by rw [T.length]; exact sz_le hz, fun q hq => ?_⟩
      have nq : q ∉ fp := fun w => by
        obtain ⟨u, hu⟩ := T.here q w
        rw [hq] at hu; cases hu
      refine p (.ref q) (q :: fp) F1 _ (g.trans (Grow.lay' g.s hq)) ?_ (List.nodup_cons.mpr ⟨nq, n⟩) fun a ha => ?_
      · unfold Tr
        exact ⟨q, vs, fp, rfl, upd_same, rfl, T.mono (Ex.refl _) fun b hb => upd_ne fun w => nq (w ▸ hb)⟩
      · rcases List.mem_cons.mp ha with w | w
        · rw [w]; exact ⟨g.old q hq, Grow.fnone g.s hq⟩
        · exact z a w
    · exact p.elim
@[simp] theorem dPkA_ap (i : Nat) (me : En → R D) (ρ : En) : dPkA i me ρ = dFlat (me (frzA i ρ)) := id rfl
@[simp] theorem frzA_ap (i : Nat) (ρ : En) : frzA i ρ = match ρ[i]? with
  | some (.tr t) => ρ.set i (.val (frzD t))
  | _ => ρ := id rfl
@[simp] theorem qNil_ap (ρ : En) : qNil ρ = .ok [] := id rfl
@[simp] theorem qCons_ap (a : En → R DT) (b : En → R (List DT)) (ρ : En) : qCons a b ρ = (a ρ).bind fun x => (b ρ).bind fun xs => .ok (x :: xs) := id rfl
@[simp] theorem dTup_ap (m : En → R (List DT)) (ρ : En) : dTup m ρ = (m ρ).bind fun ts => if ts.length ≤ SZ then .ok (.tup ts) else .st := id rfl
@[simp] theorem fDropApp_ap (i : Nat) (ρ : En) : (fDropApp i ρ : Fl α) = match ρ[i]? with
  | some (.tr (.lst (t :: ts))) => if ts.length + 1 < SZ then .nx (ρ.set i .un) else .st
  | _ => .st := id rfl
@[simp] theorem fForApp0_ap (i y : Nat) (me : En → R D) (ρ : En) : (fForApp0 i y me ρ : Fl α) = match ρ[i]? with
  | some (.tr (.lst ts)) => if y < ρ.length then match me ((ρ.set y .un).set i .un) with
    | .ok d => match appAll0 d ts with
      | some ts' => .nx ((ρ.set y .un).set i (.tr (.lst ts')))
      | none => .st
    | _ => .st
    else .st
  | _ => .st := id rfl
end
end UP
namespace UP
open PySem L2 PyProof.Rows
section
variable {X : Cx} {cl : Str → Option Addr} {K : PySem.W.Frag} {mg : Str → Option Value} {e : Expr} {es : List Expr} {ta : TA} {p1 p2 pos : Pos} {x : Str}
/-! ### an own exception class whose __init__ keeps a list's copy as its field -/
abbrev rLst (K : PySem.W.Frag) : List V → Hp → VK → Prop := fun xs H Q => ∃ p ys, xs = [.ref p] ∧ (SqL K H p ys ∨ SqT K H p ys) ∧ ∀ l, H l = none → Q (.ref l) (upd H l (.lst ys))
def spXl (K : PySem.W.Frag) (f : Str) : Sp := fun vs H Q E => ∃ (a C : Addr) (v : V), vs = [.ref a, v] ∧ OexC K C ∧ PySem.W.findIn K (.ref C) f = some none ∧ H a = some (exo a C none) ∧
  rLst K [v] H (fun y H1 => H1 a = some (exo a C none) ∧ ∀ dx, H1 dx = none → dx ≠ a → Q .non (upd (upd H1 dx (exd dx [(f, y)])) a (exo a C (some dx))))
section
variable {P : Program} {w : World} {base : Heap} {qual n : Str} {st : Stmt} {f : Addr} {fd : FuncData} {N ps : List Str} {k : Nat} {fld : Str} {z : V}
theorem def_XL (F : Fun K n qual st f fd) (S : FnScope N ps (defScope st)) (hp : ps.length = 2)
    (hb : ∀ (cdv : Value) (A : Around) (outer : List Env) (s : Shared) (H : Hp) (E : XK),
      PSs (cxOf (L2N.CX P w) P w K mg base N qual (defScope st) f cdv A outer s H E) (defBody st) (tSeq (tDrop (tVeI K (tCons (tVar 0) (tCons (tC z) tNil)))) (tOst K fld (tVar 0) (tCB (rLst K) (tCons (tVar 1) tNil))))) :
    FnOk P w K mg base (L2N.CX P w) (k + 1) f fd ps (spXl K fld) := by
  refine okXN F S (fun vs H Q E h => ?_) (fun cdv A outer s H vs Q E hr h => ?_)
  · obtain ⟨a, C, v, rfl, _⟩ := h
    rw [hp]; rfl
  · obtain ⟨a, C, v, rfl, T, hf, ha, p, ys, e1, sq, post⟩ := h
    cases e1
    have s0 : (L2.start N [.ref a, V.ref p])[0]? = some (some (.ref a)) := rfl
    have s1 : (L2.start N [.ref a, V.ref p])[1]? = some (some (V.ref p)) := rfl
    refine ⟨_, hb cdv A outer s H E, ⟨.ref a, s0, a, C, [z], rfl, Nat.le_of_ble_eq_true rfl, T, ha, ?_⟩⟩
    refine ⟨V.ref p, s1, p, ys, rfl, sq, fun l hl => ?_⟩
    obtain ⟨h1, h2⟩ := post l hl
    exact ⟨.ref a, s0, a, C, rfl, T, hf, .inl ⟨h1, fun dx h3 h4 => h2 dx h3 h4⟩⟩
end
/-- raise c(e), c keeps its list's copy as f -/
def CalXL (P : Program) (w : World) (K : PySem.W.Frag) (mg : Str → Option Value) (base : Heap) (cl : Str → Option Addr) (k : Nat) (c f : Str) : Prop :=
  ∃ (C fI : Addr) (fd : FuncData) (ps : List Str), cl c = some C ∧ mg c = some (.ref C) ∧ OexC K C ∧ PySem.W.findIn K (.ref C) "__init__" = some (some (.ref fI)) ∧ PySem.W.typeIn K (.ref fI) = some (.type "function") ∧
    FnOk P w K mg base (L2N.CX P w) k fI fd ps (spXl K f) ∧ Binds K fd ps [] ∧ PySem.W.findIn K (.ref C) f = some none
def excL (c f : Str) : List D → Option Exc
  | [.lst xs] => some ⟨c, [f], [.lst xs]⟩
  | _ => none
def fRaiseL {α : Type} (c f : Str) (ma : En → R (List D)) : En → Fl α := fun ρ => fOf (ma ρ) ρ fun ds => match excL c f ds with
  | some x => .er x ρ
  | none => .st
@[simp] theorem excL_l (c f : Str) (xs : List D) : excL c f [.lst xs] = some ⟨c, [f], [.lst xs]⟩ := id rfl
@[simp] theorem fRaiseL_ap {α : Type} (c f : Str) (ma : En → R (List D)) (ρ : En) : (fRaiseL c f ma ρ : Fl α) = fOf (ma ρ) ρ fun ds => match excL c f ds with
  | some x => .er x ρ
  | none => .st := id rfl
def tRaiseL (K : PySem.W.Frag) (cl : Str → Option Addr) (c f : Str) (t : TA) (W : WX) : TS := fun _ σ H => ∃ C, cl c = some C ∧ tMkO C (spXl K f) [] t σ H fun cls d H' => W cls d σ H'
section
variable {α : Type} {W : WX} {mp : List (Nat × Addr)} {RP : RPt α} {t : TA} {ma : En → R (List D)} {c f : Str} {k : Nat} {pos' : Pos}
theorem us_raiseL (hc : X.calm = true) (tk : L2N.Takes X W) (G : CalXL X.prog X.w X.K X.mg X.base cl k c f) (hr : Room (k + 1) X.A) (ha : UA X cl W (e :: es) t ma) (hg : Gl X c := by rfl) (hdb : (c == ("__debug__" : Str)) = false := by decide)
    (hse : starEach (e :: es) X.env = (false, eval e X.env) :: starEach es X.env := by rfl) (hpl : (backTo pos' (starEach es X.env)).any (·.1) = false := by rfl) :
    US X cl W mp RP (.Raise (some (.Call (.Name c p2) (e :: es) [] pos')) none pos) (tRaiseL X.K cl c f t W) (fRaiseL c f ma) := by
  obtain ⟨C, fI, fd, ps, h1, h2, T, iC, tI, Fo, hb, hf⟩ := G
  refine ⟨⟨fun pins s σ H D I ⟨C', hC, h⟩ => ?_⟩, fun F0 H0 F H σ ρ Dn S P p => ⟨C, h1, ?_⟩⟩
  · rw [h1] at hC; cases hC
    exact (L2N.ps_raise hc tk (pmkN T iC tI Fo hr hb (fun _ σ _ _ e s' I c => tk e s' (L2N.XE.of_call I (fun _ _ _ h => False.elim h) c)) hg h2 ha.pe hdb hse hpl)).run pins s σ H D I h
  · refine ha.es F0 H0 F H σ ρ _ S ?_
    unfold fRaiseL at p
    cases e1 : ma ρ with
    | st => rw [e1] at p; exact p
    | er x => rw [e1] at p; exact fun cls dd F1 H1 g r => p cls dd σ F1 H1 g.f (S.mono g) P r
    | ok ds =>
    rw [e1, fOf_ok] at p
    cases e2 : excL c f ds with
    | none => rw [e2] at p; exact p.elim
    | some xc =>
    rw [e2] at p
    obtain ⟨xs, rfl, rfl⟩ : ∃ xs, ds = [.lst xs] ∧ xc = ⟨c, [f], [.lst xs]⟩ := by
      unfold excL at e2
      split at e2
      · rename_i xs
        cases e2
        exact ⟨xs, rfl, rfl⟩
      · cases e2
    intro vs F1 H1 g r
    unfold Rps at r
    obtain ⟨v, r0, rfl, rv, rn⟩ := r
    unfold Rps at rn
    subst rn
    unfold Rp at rv
    obtain ⟨q, ys, rfl, sq, ry⟩ := rv
    refine ⟨Nat.le_of_ble_eq_true rfl, fun a ha => ⟨a, C, .ref q, rfl, T, hf, upd_same, q, ys, rfl, .inl ?_, fun l hl => ⟨?_, fun dx hdx hne => ?_⟩⟩⟩
    · have sq1 : SqL X.K H1 q ys := SqB.mono (b := true) g.s sq
      exact SqB.mono (b := true) (Ex.new ha) sq1
    · have hla : a ≠ l := fun z => by rw [← z, upd_same] at hl; cases hl
      rw [upd_ne hla, upd_same]
    have hla : l ≠ a := fun z => by rw [z, upd_same] at hl; cases hl
    have hl1 : H1 l = none := by rw [upd_ne hla] at hl; exact hl
    have hdl : dx ≠ l := fun z => by rw [z, upd_same] at hdx; cases hdx
    have hd1 : H1 dx = none := by rw [upd_ne hdl, upd_ne hne] at hdx; exact hdx
    refine ⟨rfl, dx, [(f, V.ref l)], upd_same, ?_, hd1, ?_⟩
    · rw [upd_ne hne, upd_same]
    have eH : upd (del (upd (upd (upd (upd H1 a (exo a C none)) l (.lst ys)) dx (exd dx [(f, .ref l)])) a (exo a C (some dx))) a) dx (.xd [(f, .ref l)]) = upd (upd H1 l (.lst ys)) dx (.xd [(f, .ref l)]) := by
      funext b
      by_cases hb : b = dx
      · rw [hb, upd_same, upd_same]
      · rw [upd_ne hb, upd_ne hb]
        by_cases hba : b = a
        · rw [hba, del_same, upd_ne (fun z => hla z.symm), ha]
        · rw [del_ne hba, upd_ne hba, upd_ne hb]
          by_cases hbl : b = l
          · rw [hbl, upd_same, upd_same]
          · rw [upd_ne hbl, upd_ne hbl, upd_ne hba]
    rw [eH]
    have g1 := Grow.lay (o := .lst ys) g.s hl1
    have hd2 : upd H1 l (HO.lst ys) dx = none := by rw [upd_ne hdl]; exact hd1
    have g2 := Grow.lay (o := .xd [(f, V.ref l)]) g1.s hd2
    have hFl : (upd (upd F1 l (.lst ys)) dx (.xd [(f, .ref l)])) l = some (.lst ys) := by rw [upd_ne (fun z => hdl z.symm), upd_same]
    refine p _ _ _ _ _ ((g.f.trans g1.f).trans g2.f) (S.mono ((g.trans g1).trans g2)) P ⟨C, h1, rfl, .inr ⟨by simp, dx, [.ref l], rfl, upd_same, rfl, ?_⟩⟩
    unfold Rps
    refine ⟨.ref l, [], rfl, ?_, by unfold Rps; rfl⟩
    unfold Rp
    exact ⟨l, ys, rfl, SqL.of hFl, (ry.mono g1.f).mono g2.f⟩
end
end
end UP
namespace UP
open PySem L2 PyProof.Rows
section
variable {α : Type} {X : Cx} {cl : Str → Option Addr} {W : WX} {RP : RPt α} {mp : List (Nat × Addr)} {e o : Expr} {te : TE} {pos apos cpos : Pos}
/-! ### x.append(e), e may raise -/
def fAppE (i : Nat) (me : En → R D) : En → Fl α := fun ρ => match ρ[i]? with
  | some (.own (.lst xs)) => fOf (me ρ) ρ fun d => if xs.length < SZ then .nx (ρ.set i (.own (.lst (xs ++ [d])))) else .st
  | _ => .st
@[simp] theorem fAppE_ap (i : Nat) (me : En → R D) (ρ : En) : (fAppE i me ρ : Fl α) = match ρ[i]? with
  | some (Sl.own (DO.lst xs)) => fOf (me ρ) ρ fun d => if xs.length < SZ then .nx (ρ.set i (.own (.lst (xs ++ [d])))) else .st
  | _ => .st := id rfl
theorem us_appendE {i : Nat} {me : En → R D} (ho : PE X o (tVar i)) (he : UE X cl W e te me)
    (hp : PE X (.Call (.Attribute o "append" apos) [e] [] cpos) (tBM X.K "list" rAppend (tVar i) (tCons te tNil)))
    (hs : swapsWith (.Call (.Attribute o "append" apos) [e] [] cpos) none pos.line X.env = pure false := by rfl) :
    US X cl W mp RP (.Expr (.Call (.Attribute o "append" apos) [e] [] cpos) pos) (tDrop (tBM X.K "list" rAppend (tVar i) (tCons te tNil))) (fAppE i me) := by
  refine ⟨ps_expr hp hs, fun F0 H0 F H σ ρ Dn S P p => ?_⟩
  unfold fAppE at p
  split at p
  rotate_left
  · exact p.elim
  rename_i xs hi
  obtain ⟨q, ho', h1, h2, h3, ⟨vs, rfl, hv⟩, h5⟩ := S.own i _ hi
  refine ⟨_, h1, tyV_lst h3, he.es F0 H0 F H σ ρ _ S (post_of S P p fun d v F1 H1 g r p => ?_)⟩
  have p : PostS X.K cl W mp RP F0 H0 F1 Dn (if xs.length < SZ then .nx (ρ.set i (.own (.lst (xs ++ [d])))) else .st) := p
  split at p
  · rename_i hz
    have hv1 := hv.mono g.f
    refine ⟨q, vs, v, rfl, rfl, g.h _ _ h3, by rw [hv1.length]; exact sz_lt hz, ?_⟩
    refine p σ F1 _ (Ex.refl _) ((S.mono g).write hi h1 ⟨_, rfl, hv1.append ?_⟩) P
    unfold Rps
    exact ⟨v, [], rfl, r, by unfold Rps; rfl⟩
  · exact p.elim
end
end UP
namespace UP
open PySem L2 PyProof.Rows
section
variable {α : Type} {X : Cx} {cl : Str → Option Addr} {W : WX} {RP : RPt α} {mp : List (Nat × Addr)} {e o : Expr} {te : TE} {pos apos cpos : Pos}
/-- x[k].append(e), x a tuple of new ones, dead behind it -/
def fDropIt (i k : Nat) (me : En → R D) : En → Fl α := fun ρ => match ρ[i]? with
  | some (.tr (.tup ts)) => match ts[k]? with
    | some (.lst us) => match me ρ with
      | .ok _ => if us.length < SZ then .nx (ρ.set i .un) else .st
      | _ => .st
    | _ => .st
  | _ => .st
@[simp] theorem fDropIt_ap (i k : Nat) (me : En → R D) (ρ : En) : (fDropIt i k me ρ : Fl α) = match ρ[i]? with
  | some (Sl.tr (DT.tup ts)) => match ts[k]? with
    | some (DT.lst us) => match me ρ with
      | .ok _ => if us.length < SZ then .nx (ρ.set i .un) else .st
      | _ => .st
    | _ => .st
  | _ => .st := id rfl
theorem us_dropIt {i k : Nat} {me : En → R D} (he : UE X cl WF e te me)
    {o2 : Expr} (hp : PE X (.Call (.Attribute o2 "append" apos) [e] [] cpos) (tBM X.K "list" rAppend (tOp (fun x y H Q => rIxL X.K x y H Q ∨ rIxT X.K x y H Q) (tVar i) (tC (.int (k : Nat)))) (tCons te tNil)))
    (hs : swapsWith (.Call (.Attribute o2 "append" apos) [e] [] cpos) none pos.line X.env = pure false := by rfl) :
    US X cl W mp RP (.Expr (.Call (.Attribute o2 "append" apos) [e] [] cpos) pos) (tDrop (tBM X.K "list" rAppend (tOp (fun x y H Q => rIxL X.K x y H Q ∨ rIxT X.K x y H Q) (tVar i) (tC (.int (k : Nat)))) (tCons te tNil))) (fDropIt i k me) := by
  refine ⟨ps_expr hp hs, fun F0 H0 F H σ ρ Dn S P p => ?_⟩
  unfold fDropIt at p
  split at p
  rotate_left
  · exact p.elim
  rename_i ts hi
  split at p
  rotate_left
  · exact p.elim
  rename_i us hk
  split at p
  rotate_left
  · exact p.elim
  rename_i d hd
  split at p
  rotate_left
  · exact p.elim
  rename_i hz
  obtain ⟨ω, h1, h2, h3⟩ := S.tr
  obtain ⟨u, q1, q2, q3, q4⟩ := h1 i _ hi
  unfold Tr at q2
  obtain ⟨pp, vs, fq, rfl, y1, y2, y3⟩ := q2
  obtain ⟨v, f1, f2, f3, k1, k2, k3, k4⟩ := y3.at hk
  unfold Tr at k3
  obtain ⟨q, zs, fl, rfl, z1, z2, z3⟩ := k3
  have at0 : atI vs (k : Nat) = some (.ref q) := by rw [atI_nat', k1]
  refine ⟨_, q1, .inr ⟨pp, vs, k, .ref q, rfl, rfl, SqT.of y1, at0, tyV_l z1, he.es F0 H0 F H σ ρ _ S ?_⟩⟩
  rw [hd]
  intro yv F4 H4 g4 r4
  have S4 := S.mono g4
  obtain ⟨ω', h1', _, _⟩ := S4.tr
  obtain ⟨u', q1', q2', q3', q4'⟩ := h1' i _ hi
  have q2s := q2'
  rw [q1] at q1'
  cases q1'
  unfold Tr at q2'
  obtain ⟨pp', vs', fq', e1, y1', y2', y3'⟩ := q2'
  cases e1
  have e2 : vs' = vs := by have := g4.h _ _ y1; rw [y1'] at this; cases this; rfl
  subst e2
  obtain ⟨v', f1', f2', f3', k1', k2', k3', k4'⟩ := y3'.at hk
  rw [k1] at k1'
  cases k1'
  unfold Tr at k3'
  obtain ⟨q', zs', fl', e3, z1', z2', z3'⟩ := k3'
  cases e3
  refine ⟨q, zs', yv, rfl, rfl, z1', by rw [z3'.length]; exact sz_lt hz, ?_⟩
  exact p σ F4 _ g4.f (S4.spoil hi q1 q2s fun a ha => upd_ne fun z => ha (by rw [z, y2', k2', z2']; simp)) P
/-- looks at a tree that may hold tuples; what is told is a new list of flat ones -/
def dPkAN (i : Nat) (me : En → R DO) : En → R DO := fun ρ => match me (frzA i ρ) with
  | .ok (.lst xs) => if xs.all flatD = true then .ok (.lst xs) else .st
  | _ => .st
@[simp] theorem dPkAN_ap (i : Nat) (me : En → R DO) (ρ : En) : dPkAN i me ρ = match me (frzA i ρ) with
  | .ok (.lst xs) => if xs.all flatD = true then .ok (.lst xs) else .st
  | _ => .st := id rfl
theorem un_pkA {me : En → R DO} (i : Nat) (he : UN X cl W e te me) : UN X cl W e te (dPkAN i me) := by
  refine ⟨he.pe, fun F0 H0 F H σ ρ Q S p => ?_⟩
  obtain ⟨F', x, S'⟩ : ∃ F', Ex F F' ∧ Sr X.K cl F0 H0 F' H σ (frzA i ρ) := by
    unfold frzA
    split
    · rename_i t hi
      obtain ⟨F', a, _, b⟩ := S.frzTr hi
      exact ⟨F', a, b⟩
    · exact ⟨F, Ex.refl _, S⟩
  refine he.es F0 H0 F' H σ _ Q S' ?_
  unfold dPkAN at p
  split at p
  · rename_i xs hx
    rw [hx]
    split at p
    · rename_i hfl
      intro q ho F2 H2 g hn hq hh hr
      classical
      let F1 : Hp := fun a => if F a = none ∧ F' a ≠ none then none else F2 a
      have f1 : ∀ a, F a ≠ none → F1 a = F2 a := fun a h => if_neg (fun z => h z.1)
      have gr : Grow F H F1 H2 := by
        refine ⟨fun a o ha => ?_, fun a o ha => ?_, g.h, fun a o hao han => ?_⟩
        · rw [f1 a (by rw [ha]; exact fun z => nomatch z)]; exact g.f _ _ (x _ _ ha)
        · by_cases c : F a = none ∧ F' a ≠ none
          · have : F1 a = none := if_pos c
            rw [this] at ha; cases ha
          · have : F1 a = F2 a := if_neg c
            rw [this] at ha; exact g.s _ _ ha
        · by_cases c : F' a = none
          · have : F1 a = F2 a := if_neg (fun z => z.2 c)
            rw [this]; exact g.n a o hao c
          · exact if_pos ⟨han, c⟩
      refine p q ho F1 H2 gr hn ?_ hh ?_
      · by_cases c : F q = none ∧ F' q ≠ none
        · exact if_pos c
        · have : F1 q = F2 q := if_neg c
          rw [this]; exact hq
      · obtain ⟨vs, e1, e2⟩ := hr
        exact ⟨vs, e1, rps_flat_any hfl e2⟩
    · exact p.elim
  · exact p.elim
/-- a look, for a test -/
def dPkAT (i : Nat) (mt : En → R Bool) : En → R Bool := fun ρ => noer (mt (frzA i ρ))
@[simp] theorem dPkAT_ap (i : Nat) (mt : En → R Bool) (ρ : En) : dPkAT i mt ρ = noer (mt (frzA i ρ)) := id rfl
theorem ut_pkA (i : Nat) {tt : TT} {mt : En → R Bool} (ht : UT X cl W e tt mt) : UT X cl W e tt (dPkAT i mt) := by
  refine ⟨ht.pe, fun F0 H0 F H σ ρ Q S p => ?_⟩
  obtain ⟨F', x, S'⟩ : ∃ F', Ex F F' ∧ Sr X.K cl F0 H0 F' H σ (frzA i ρ) := by
    unfold frzA
    split
    · rename_i t hi
      obtain ⟨F', a, _, b⟩ := S.frzTr hi
      exact ⟨F', a, b⟩
    · exact ⟨F, Ex.refl _, S⟩
  refine ht.es F0 H0 F' H σ _ Q S' ?_
  unfold dPkAT at p
  cases hx : mt (frzA i ρ) with
  | st => rw [hx] at p; exact p.elim
  | er x => rw [hx] at p; exact p.elim
  | ok b =>
    rw [hx] at p
    exact fun F2 H2 g => p F H2 ⟨Ex.refl _, (x.trans g.f).trans g.s, g.h, fun _ _ _ z => z⟩
end
section
variable {α : Type} {X : Cx} {cl : Str → Option Addr} {W : WX} {RP : RPt α} {mp : List (Nat × Addr)}
theorem us_setLcFA (ka : Nat) {vs : List Nat} {i : Nat} {y : Str} {py : Pos} {elt tg iter : Expr} {ifs : List Expr} {scope : Scope} {own : List (Str × Nat)} {pos spos : Pos} {wi : TI} {ws : List Nat} {mi : En → R (List D)} {gm : D → En → R En} {tm : En → R Bool} {em : En → R D}
    (hc : X.calm = true) (hN : X.N.Nodup) (hy : X.N[i]? = some y) (hyl : X.env.scope.names.lookup y = some .local) (hp : i ∉ mp.map (·.1))
    (hsw : swapsWith (.ListComp elt [⟨tg, iter, ifs, 0⟩] scope pos) (some (.Name y py)) spos.line X.env = pure true)
    (hi : UI X cl W false tg iter wi mi) (ok : BlkOk X.N X.env.scope scope own) (hws : ∀ k ∈ ws, k ∈ own.map (·.2))
    (hg : ∀ (s : Shared) (H : Hp) (C : Addr) (cs : List (Str × Addr)) (fp : List Addr), ∃ g, UG (X.blk s H scope (compEnvC scope cs C X.env) fp) cl tg g gm ws)
    (ht : ∀ (s : Shared) (H : Hp) (C : Addr) (cs : List (Str × Addr)) (fp : List Addr), ∃ tt, UTs (X.blk s H scope (compEnvC scope cs C X.env) fp) cl WF ifs tt tm)
    (he : ∀ (s : Shared) (H : Hp) (C : Addr) (cs : List (Str × Addr)) (fp : List Addr), ∃ te, UE (X.blk s H scope (compEnvC scope cs C X.env) fp) cl WF elt te em) (hvs : own.map (·.2) = vs) (hs : ∀ x, foldedSetIterable iter X.env x = pure x := by intro _; rfl) :
    US X cl W mp RP (.Assign [.Name y py] (.ListComp elt [⟨tg, iter, ifs, 0⟩] scope pos) spos) (tAsg (tLc wi (gStar X.K cl ws gm) (ttStar X.K cl WF tm) (tStar X.K cl WF em) (own.map (·.2))) (gName i)) (fSet i (d1 dFz (dPkAN ka (dLc vs mi gm tm em)))) := by
  subst hvs
  have hg' : ∀ (s : Shared) (H : Hp) (C : Addr) (cs : List (Str × Addr)) (fp : List Addr), UG (X.blk s H scope (compEnvC scope cs C X.env) fp) cl tg (gStar X.K cl ws gm) gm ws := fun s H C cs fp => (hg s H C cs fp).elim fun _ h => h.star
  have ht' : ∀ (s : Shared) (H : Hp) (C : Addr) (cs : List (Str × Addr)) (fp : List Addr), UTs (X.blk s H scope (compEnvC scope cs C X.env) fp) cl WF ifs (ttStar X.K cl WF tm) tm := fun s H C cs fp => (ht s H C cs fp).elim fun _ h => h.star
  have he' : ∀ (s : Shared) (H : Hp) (C : Addr) (cs : List (Str × Addr)) (fp : List Addr), UE (X.blk s H scope (compEnvC scope cs C X.env) fp) cl WF elt (tStar X.K cl WF em) em := fun s H C cs fp => (he s H C cs fp).elim fun _ h => h.star
  exact ⟨ps_setLc hc hN hy hyl hsw hi.pe ok (fun s H C cs fp => (hg' s H C cs fp).pe) (fun s H C cs fp => (ht' s H C cs fp).pe) (fun s H C cs fp => (he' s H C cs fp).pe) hs,
    fun F0 H0 F H σ ρ Dn S P p => (UN.e (un_pkA ka (un_lc (pos := pos) hc hN hi ok hws hg ht he rfl hs))).es F0 H0 F H σ ρ _ S (post_of S P p fun d v F1 H1 g r q => q _ F1 H1 (Ex.refl _) ((S.mono g).set r) (pin_set P hp))⟩
end
end UP
namespace UP
open PySem L2 PyProof.Rows
/-! ### try: body / except X as n: suite / else: orelse -/
section
variable {X : Cx} {x n : Str} {c : Value} {i : Nat} {body suite orelse : List Stmt} {b₀ : Stmt} {np pos pos' : Pos} {tb : WX → TS} {ts : Addr → Value → Option Addr → TS} {u : TS} {Wout : WX}
/-- .. behind the suite's: the name goes -/
theorem as_after {pins pn : List (Addr × Obj)} {a : Addr} {D : Ends} {f : Flow} {s6 : Shared} (ok : X.Ok) (sub : ∀ {σ : L2.St} {H : Hp}, Inv (X.suite a pn) [] σ H s6 → Inv X pins σ H s6) (hN : X.N.Nodup) (hi : X.N[i]? = some n) (hln : X.env.kindOf n = some .local)
    (q : SP (X.suite a pn) [] { nx := fun σ' H' => D.nx (σ'.set i none) H', rt := D.rt, bk := fun σ' H' => D.bk (σ'.set i none) H', ct := fun σ' H' => D.ct (σ'.set i none) H' } f s6) :
    wpAny (model X.prog X.w) X.A (do bindName X.env n .none; unbindBehindTheSuite X.env n pos') (fun _ s7 => SP X pins D f s7) X.xe s6 := by
  cases f with
  | next => obtain ⟨_, _, J, k⟩ := q; exact L2.gone_ok (sub J) hN hi hln fun _ J7 => ⟨_, _, J7, k⟩
  | brk => obtain ⟨_, _, J, k⟩ := q; exact L2.gone_ok (sub J) hN hi hln fun _ J7 => ⟨_, _, J7, k⟩
  | cont => obtain ⟨_, _, J, k⟩ := q; exact L2.gone_ok (sub J) hN hi hln fun _ J7 => ⟨_, _, J7, k⟩
  | ret v => obtain ⟨_, _, _, J, r, k⟩ := q; exact L2.gone_ok (sub J) hN hi hln fun _ J7 => ⟨_, _, _, J7, r, k⟩
/-- the body's exception is caught by name, or passes on -/
theorem as_caught {pins : List (Addr × Obj)} {D : Ends} {v : Value} {s' : Shared} (ok : X.Ok) (hs : X.stack = X.env :: X.outer) (hf : X.env.frame = some X.env.locals) (hN : X.N.Nodup) (hi : X.N[i]? = some n) (hln : X.env.kindOf n = some .local) (hc : Names X x c) (tk : L2N.Takes X Wout)
    (hsu : ∀ (a : Addr) (oe : Obj) (cls : Value) (d : Option Addr) (pn : List (Addr × Obj)), L2N.Zn cls d oe → (∃ vs, oe.data = .fields vs) → PSs (X.suite a ((a, oe) :: pn)) (b₀ :: suite) (ts a cls d)) {xe : Value → Shared → Prop}
    (hx : L2N.XE (X.tr (X.pn ++ pins) xe) (wAs X.K c i ts Wout D) v s') :
    wpAny (model X.prog X.w) X.A (noteFrame v X.env) (fun _ s2 => wpAny (model X.prog X.w) X.A (setFlight v none) (fun _ s3 => wpAny (model X.prog X.w) X.A (handleBy v X.env [.ExceptHandler (some (.Name x np)) (some n) (b₀ :: suite) pos']) (SP X pins D) X.xe s3) X.xe s2) X.xe s' := by
  obtain ⟨a, B, sI, p1, σ1, H1, cls, d, rfl, J0, nb, up, sky, na, os, ag, b, hb1, hyes, hno⟩ := hx
  have J := J0.ofTry ok
  have hsk : X.A.frames = some (X.env :: X.outer) := ok.frames.trans (congrArg some hs)
  have sky : Sky B (X.env :: X.outer) a (L2N.Zn cls d) X.env.locals s'.heap := hs ▸ sky
  refine L2N.Sky.land L2N.Zn.steady hsk hf sky fun g1 l1 u1 => ?_
  have J1 := J.landed (s' := { s' with heap := g1 }) nb l1.1 (up.trans u1) os ag
  obtain ⟨o1, w1, e1, z1, d1⟩ := l1.there
  have off : a ∉ frs (X.env :: X.outer) := fun m => (l1.2.2.1.mem m).elim fun _ ⟨o2, e2, k2⟩ => k2 w1 (by rw [e1] at e2; cases e2; exact d1)
  have nL : a ≠ X.env.locals := fun z => off (List.mem_filterMap.mpr ⟨X.env, .head _, by rw [hf, z]⟩)
  have nF : a ∉ X.fs := fun m => (List.mem_filterMap.mp m).elim fun y ⟨k1, k2⟩ => off (List.mem_filterMap.mpr ⟨y, .tail _ k1, k2⟩)
  have S1 := J1.suite e1 d1 na nL nF
  refine wpAny_handleBy_cons (codeAny_handlers_test ?_) (fun q => nomatch q)
  have look := PySem.W.exm_one (M := model X.prog X.w) J1.kIn (fun A Q E s k q => wpAny_typeOf_ref (k _ _ e1) (by rw [z1.1]; exact q)) hb1
  have test : ∀ {Q E : Value → Shared → Prop}, Q c { s' with heap := g1 } → wpAny (model X.prog X.w) (X.A.mark (some (.ref a))) (eval (.Name x np) X.env) Q E { s' with heap := g1 } := fun q => by
    rcases hc with ⟨y1, y2, y3 | ⟨y3, y4, y5⟩⟩
    · exact ld_glob (X := X.suite a ((a, o1) :: (X.pn ++ pins))) S1 y1 y3 q y2
    · exact ld_blt (X := X.suite a ((a, o1) :: (X.pn ++ pins))) S1 y1 y3 y4 q y5 y2
  refine test (look.here ?_)
  cases b with
  | true =>
    refine codeAny_handlers_suite_as (HandSPX.lands_againZ l1 fun g2 l2 u2 => ?_)
    have J2 := J.landed (s' := { s' with heap := g2 }) nb l2.1 ((up.trans u1).trans u2) os ag
    obtain ⟨o2, w2, e2, z2, d2⟩ := l2.there
    have S2 := J2.suite e2 d2 na nL nF
    refine store_ok (X := X.suite a ((a, o2) :: (X.pn ++ pins))) (v := .ref a) S2 hN hi (.inl hln) rfl (fun s5 S5 => ?_) (.inr hln)
    exact wpAny_mono ((hsu a o2 cls d (X.pn ++ pins) z2 ⟨_, d2⟩).run [] s5 _ H1 _ S5 (hyes rfl a na)) (fun f s6 q => as_after ok (fun S => S.unsuite ok) hN hi hln q) (fun _ _ z => z.elim)
  | false =>
    refine wpAny_handleBy_nil ?_
    obtain ⟨_, _, _, o2, w2, T, oT, _, e2, z2, d2, t2, _⟩ := id l1
    have out : wpAny (model X.prog X.w) X.A (setFlight (.ref a) X.env.frame) (fun _ s4 => wpAny (model X.prog X.w) X.A (throw (.ref a) : Sem Flow) (SP X pins D) X.xe s4) X.xe { s' with heap := g1 } := by
      rw [hf]
      exact HandSPX.setFlight_upZ l1 fun g2 y2 u2 => wpAny_throw (tk _ _ ⟨a, B, sI, pins, σ1, H1, cls, d, rfl, J, nb, (up.trans u1).trans u2, .inr (.inr (hs ▸ y2)), na, os, ag, hno rfl⟩)
    unfold PySem.passOn
    refine wpAny_bind (wpAny_field e2 d2 t2 ?_)
    rw [if_neg (show ¬ ((Value.ref T == Value.none) = true) from by simp)]
    first
      | exact wpAny_bind (wpAny_pure (wpAny_bind out))
      | exact wpAny_bind out
theorem ps_tryAsE (ho : PSs X orelse u) (hs : X.stack = X.env :: X.outer) (hf : X.env.frame = some X.env.locals) (hN : X.N.Nodup) (hi : X.N[i]? = some n) (hln : X.env.kindOf n = some .local) (hc : Names X x c) (tk : L2N.Takes X Wout)
    (hb : ∀ (W : WX) (pn : List (Addr × Obj)) (xe : Value → Shared → Prop), L2N.Takes (X.tr pn xe) W → PassesOwn (model X.prog X.w) X.A X.env xe → PSs (X.tr pn xe) body (tb W))
    (hsu : ∀ (a : Addr) (oe : Obj) (cls : Value) (d : Option Addr) (pn : List (Addr × Obj)), L2N.Zn cls d oe → (∃ vs, oe.data = .fields vs) → PSs (X.suite a ((a, oe) :: pn)) (b₀ :: suite) (ts a cls d)) :
    PS X (.Try body [.ExceptHandler (some (.Name x np)) (some n) (b₀ :: suite) pos'] orelse [] pos) (fun D σ H => tb (wAs X.K c i ts Wout D) { D with nx := u D } σ H) := by
  refine ⟨fun pins s σ H D I h => wpAny_Try_except (wpAny_mono ((hb (wAs X.K c i ts Wout D) (X.pn ++ pins) _ (fun v s' hx => as_caught I.ok hs hf hN hi hln hc tk hsu hx) PassesOwn.looking).run [] s σ H _ (I.toTry _) h) (fun f s1 q => by
    cases f with
    | next => obtain ⟨σ', H', J, k⟩ := q; exact ho.run pins s1 σ' H' D (J.ofTry I.ok) k
    | ret v => obtain ⟨v', σ', H', J, r, k⟩ := q; exact ⟨v', σ', H', J.ofTry I.ok, r, k⟩
    | brk => obtain ⟨σ', H', J, k⟩ := q; exact ⟨σ', H', J.ofTry I.ok, k⟩
    | cont => obtain ⟨σ', H', J, k⟩ := q; exact ⟨σ', H', J.ofTry I.ok, k⟩) (fun _ _ z => z))⟩
end
theorem uss_never {α : Type} {X : Cx} {cl : Str → Option Addr} {W : WX} {mp : List (Nat × Addr)} {RP : RPt α} {b : List Stmt} : USs X cl W mp RP b tNever (fun _ => .st) := ⟨⟨fun pins s σ H D I h => h.elim⟩, fun F0 H0 F H σ ρ Dn S P p => p.elim⟩
/-- try: .. except X as n: .. else: .. -/
noncomputable def fTryEK {α : Type} (i : Nat) (tb : List (Str × Bool)) (mh : Addr × Addr → Exc → En → Fl α) (me : En → Fl α) : Fl α → Fl α
  | .nx ρ => me ρ
  | r => fTryK i tb mh r
noncomputable def fTryE {α : Type} (i : Nat) (tb : List (Str × Bool)) (mb : En → Fl α) (mh : Addr × Addr → Exc → En → Fl α) (me : En → Fl α) : En → Fl α := fun ρ => fTryEK i tb mh me (mb ρ)
section
variable {α : Type} {i : Nat} {tb : List (Str × Bool)} {mh : Addr × Addr → Exc → En → Fl α} {me : En → Fl α} {mb : En → Fl α}
@[simp] theorem fTryE_ap (ρ : En) : fTryE i tb mb mh me ρ = fTryEK i tb mh me (mb ρ) := id rfl
@[simp] theorem fTryEK_nx (ρ : En) : fTryEK i tb mh me (.nx ρ) = me ρ := id rfl
@[simp] theorem fTryEK_bk (ρ : En) : fTryEK i tb mh me (.bk ρ) = .bk ρ := id rfl
@[simp] theorem fTryEK_ct (ρ : En) : fTryEK i tb mh me (.ct ρ) = .ct ρ := id rfl
@[simp] theorem fTryEK_rt (a : α) (ρ : En) : fTryEK i tb mh me (.rt a ρ) = .rt a ρ := id rfl
@[simp] theorem fTryEK_st : fTryEK i tb mh me .st = .st := id rfl
@[simp] theorem fTryEK_er (x : Exc) (ρ : En) : fTryEK i tb mh me (.er x ρ) = match clAt x.cls tb with
    | some true => if i < ρ.length then tell fun q => fUndo i (mh q x (ρ.set i (.val (.exc q x.ns x.xs)))) else .st
    | some false => .er x ρ
    | none => .st := id rfl
end
section
variable {α : Type} {X : Cx} {cl : Str → Option Addr} {W : WX} {mp : List (Nat × Addr)} {RP : RPt α} {np pos pos' : Pos}
theorem us_tryAsE {i : Nat} {c n : Str} {tb : List (Str × Bool)} {body suite orelse : List Stmt} {b₀ : Stmt} {mb me : En → Fl α} {mh : Addr × Addr → Exc → En → Fl α} {RPa : Addr → RPt α} {te : TS} (hs : X.stack = X.env :: X.outer) (hf : X.env.frame = some X.env.locals) (hN : X.N.Nodup) (hi : X.N[i]? = some n)
    (hln : X.env.kindOf n = some .local) (G : CatF X.K X.mg cl c tb) (tk : L2N.Takes X W) (hp : i ∉ mp.map (·.1)) (hR : ∀ z F0 H0 rt d ρ, RP F0 H0 rt d ρ → RPa z F0 H0 rt d ρ)
    (hb : ∀ (W' : WX) (pn : List (Addr × Obj)) (xe : Value → Shared → Prop), L2N.Takes (X.tr pn xe) W' → PassesOwn (model X.prog X.w) X.A X.env xe → ∃ t, USs (X.tr pn xe) cl W' mp RP body t mb)
    (hsu : ∀ (q : Addr × Addr) (x : Exc) (oe : Obj) (pn : List (Addr × Obj)), HX (X.suite q.1 ((q.1, oe) :: pn)) cl q x → ∃ t, USs (X.suite q.1 ((q.1, oe) :: pn)) cl WF ((i, q.1) :: mp) (RPa q.1) (b₀ :: suite) t (mh q x))
    (he : USs X cl W mp RP orelse te me) (hg : Gl X c := by rfl) (hdb : (c == ("__debug__" : Str)) = false := by decide) :
    US X cl W mp RP (.Try body [.ExceptHandler (some (.Name c np)) (some n) (b₀ :: suite) pos'] orelse [] pos)
      (fun D σ H => ∃ cv, (X.mg c = some cv ∨ (X.mg c = none ∧ bootBuiltins c = some cv ∧ c ≠ "__name__")) ∧ sStar X.K cl (wAs X.K cv i (hStar X.K cl i mp RPa mh) W D) mp RP mb { D with nx := sStar X.K cl W mp RP me D } σ H) (fTryE i tb mb mh me) := by
  refine ⟨⟨fun pins s σ H D I ⟨cv, h1, h2⟩ => ?_⟩, fun F0 H0 F H σ ρ Dn S P p => ?_⟩
  · refine (ps_tryAsE (tb := fun W' => sStar X.K cl W' mp RP mb) (ts := hStar X.K cl i mp RPa mh) he.star hs hf hN hi hln ⟨hg, hdb, h1⟩ tk (fun W' pn xe t po => (hb W' pn xe t po).elim fun _ U => U.star) (fun a oe cls d pn zn hd => ?_)).run pins s σ H D I h2
    refine ⟨fun pins s σ H D I ⟨q, x, F0, H0, F, ρ, e1, k, S, P, p⟩ => ?_⟩
    subst e1
    obtain ⟨vs, hd⟩ := hd
    obtain ⟨t, U⟩ := hsu q x oe pn ⟨(q.1, oe), rfl, ⟨rfl, vs, hd, zn.2.2 vs hd⟩, List.mem_cons_self, cls, d, zn.zc, k⟩
    exact U.pe.run pins s σ H D I (U.es F0 H0 F H σ ρ D S P p)
  · obtain ⟨cv, h1, h2⟩ := G
    refine ⟨cv, h1, F0, H0, F, ρ, S, P, ?_⟩
    rw [fTryE_ap] at p
    cases e1 : mb ρ with
    | nx ρ1 => rw [e1, fTryEK_nx] at p; exact fun σ1 F1 H1 e2 S1 P1 => ⟨F0, H0, F1, ρ1, S1, P1, PostS.mono p e2⟩
    | bk ρ1 => rw [e1] at p; exact p
    | ct ρ1 => rw [e1] at p; exact p
    | rt a ρ1 => rw [e1] at p; exact p
    | st => rw [e1] at p; exact p
    | er x ρ1 =>
      rw [e1, fTryEK_er] at p
      intro cls dd σ1 F1 H1 e2 S1 P1 r
      obtain ⟨C, r1, r2, _⟩ := id r
      cases e3 : clAt x.cls tb with
      | none => rw [e3] at p; exact p.elim
      | some b =>
        obtain ⟨D, k1, k2⟩ := h2 _ (clAt_mem e3)
        rw [r1] at k1; cases k1
        subst r2
        refine ⟨b, k2, fun hb a na => ?_, fun hb => ?_⟩
        · subst hb
          rw [e3] at p
          have p : PostS X.K cl W mp RP F0 H0 F Dn (if i < ρ1.length then tell fun q => fUndo i (mh q x (ρ1.set i (.val (.exc q x.ns x.xs)))) else .st) := p
          by_cases hl : i < ρ1.length
          rotate_left
          · rw [if_neg hl] at p; exact p.elim
          rw [if_pos hl] at p
          obtain ⟨d, rd⟩ := rp_excR r
          obtain ⟨r3, r4⟩ := rd a
          rcases tell_at (fun q => fUndo i (mh q x (ρ1.set i (.val (.exc q x.ns x.xs))))) with z | z
          · rw [z] at p; exact p.elim
          · rw [← z (a, d)] at p
            have S2 := S1.set (i := i) r3
            refine ⟨(a, d), x, F0, H0, F1, ρ1.set i (.val (.exc (a, d) x.ns x.xs)), rfl, r4, S2, ?_, ?_⟩
            · exact pin_cons P1 hp (by rw [S1.len]; exact hl)
            · have p := PostS.mono p e2
              cases e5 : mh (a, d) x (ρ1.set i (.val (.exc (a, d) x.ns x.xs))) with
              | st => rw [e5] at p; exact p
              | er y ρ5 => rw [e5] at p; exact p.elim
              | rt y ρ5 => rw [e5] at p; exact hR _ _ _ _ _ _ p
              | nx ρ5 => rw [e5] at p; exact fun σ5 F5 H5 e6 S5 P5 => p _ F5 H5 e6 S5.un (pin_set P5.tail hp)
              | bk ρ5 => rw [e5] at p; exact fun σ5 F5 H5 e6 S5 P5 => p _ F5 H5 e6 S5.un (pin_set P5.tail hp)
              | ct ρ5 => rw [e5] at p; exact fun σ5 F5 H5 e6 S5 P5 => p _ F5 H5 e6 S5.un (pin_set P5.tail hp)
        · subst hb
          rw [e3] at p
          exact p _ dd σ1 F1 H1 e2 S1 P1 r
end
end UP
namespace UP
open PySem L2 PyProof.Rows
/-! ### list(d.values()), d ours, its keys tuples -/
def dLstVals (i : Nat) : En → R DO := fun ρ => (ownAt i ρ).bind fun o => match o with
  | .dT _ xs => .ok (.lst xs)
  | _ => .st
@[simp] theorem dLstVals_ap (i : Nat) (ρ : En) : dLstVals i ρ = (ownAt i ρ).bind fun o => match o with
  | .dT _ xs => .ok (.lst xs)
  | _ => .st := id rfl
def tListVals (te : TE) : TE := fun σ H Q => te σ H fun x H1 => ∃ d kvs, x = V.ref d ∧ H1 d = some (.dT kvs) ∧ ∀ q, H1 q = none → Q (.ref q) (upd H1 q (.lst (kvs.map (·.2))))
section
variable {X : Cx} {cl : Str → Option Addr} {W : WX} {K : PySem.W.Frag} {e : Expr} {te : TE} {p apos cpos pos : Pos} {i : Nat}
/-- the entries' values -/
theorem ent_vals {H : Hp} : ∀ {kvs : List (List Key × V)} {ks : List (List Key × Addr × Value)}, Paired (fun (a : List Key × V) (b : List Key × Addr × Value) => a.1 = b.1 ∧ H b.2.1 = some (.tup (a.1.map kV)) ∧ RelV a.2 b.2.2) kvs ks → Vals (kvs.map (·.2)) (ks.map (·.2.2))
  | _, _, .nil => .nil
  | _, _, .cons h t => .cons h.2.2 (ent_vals t)
theorem pe_listVals (hc : X.calm = true) (he : PE X e te) (hg : Gl X "list") (hm : X.mg "list" = none) (hb : attributeBase e "values" X.env (eval e X.env) = eval e X.env := by rfl) (hl : (apos.endLine == cpos.line) = true := by rfl)
    (hs : starEach [.Call (.Attribute e "values" apos) [] [] cpos] X.env = (false, eval (.Call (.Attribute e "values" apos) [] [] cpos) X.env) :: starEach [] X.env := by rfl) :
    PE X (.Call (.Name "list" p) [.Call (.Attribute e "values" apos) [] [] cpos] [] pos) (tListVals te) := by
  refine ⟨fun pins s σ H Q I h0 => wpAny_Call_Name_kw (ld_blt I hg hm boot_list (callWith_type1 ?_ hs rfl))⟩
  rw [hs]
  show wpAny _ _ (spliced ((false, eval (.Call (.Attribute e "values" apos) [] [] cpos) X.env) :: backTo pos (starEach [] X.env))) _ _ s
  refine Calls.spliced_cons (wpAny_Call_method (T := "dict") (id := "dict.values") hb rfl hl F.plainAttrs_dict F.slot_dict_values F.type_dict_values (thn (he.run pins s σ H _ I h0) fun v s1 h1 => ?_))
  obtain ⟨_, H1, I1, rx, d, kvs, rfl, hd, q⟩ := h1
  cases rx
  obtain ⟨z, hs0, ks, pr, o, es, ep, ho, hx, hdt, hent, hnd⟩ := (show ObjOk X.prog X.w H1 s1.heap d (.dT kvs) from I1.hok d _ hd)
  have l1 : es.size = ks.length := size_of_entries hent
  have l2 : kvs.length = ks.length := Paired.length pr
  have raw : s1.heap.DictRaw d es ep := ⟨o, ho, hx, hdt⟩
  refine ⟨⟨o, ho, hx.1⟩, fun a ea => ⟨o, by cases ea; exact ho, hx.2.1⟩, ?_⟩
  show wpAny _ _ (callWith cpos (.builtin "dict.values") [.ref d] [] []) _ X.xe s1
  refine method_meetsIn F.slot_dict_values F.entry_dict_values rfl (PySem.evalArgs_none ⟨rfl, ⟨o, ho, hx.1⟩, F.args_dict_values_1 _, _, meets_dict_values_raw d hs0, ⟨es, ep, raw⟩, Calls.spliced_nil ?_⟩)
  refine PySem.W.kdl_call (PySem.KdlSrc.rawValues (es := es) (ep := ep) (d := d)) (I1.ok.hd hc) ⟨⟨_, Heap.get?_push_size _ rfl, rfl, rfl⟩, raw.push _⟩ (by omega) fun h' tk acc c hk hS it => ?_
  have I2 : Inv X pins σ H1 { s1 with heap := s1.heap.push { cls := .type "dict_values", data := .fields #[.ref d] } } := I1.kept (t' := s1.toks) fun b ob y => Heap.get?_push_of_some _ y
  have ea : acc.toList = ks.map (·.2.2) := by
    apply List.ext_getElem?
    intro j
    have hlen : acc.toList.length = ks.length := by rw [Array.length_toList, it.1]; exact l1
    rw [List.getElem?_map]
    cases hj : acc.toList[j]? with
    | none =>
      have := List.getElem?_eq_none_iff.mp hj
      rw [List.getElem?_eq_none (by omega)]; rfl
    | some v =>
      obtain ⟨hi, hv⟩ := it.2 j v (by rw [← Array.getElem?_toList]; exact hj)
      have qe := entry_at hent j
      rw [Array.getElem?_eq_getElem hi] at qe
      cases hb : ks[j]? with
      | none => rw [hb] at qe; cases qe
      | some b =>
        rw [hb] at qe
        have e2 : es[j] = entryOfKey (tupleKind (mixKind X.prog X.w)) b := Option.some.inj qe
        rw [hv, e2]; rfl
  have rv : Vals (kvs.map (·.2)) acc.toList := by rw [ea]; exact ent_vals pr
  refine ⟨.ref _, _, I2.laid (t' := tk) (o := .lst (kvs.map (·.2))) hk (Nat.le_refl _) ⟨by rw [List.length_map]; omega, acc.toList, c, rv, by rw [Array.toArray_toList]; exact hS⟩, rfl, q _ (I2.hok.fresh (Nat.le_refl _))⟩
theorem un_listVals {o : Expr} (hc : X.calm = true) (hm : X.mg "list" = none) (ho : PE X o (tVar i)) (hg : Gl X "list" := by rfl) (hb : attributeBase o "values" X.env (eval o X.env) = eval o X.env := by rfl) (hl : (apos.endLine == cpos.line) = true := by rfl)
    (hs : starEach [.Call (.Attribute o "values" apos) [] [] cpos] X.env = (false, eval (.Call (.Attribute o "values" apos) [] [] cpos) X.env) :: starEach [] X.env := by rfl) :
    UN X cl W (.Call (.Name "list" p) [.Call (.Attribute o "values" apos) [] [] cpos] [] pos) (tListVals (tVar i)) (dLstVals i) := by
  refine ⟨pe_listVals hc ho hg hm hb hl hs, fun F0 H0 F H σ ρ Q S p => ?_⟩
  unfold dLstVals ownAt at p
  split at p
  rotate_left
  · exact p.elim
  rename_i od hi
  rw [R.bind_ok] at p
  obtain ⟨q, hob, h1, h2, h3, h4, h5⟩ := S.own i _ hi
  split at p
  rotate_left
  · exact p.elim
  rename_i ks xs
  obtain ⟨vs, e, hl2, rv⟩ := h4
  subst e
  refine ⟨_, h1, q, _, rfl, h3, fun a ha => ?_⟩
  have e2 : (ks.zip vs).map (·.2) = vs := List.map_snd_zip (by omega)
  rw [e2]
  exact p a (.lst _) F _ (Grow.lay' S.ex ha) ha (Grow.fnone S.ex ha) upd_same ⟨_, rfl, rv⟩
end
end UP
namespace UP
open PySem L2 PyProof.Rows
/-- t[lo:hi] of a tuple, not the whole of it -/
def dSlT (ml : En → R (Bool × List D)) (mo mh : En → R (Option Int)) : En → R D := fun ρ => (ml ρ).bind fun x => (mo ρ).bind fun l => (mh ρ).bind fun h => if x.1 = false ∧ ¬ (HT.sIx x.2.length 0 l = 0 ∧ HT.sIx x.2.length x.2.length h = x.2.length) then .ok (.tup (cutD x.2 l h)) else .st
@[simp] theorem dSlT_ap (ml : En → R (Bool × List D)) (mo mh : En → R (Option Int)) (ρ : En) : dSlT ml mo mh ρ = (ml ρ).bind fun x => (mo ρ).bind fun l => (mh ρ).bind fun h => if x.1 = false ∧ ¬ (HT.sIx x.2.length 0 l = 0 ∧ HT.sIx x.2.length x.2.length h = x.2.length) then .ok (.tup (cutD x.2 l h)) else .st := id rfl
section
variable {X : Cx} {cl : Str → Option Addr} {W : WX} {K : PySem.W.Frag}
theorem ue_slT {a : Expr} {ta : TE} {ml : En → R (Bool × List D)} {lo hi : Option Expr} {tl th : TO} {mo mh : En → R (Option Int)} {p2 pos : Pos} (ha : UL X cl W a ta ml) (hl : UO X cl W lo tl mo) (hh : UO X cl W hi th mh) :
    UE X cl W (.Subscript a (.Slice lo hi none p2) pos) (tSl (rSlT X.K) ta tl th) (dSlT ml mo mh) := by
  refine ⟨pe_slice sl_tup ha.pe hl.pe hh.pe, fun F0 H0 F H σ ρ Q S p => ?_⟩
  unfold dSlT at p
  refine ha.es F0 H0 F H σ ρ _ S ?_
  cases e : ml ρ with
  | st => rw [e] at p; exact p
  | er x => rw [e] at p; exact p
  | ok q =>
    obtain ⟨bb, ds⟩ := q
    rw [e, R.bind_ok] at p
    intro a vs F1 H1 g1 s1 r1
    refine hl.es F0 H0 F1 H1 σ ρ _ (S.mono g1) ?_
    cases e2 : mo ρ with
    | st => rw [e2] at p; exact p
    | er x => rw [e2] at p; exact fun c d F2 H2 g2 q => p c d F2 H2 (g1.trans g2) q
    | ok l =>
      rw [e2, R.bind_ok] at p
      intro F2 H2 g2
      refine hh.es F0 H0 F2 H2 σ ρ _ ((S.mono g1).mono g2) ?_
      cases e3 : mh ρ with
      | st => rw [e3] at p; exact p
      | er x => rw [e3] at p; exact fun c d F3 H3 g3 q => p c d F3 H3 ((g1.trans g2).trans g3) q
      | ok h =>
        rw [e3, R.bind_ok] at p
        intro F3 H3 g3
        split at p
        rotate_left
        · exact p.elim
        rename_i hc
        obtain ⟨hb, hw⟩ := hc
        cases bb with
        | true => cases hb
        | false =>
          refine ⟨a, vs, rfl, (s1.mono g2.h).mono g3.h, by rw [r1.length]; exact hw, fun q hq => ?_⟩
          have g4 := (g1.trans g2).trans g3
          have g5 := Grow.lay (o := .tup (cutV vs l h)) g4.s hq
          refine p _ _ _ (g4.trans g5) ?_
          unfold Rp
          exact ⟨q, _, rfl, upd_same, (((cut_rps r1 l h).mono g2.f).mono g3.f).mono g5.f⟩
end
end UP
namespace UP
open PySem L2 PyProof.Rows
/-! ### trees told at a def's end: what is ours is handed over -/
def PostMv (K : PySem.W.Frag) (cl : Str → Option Addr) (W : WX) (σ : L2.St) (H0 F H : Hp) (Q : VK) : R DT → Prop
  | .ok t => ∀ v fp F' H', Grow F H F' H' → Tr K cl F' H' v t fp → fp.Nodup → (∀ a ∈ fp, F' a = none ∧ H0 a = none) → Q v H'
  | .er x => ∀ cls dd F' H', Grow F H F' H' → ExR K cl F' x cls dd → W cls dd σ H'
  | .st => False
structure UMv (X : Cx) (cl : Str → Option Addr) (W : WX) (e : Expr) (te : TE) (me : En → R DT) : Prop where
  pe : PE X e te
  es : ∀ F0 H0 F H σ ρ Q, Sr X.K cl F0 H0 F H σ ρ → PostMv X.K cl W σ H0 F H Q (me ρ) → te σ H Q
def PostMvA (K : PySem.W.Frag) (cl : Str → Option Addr) (W : WX) (σ : L2.St) (H0 F H : Hp) (Q : List V → Hp → Prop) : R (List DT) → Prop
  | .ok ts => ∀ vs fp F' H', Grow F H F' H' → Trs K cl F' H' vs ts fp → fp.Nodup → (∀ a ∈ fp, F' a = none ∧ H0 a = none) → Q vs H'
  | .er x => ∀ cls dd F' H', Grow F H F' H' → ExR K cl F' x cls dd → W cls dd σ H'
  | .st => False
structure UMvA (X : Cx) (cl : Str → Option Addr) (W : WX) (es : List Expr) (ta : TA) (me : En → R (List DT)) : Prop where
  pe : PA X es ta
  es : ∀ F0 H0 F H σ ρ Q, Sr X.K cl F0 H0 F H σ ρ → PostMvA X.K cl W σ H0 F H Q (me ρ) → ta σ H Q
section
variable {α : Type} {X : Cx} {cl : Str → Option Addr} {W : WX} {K : PySem.W.Frag} {F0 H0 F H F' H' : Hp} {σ : L2.St} {ρ : En} {mp : List (Nat × Addr)} {RP : RPt α} {Dn : Ends} {e e1 o : Expr} {te tk : TE} {pos apos cpos tpos pos' p : Pos} {es : List Expr} {t : TA} {x : Str} {ps : List Str} {n : Nat}
theorem UQ.um {me : En → R DT} (h : UQ X cl W e te me) : UMv X cl W e te me := by
  refine ⟨h.pe, fun F0 H0 F H σ ρ Q S p => h.es F0 H0 F H σ ρ Q S ?_⟩
  cases e1 : me ρ with
  | st => rw [e1] at p; exact p
  | er x => rw [e1] at p; exact p
  | ok t => rw [e1] at p; exact fun v fp F1 H1 g T n z => p v fp F1 H1 g T n fun a ha => ⟨(z a ha).2, S.grow.old a (z a ha).1⟩
/-- an own list, handed over -/
def mOwn (i : Nat) : En → R DT := fun ρ => (ownAt i ρ).bind fun o => match o with
  | .lst xs => .ok (.lst (xs.map .fz))
  | _ => .st
theorem um_own {i : Nat} (ho : PE X e (tVar i)) : UMv X cl W e (tVar i) (mOwn i) := by
  refine ⟨ho, fun F0 H0 F H σ ρ Q S p => ?_⟩
  unfold mOwn ownAt at p
  split at p
  rotate_left
  · exact p.elim
  rename_i od hi
  rw [R.bind_ok] at p
  obtain ⟨q, hob, h1, h2, h3, h4, h5⟩ := S.own i _ hi
  split at p
  rotate_left
  · exact p.elim
  rename_i xs
  obtain ⟨vs, rfl, rv⟩ := h4
  refine ⟨_, h1, p (.ref q) [q] F H (Grow.refl S.ex) ?_ (by simp) fun a ha => ?_⟩
  · unfold Tr; exact ⟨q, vs, [], rfl, h3, rfl, trs_fz rv⟩
  · rw [List.mem_singleton.mp ha]; exact ⟨h2, h5⟩
/-- an own tree -/
def mTr (i : Nat) : En → R DT := fun ρ => match ρ[i]? with
  | some (.tr t) => .ok t
  | _ => .st
theorem um_tr {i : Nat} (ho : PE X e (tVar i)) : UMv X cl W e (tVar i) (mTr i) := by
  refine ⟨ho, fun F0 H0 F H σ ρ Q S p => ?_⟩
  unfold mTr at p
  split at p
  rotate_left
  · exact p.elim
  rename_i t hi
  obtain ⟨ω, h1, h2, h3⟩ := S.tr
  obtain ⟨v, q1, q2, q3, q4⟩ := h1 i t hi
  exact ⟨v, q1, p v _ F H (Grow.refl S.ex) q2 q3 q4⟩
/-- an item of an own tree -/
def kidT (k : Nat) : DT → R DT
  | .lst ts => match ts[k]? with
    | some t => .ok t
    | none => .st
  | .tup ts => match ts[k]? with
    | some t => .ok t
    | none => .st
  | _ => .st
def mKid (i k : Nat) : En → R DT := fun ρ => match ρ[i]? with
  | some (.tr t) => kidT k t
  | _ => .st
theorem um_kid {i k : Nat} (hp : PE X e (tOp (fun x y H Q => rIxL X.K x y H Q ∨ rIxT X.K x y H Q) (tVar i) (tC (.int (k : Nat))))) : UMv X cl W e (tOp (fun x y H Q => rIxL X.K x y H Q ∨ rIxT X.K x y H Q) (tVar i) (tC (.int (k : Nat)))) (mKid i k) := by
  refine ⟨hp, fun F0 H0 F H σ ρ Q S p => ?_⟩
  unfold mKid at p
  split at p
  rotate_left
  · exact p.elim
  rename_i t hi
  obtain ⟨ω, h1, h2, h3⟩ := S.tr
  obtain ⟨u, q1, q2, q3, q4⟩ := h1 i _ hi
  cases t with
  | fz _ => exact p.elim
  | dk _ _ => exact p.elim
  | ob _ _ _ => exact p.elim
  | lst ts =>
    unfold kidT at p
    dsimp only at p
    cases hk : ts[k]? with
    | none => rw [hk] at p; exact p.elim
    | some t =>
    rw [hk] at p
    unfold Tr at q2
    obtain ⟨pp, vs, fq, rfl, y1, y2, y3⟩ := q2
    obtain ⟨v, f1, f2, f3, k1, k2, k3, k4⟩ := y3.at hk
    have at0 : atI vs (k : Nat) = some v := by rw [atI_nat', k1]
    rw [y2, k2] at q3 q4
    have nq := (List.nodup_append.mp (List.nodup_append.mp (List.nodup_cons.mp q3).2).2.1).1
    exact ⟨_, q1, .inl ⟨pp, vs, k, v, rfl, rfl, SqL.of y1, at0, p v f2 F H (Grow.refl S.ex) k3 nq fun a ha => q4 a (by simp [ha])⟩⟩
  | tup ts =>
    unfold kidT at p
    dsimp only at p
    cases hk : ts[k]? with
    | none => rw [hk] at p; exact p.elim
    | some t =>
    rw [hk] at p
    unfold Tr at q2
    obtain ⟨pp, vs, fq, rfl, y1, y2, y3⟩ := q2
    obtain ⟨v, f1, f2, f3, k1, k2, k3, k4⟩ := y3.at hk
    have at0 : atI vs (k : Nat) = some v := by rw [atI_nat', k1]
    rw [y2, k2] at q3 q4
    have nq := (List.nodup_append.mp (List.nodup_append.mp (List.nodup_cons.mp q3).2).2.1).1
    exact ⟨_, q1, .inr ⟨pp, vs, k, v, rfl, rfl, SqT.of y1, at0, p v f2 F H (Grow.refl S.ex) k3 nq fun a ha => q4 a (by simp [ha])⟩⟩
/-- frozen ones, and one that is ours last -/
def mLast (me : En → R DT) : En → R (List DT) := fun ρ => (me ρ).bind fun t => .ok [t]
theorem uma_last {me : En → R DT} (h : UMv X cl W e te me) (hs : starEach [e] X.env = (false, eval e X.env) :: starEach [] X.env := by rfl) : UMvA X cl W [e] (tCons te tNil) (mLast me) := by
  refine ⟨pa_cons h.pe pa_nil hs, fun F0 H0 F H σ ρ Q S p => h.es F0 H0 F H σ ρ _ S ?_⟩
  unfold mLast at p
  cases e1 : me ρ with
  | st => rw [e1] at p; exact p
  | er x => rw [e1] at p; exact p
  | ok t => rw [e1, R.bind_ok] at p; exact fun v fp F1 H1 g T n z => p [v] fp F1 H1 g (Trs.one T) n z
def mCons (a : En → R D) (b : En → R (List DT)) : En → R (List DT) := fun ρ => (a ρ).bind fun x => (b ρ).bind fun xs => .ok (.fz x :: xs)
theorem uma_cons {te : TE} {t : TA} {me : En → R D} {ma : En → R (List DT)} (h : UE X cl W e te me) (hr : UMvA X cl W es t ma) (hs : starEach (e :: es) X.env = (false, eval e X.env) :: starEach es X.env := by rfl) :
    UMvA X cl W (e :: es) (tCons te t) (mCons me ma) := by
  refine ⟨pa_cons h.pe hr.pe hs, fun F0 H0 F H σ ρ Q S p => h.es F0 H0 F H σ ρ _ S ?_⟩
  unfold mCons at p
  cases e1 : me ρ with
  | st => rw [e1] at p; exact p
  | er x => rw [e1] at p; exact p
  | ok dx =>
    rw [e1, R.bind_ok] at p
    intro x F1 H1 g1 r1
    refine hr.es F0 H0 F1 H1 σ ρ _ (S.mono g1) ?_
    cases e2 : ma ρ with
    | st => rw [e2] at p; exact p
    | er x => rw [e2] at p; exact fun c d F2 H2 g2 q => p c d F2 H2 (g1.trans g2) q
    | ok dy =>
      rw [e2, R.bind_ok] at p
      intro ys f2 F2 H2 g2 T2 n2 z2
      refine p (x :: ys) f2 F2 H2 (g1.trans g2) ?_ n2 z2
      unfold Trs; exact ⟨x, ys, [], f2, rfl, rfl, tr_fz (r1.mono g2.f), T2⟩
theorem um_tup {ma : En → R (List DT)} {x1 : Nat} (h : UMvA X cl W es t ma) : UMv X cl W (.Tuple es x1 pos) (tTup t) (dTup ma) := by
  refine ⟨pe_tup h.pe, fun F0 H0 F H σ ρ Q S p => h.es F0 H0 F H σ ρ _ S ?_⟩
  unfold dTup at p
  cases e : ma ρ with
  | st => rw [e] at p; exact p
  | er x => rw [e] at p; exact p
  | ok ts =>
    rw [e, R.bind_ok] at p
    split at p
    · rename_i hz
      intro vs fp F1 H1 g T n z
      refine ⟨by rw [T.length]; exact sz_le hz, fun q hq => ?_⟩
      have nq : q ∉ fp := fun w => by
        obtain ⟨u, hu⟩ := T.here q w
        rw [hq] at hu; cases hu
      refine p (.ref q) (q :: fp) F1 _ (g.trans (Grow.lay' g.s hq)) ?_ (List.nodup_cons.mpr ⟨nq, n⟩) fun a ha => ?_
      · unfold Tr
        exact ⟨q, vs, fp, rfl, upd_same, rfl, T.mono (Ex.refl _) fun b hb => upd_ne fun w => nq (w ▸ hb)⟩
      · rcases List.mem_cons.mp ha with w | w
        · rw [w]; exact ⟨Grow.fnone g.s hq, S.grow.old q (g.old q hq)⟩
        · exact z a w
    · exact p.elim
theorem us_retM {me : En → R DT} (he : UMv X cl W e te me) : US X cl W mp (RPQ X.K cl mp) (.Return (some e) pos) (tRet te) (fRetQ me) := by
  refine ⟨ps_ret he.pe, fun F0 H0 F H σ ρ Dn S P p => he.es F0 H0 F H σ ρ _ S ?_⟩
  unfold fRetQ at p
  cases e1 : me ρ with
  | st => rw [e1] at p; exact p
  | er x => rw [e1] at p; exact fun c d F1 H1 g r => p c d σ F1 H1 g.f (S.mono g) P r
  | ok t =>
    rw [e1] at p
    exact fun v fp F1 H1 g T n z => PostS.mono p g.f v fp σ F1 H1 (S.mono g).unA P T n z
/-- an item of a new tree -/
def kidQ (t : DT) : D → R DT
  | .int j => match t with
    | .lst ts => match ixN ts.length j with
      | some n => kidT n (.lst ts)
      | none => .st
    | .tup ts => match ixN ts.length j with
      | some n => kidT n (.tup ts)
      | none => .st
    | _ => .st
  | _ => .st
def dSubQ (me : En → R DT) (mk : En → R D) : En → R DT := fun ρ => (me ρ).bind fun t => (noer (mk ρ)).bind fun k => kidQ t k
theorem uq_sub {k : Expr} {me : En → R DT} {mk : En → R D} (h : UQ X cl W e te me) (hk : UE X cl W k tk mk)
    (hp : PE X (.Subscript e k tpos) (tOp (fun x y H Q => rIxL X.K x y H Q ∨ rIxT X.K x y H Q) te tk)) : UQ X cl W (.Subscript e k tpos) (tOp (fun x y H Q => rIxL X.K x y H Q ∨ rIxT X.K x y H Q) te tk) (dSubQ me mk) := by
  refine ⟨hp, fun F0 H0 F H σ ρ Q S p => h.es F0 H0 F H σ ρ _ S ?_⟩
  unfold dSubQ at p
  cases e1 : me ρ with
  | st => rw [e1] at p; exact p
  | er x => rw [e1] at p; exact p
  | ok t =>
    rw [e1, R.bind_ok] at p
    cases e2 : mk ρ with
    | st => rw [e2] at p; exact p.elim
    | er x => rw [e2] at p; exact p.elim
    | ok dk =>
    rw [e2] at p
    have p : PostQ X.K cl W σ F H Q (kidQ t dk) := p
    intro v fp F1 H1 g1 T n z
    refine hk.es F0 H0 F1 H1 σ ρ _ (S.mono g1) ?_
    rw [e2]
    intro y F2 H2 g2 r2
    have T2 : Tr X.K cl F2 H2 v t fp := T.mono g2.f fun a ha => by
      obtain ⟨u, hu⟩ := T.here a ha
      rw [hu]; exact g2.h a u hu
    have z2 : ∀ a ∈ fp, H a = none ∧ F2 a = none := fun a ha => by
      obtain ⟨u, hu⟩ := T.here a ha
      exact ⟨(z a ha).1, g2.n a u hu (z a ha).2⟩
    cases dk with
    | int j =>
      have ry := r2.int_inv
      subst ry
      cases t with
      | fz _ => exact p.elim
      | dk _ _ => exact p.elim
      | ob _ _ _ => exact p.elim
      | lst ts =>
        have p : PostQ X.K cl W σ F H Q (match ixN ts.length j with | some n => kidT n (.lst ts) | none => .st) := p
        cases hn : ixN ts.length j with
        | none => rw [hn] at p; exact p.elim
        | some n0 =>
        rw [hn] at p
        have p : PostQ X.K cl W σ F H Q (match ts[n0]? with | some t => .ok t | none => .st) := p
        cases ht : ts[n0]? with
        | none => rw [ht] at p; exact p.elim
        | some t =>
        rw [ht] at p
        unfold Tr at T2
        obtain ⟨pp, vs, fq, rfl, y1, y2, y3⟩ := T2
        obtain ⟨v, f1, f2, f3, k1, k2, k3, k4⟩ := y3.at ht
        have at0 : atI vs j = some v := by unfold atI; rw [y3.length, hn]; exact k1
        rw [y2, k2] at n z2
        have nq := (List.nodup_append.mp (List.nodup_append.mp (List.nodup_cons.mp n).2).2.1).1
        exact .inl ⟨pp, vs, j, v, rfl, rfl, SqL.of y1, at0, p v f2 F2 H2 (g1.trans g2) k3 nq fun a ha => z2 a (by simp [ha])⟩
      | tup ts =>
        have p : PostQ X.K cl W σ F H Q (match ixN ts.length j with | some n => kidT n (.tup ts) | none => .st) := p
        cases hn : ixN ts.length j with
        | none => rw [hn] at p; exact p.elim
        | some n0 =>
        rw [hn] at p
        have p : PostQ X.K cl W σ F H Q (match ts[n0]? with | some t => .ok t | none => .st) := p
        cases ht : ts[n0]? with
        | none => rw [ht] at p; exact p.elim
        | some t =>
        rw [ht] at p
        unfold Tr at T2
        obtain ⟨pp, vs, fq, rfl, y1, y2, y3⟩ := T2
        obtain ⟨v, f1, f2, f3, k1, k2, k3, k4⟩ := y3.at ht
        have at0 : atI vs j = some v := by unfold atI; rw [y3.length, hn]; exact k1
        rw [y2, k2] at n z2
        have nq := (List.nodup_append.mp (List.nodup_append.mp (List.nodup_cons.mp n).2).2.1).1
        exact .inr ⟨pp, vs, j, v, rfl, rfl, SqT.of y1, at0, p v f2 F2 H2 (g1.trans g2) k3 nq fun a ha => z2 a (by simp [ha])⟩
    | _ => exact p.elim
/-- x, y, z = a new tuple; the last one is a tree -/
def fUnp3 (i j k : Nat) (me : En → R DT) : En → Fl α := fun ρ => fOf (me ρ) ρ fun t => match t with
  | .tup [.fz a, .fz b, c] => .nx (((ρ.set k (.tr c)).set i (.val a)).set j (.val b))
  | _ => .st
theorem us_unp3 {i j k : Nat} {tg : Expr} {me : En → R DT} (he : UQ X cl W e te me) (hik : i ≠ k) (hjk : j ≠ k) (hpg : PG X tg (gTup X.K 3 (gCons (gName i) (gCons (gName j) (gCons (gName k) gNil)))))
    (hp : ∀ m ∈ [k, i, j], m ∉ mp.map (·.1)) (hs : swapsWithSole [tg] e pos.line X.env = pure false := by rfl) (hw : swappedStores [tg] e X.env = pure none := by rfl)
    (h1 : (assignEach [tg] X.env).map (·.2) = [assign tg X.env] := by rfl) : US X cl W mp RP (.Assign [tg] e pos) (tAsg te (gTup X.K 3 (gCons (gName i) (gCons (gName j) (gCons (gName k) gNil))))) (fUnp3 i j k me) := by
  refine ⟨ps_asg he.pe hpg hs hw h1, fun F0 H0 F H σ ρ Dn S P p => he.es F0 H0 F H σ ρ _ S (postQ_of S P p fun t v fp F1 H1 g T n z q => ?_)⟩
  split at q
  rotate_left
  · exact q.elim
  rename_i a b c
  unfold Tr at T
  obtain ⟨pp, vs, fq, rfl, y1, y2, y3⟩ := T
  unfold Trs at y3
  obtain ⟨v1, r1, f1, f2, rfl, rfl, w1, w2⟩ := y3
  unfold Trs at w2
  obtain ⟨v2, r2, f3, f4, rfl, rfl, w3, w4⟩ := w2
  unfold Trs at w4
  obtain ⟨v3, r3, f5, f6, rfl, rfl, w5, w6⟩ := w4
  unfold Trs at w6
  obtain ⟨rfl, rfl⟩ := w6
  unfold Tr at w1 w3
  obtain ⟨rfl, w1⟩ := w1
  obtain ⟨rfl, w3⟩ := w3
  rw [y2] at n z
  have n5 : f5.Nodup := by simpa using (List.nodup_cons.mp n).2
  have S1 := S.setNewTr (i := k) g w5 n5 fun a ha => z a (by simp [ha])
  refine ⟨pp, _, rfl, SqT.of y1, rfl, v1, _, rfl, v2, _, rfl, v3, _, rfl, rfl, ?_⟩
  have e1 : (((σ.set i (some v1)).set j (some v2)).set k (some v3)) = (((σ.set k (some v3)).set i (some v1)).set j (some v2)) := by
    rw [List.set_comm _ _ hjk, List.set_comm _ _ hik]
  rw [e1]
  exact q _ F1 H1 (Ex.refl _) ((S1.set w1).set w3) (pin_set (pin_set (pin_set P (hp k (by simp))) (hp i (by simp))) (hp j (by simp)))
/-- x[k].clear(), x a tuple of new ones, dead behind it -/
def fDropClr (i : Nat) (mk : En → R D) : En → Fl α := fun ρ => match ρ[i]? with
  | some (.tr (.tup ts)) => match mk ρ with
    | .ok (.int j) => match ixN ts.length j with
      | some n => match ts[n]? with
        | some (.lst us) => .nx (ρ.set i .un)
        | _ => .st
      | none => .st
    | _ => .st
  | _ => .st
theorem us_dropClr {i : Nat} {k : Expr} {mk : En → R D} (hk : UE X cl WF k tk mk)
    (hp : PE X (.Call (.Attribute (.Subscript o k tpos) "clear" apos) [] [] cpos) (tBM0 X.K "list" rClear (tOp (fun x y H Q => rIxL X.K x y H Q ∨ rIxT X.K x y H Q) (tVar i) tk)))
    (hs : swapsWith (.Call (.Attribute (.Subscript o k tpos) "clear" apos) [] [] cpos) none pos.line X.env = pure false := by rfl) :
    US X cl W mp RP (.Expr (.Call (.Attribute (.Subscript o k tpos) "clear" apos) [] [] cpos) pos) (tDrop (tBM0 X.K "list" rClear (tOp (fun x y H Q => rIxL X.K x y H Q ∨ rIxT X.K x y H Q) (tVar i) tk))) (fDropClr i mk) := by
  refine ⟨ps_expr hp hs, fun F0 H0 F H σ ρ Dn S P p => ?_⟩
  unfold fDropClr at p
  split at p
  rotate_left
  · exact p.elim
  rename_i ts hi
  split at p
  rotate_left
  · exact p.elim
  rename_i j hm
  split at p
  rotate_left
  · exact p.elim
  rename_i n0 hn
  split at p
  rotate_left
  · exact p.elim
  rename_i us ht
  obtain ⟨ω, h1, h2, h3⟩ := S.tr
  obtain ⟨u, q1, q2, q3, q4⟩ := h1 i _ hi
  refine ⟨_, q1, hk.es F0 H0 F H σ ρ _ S ?_⟩
  rw [hm]
  intro yv F4 H4 g4 r4
  have ry := r4.int_inv
  subst ry
  have S4 := S.mono g4
  have q2' : Tr X.K cl F4 H4 u (.tup ts) (ω i) := q2.mono g4.f fun a ha => by
    obtain ⟨u, hu⟩ := q2.here a ha
    rw [hu]; exact g4.h a u hu
  have q2s := q2'
  unfold Tr at q2'
  obtain ⟨pp, vs, fq, rfl, y1, y2, y3⟩ := q2'
  obtain ⟨v, f1, f2, f3, k1, k2, k3, k4⟩ := y3.at ht
  unfold Tr at k3
  obtain ⟨q, zs, fl, rfl, z1, z2, z3⟩ := k3
  have at0 : atI vs j = some (.ref q) := by unfold atI; rw [y3.length, hn]; exact k1
  refine .inr ⟨pp, vs, j, .ref q, rfl, rfl, SqT.of y1, at0, tyV_l z1, q, zs, rfl, rfl, z1, ?_⟩
  exact p σ F4 _ g4.f (S4.spoil hi q1 q2s fun a ha => upd_ne fun z => ha (by rw [z, y2, k2, z2]; simp)) P
@[simp] theorem mOwn_ap (i : Nat) (ρ : En) : mOwn i ρ = (ownAt i ρ).bind fun o => match o with
  | .lst xs => .ok (.lst (xs.map .fz))
  | _ => .st := id rfl
@[simp] theorem mTr_ap (i : Nat) (ρ : En) : mTr i ρ = match ρ[i]? with
  | some (Sl.tr t) => .ok t
  | _ => .st := id rfl
@[simp] theorem mKid_ap (i k : Nat) (ρ : En) : mKid i k ρ = match ρ[i]? with
  | some (Sl.tr t) => kidT k t
  | _ => .st := id rfl
@[simp] theorem kidT_lst (k : Nat) (ts : List DT) : kidT k (.lst ts) = match ts[k]? with
  | some t => .ok t
  | none => .st := id rfl
@[simp] theorem kidT_tup (k : Nat) (ts : List DT) : kidT k (.tup ts) = match ts[k]? with
  | some t => .ok t
  | none => .st := id rfl
@[simp] theorem kidQ_lst (j : Int) (ts : List DT) : kidQ (.lst ts) (.int j) = match ixN ts.length j with
  | some n => kidT n (.lst ts)
  | none => .st := id rfl
@[simp] theorem kidQ_tup (j : Int) (ts : List DT) : kidQ (.tup ts) (.int j) = match ixN ts.length j with
  | some n => kidT n (.tup ts)
  | none => .st := id rfl
@[simp] theorem mLast_ap (me : En → R DT) (ρ : En) : mLast me ρ = (me ρ).bind fun t => .ok [t] := id rfl
@[simp] theorem mCons_ap (a : En → R D) (b : En → R (List DT)) (ρ : En) : mCons a b ρ = (a ρ).bind fun x => (b ρ).bind fun xs => .ok (.fz x :: xs) := id rfl
@[simp] theorem dSubQ_ap (me : En → R DT) (mk : En → R D) (ρ : En) : dSubQ me mk ρ = (me ρ).bind fun t => (noer (mk ρ)).bind fun k => kidQ t k := id rfl
@[simp] theorem fUnp3_ap (i j k : Nat) (me : En → R DT) (ρ : En) : (fUnp3 i j k me ρ : Fl α) = fOf (me ρ) ρ fun t => match t with
  | .tup [.fz a, .fz b, c] => .nx (((ρ.set k (.tr c)).set i (.val a)).set j (.val b))
  | _ => .st := id rfl
@[simp] theorem fDropClr_ap (i : Nat) (mk : En → R D) (ρ : En) : (fDropClr i mk ρ : Fl α) = match ρ[i]? with
  | some (Sl.tr (DT.tup ts)) => match mk ρ with
    | .ok (.int j) => match ixN ts.length j with
      | some n => match ts[n]? with
        | some (DT.lst us) => .nx (ρ.set i .un)
        | _ => .st
      | none => .st
    | _ => .st
  | _ => .st := id rfl
end
end UP
namespace UP
open PySem L2 PyProof.Rows
/-! ### a look at a tree with tuples, for a new tree of flat ones -/
mutual
def flatA : DT → Bool
  | .fz d => flatD d
  | .lst ts => flatAs ts
  | .tup ts => flatAs ts
  | .dk _ ts => flatAs ts
  | .ob _ _ ts => flatAs ts
def flatAs : List DT → Bool
  | [] => true
  | t :: ts => flatA t && flatAs ts
end
section
variable {X : Cx} {cl : Str → Option Addr} {W : WX} {K : PySem.W.Frag} {F0 H0 F H F' H' : Hp} {σ : L2.St} {ρ : En} {e : Expr} {te : TE}
mutual
theorem Tr.flatA {F1 F2 : Hp} : ∀ {v : V} {t : DT} {fp : List Addr}, UP.flatA t = true → Tr K cl F2 H v t fp → Tr K cl F1 H v t fp
  | v, .fz d, fp, n, h => by
    unfold Tr at h ⊢; unfold UP.flatA at n
    exact ⟨h.1, rp_flat_any n h.2⟩
  | v, .lst ts, fp, n, h => by
    unfold Tr at h ⊢; unfold UP.flatA at n
    obtain ⟨a, vs, fq, e, h1, h2, h3⟩ := h
    exact ⟨a, vs, fq, e, h1, h2, Trs.flatA n h3⟩
  | v, .tup ts, fp, n, h => by
    unfold Tr at h ⊢; unfold UP.flatA at n
    obtain ⟨a, vs, fq, e, h1, h2, h3⟩ := h
    exact ⟨a, vs, fq, e, h1, h2, Trs.flatA n h3⟩
  | v, .dk ks ts, fp, n, h => by
    unfold Tr at h ⊢; unfold UP.flatA at n
    obtain ⟨a, vs, fq, e, h1, hl, h2, h3⟩ := h
    exact ⟨a, vs, fq, e, h1, hl, h2, Trs.flatA n h3⟩
  | v, .ob c ns ts, fp, n, h => by
    unfold Tr at h ⊢; unfold UP.flatA at n
    obtain ⟨a, C, dx, vs, fq, e, h0, h1, hl, h2, h3⟩ := h
    exact ⟨a, C, dx, vs, fq, e, h0, h1, hl, h2, Trs.flatA n h3⟩
theorem Trs.flatA {F1 F2 : Hp} : ∀ {vs : List V} {ts : List DT} {fp : List Addr}, UP.flatAs ts = true → Trs K cl F2 H vs ts fp → Trs K cl F1 H vs ts fp
  | vs, [], fp, n, h => by unfold Trs at h ⊢; exact h
  | vs, t :: ts, fp, n, h => by
    unfold Trs at h ⊢; unfold UP.flatAs at n
    rw [Bool.and_eq_true] at n
    obtain ⟨v, r, f1, f2, e, e2, h1, h2⟩ := h
    exact ⟨v, r, f1, f2, e, e2, Tr.flatA n.1 h1, Trs.flatA n.2 h2⟩
end
def dPkAQ (i : Nat) (me : En → R DT) : En → R DT := fun ρ => match me (frzA i ρ) with
  | .ok t => if flatA t = true then .ok t else .st
  | _ => .st
theorem uq_pkA (i : Nat) {me : En → R DT} (he : UQ X cl W e te me) : UQ X cl W e te (dPkAQ i me) := by
  refine ⟨he.pe, fun F0 H0 F H σ ρ Q S p => ?_⟩
  obtain ⟨F', x, S'⟩ : ∃ F', Ex F F' ∧ Sr X.K cl F0 H0 F' H σ (frzA i ρ) := by
    unfold frzA
    split
    · rename_i t hi
      obtain ⟨F', a, _, b⟩ := S.frzTr hi
      exact ⟨F', a, b⟩
    · exact ⟨F, Ex.refl _, S⟩
  refine he.es F0 H0 F' H σ _ Q S' ?_
  unfold dPkAQ at p
  cases hx : me (frzA i ρ) with
  | st => rw [hx] at p; exact p.elim
  | er x => rw [hx] at p; exact p.elim
  | ok t =>
    rw [hx] at p
    have p : PostQ X.K cl W σ F H Q (if flatA t = true then .ok t else .st) := p
    by_cases hfl : flatA t = true
    rotate_left
    · rw [if_neg hfl] at p; exact p.elim
    rw [if_pos hfl] at p
    intro v fp F2 H2 g hT hn hz
    classical
    let F1 : Hp := fun a => if F a = none ∧ F' a ≠ none then none else F2 a
    have f1 : ∀ a, F a ≠ none → F1 a = F2 a := fun a h => if_neg (fun z => h z.1)
    have gr : Grow F H F1 H2 := by
      refine ⟨fun a o ha => ?_, fun a o ha => ?_, g.h, fun a o hao han => ?_⟩
      · rw [f1 a (by rw [ha]; exact fun z => nomatch z)]; exact g.f _ _ (x _ _ ha)
      · by_cases c : F a = none ∧ F' a ≠ none
        · have : F1 a = none := if_pos c
          rw [this] at ha; cases ha
        · have : F1 a = F2 a := if_neg c
          rw [this] at ha; exact g.s _ _ ha
      · by_cases c : F' a = none
        · have : F1 a = F2 a := if_neg (fun z => z.2 c)
          rw [this]; exact g.n a o hao c
        · exact if_pos ⟨han, c⟩
    refine p v fp F1 H2 gr (hT.flatA hfl) hn fun a ha => ⟨(hz a ha).1, ?_⟩
    by_cases c : F a = none ∧ F' a ≠ none
    · exact if_pos c
    · have : F1 a = F2 a := if_neg c
      rw [this]; exact (hz a ha).2
@[simp] theorem flatA_fz (d : D) : UP.flatA (.fz d) = flatD d := by unfold UP.flatA; rfl
@[simp] theorem flatA_lst (ts : List DT) : UP.flatA (.lst ts) = flatAs ts := by unfold UP.flatA; rfl
@[simp] theorem flatA_tup (ts : List DT) : UP.flatA (.tup ts) = flatAs ts := by unfold UP.flatA; rfl
@[simp] theorem flatA_dk (ks : List Key) (ts : List DT) : UP.flatA (.dk ks ts) = flatAs ts := by unfold UP.flatA; rfl
@[simp] theorem flatA_ob (c : Str) (ns : List Str) (ts : List DT) : UP.flatA (.ob c ns ts) = flatAs ts := by unfold UP.flatA; rfl
@[simp] theorem flatAs_nil : flatAs [] = true := by unfold flatAs; rfl
@[simp] theorem flatAs_cons (t : DT) (ts : List DT) : flatAs (t :: ts) = (UP.flatA t && flatAs ts) := by rw [flatAs]
@[simp] theorem dPkAQ_ap (i : Nat) (me : En → R DT) (ρ : En) : dPkAQ i me ρ = match me (frzA i ρ) with
  | .ok t => if flatA t = true then .ok t else .st
  | _ => .st := id rfl
end
end UP
namespace UP
open PySem PySem.Spec PyProof.Rows HotX
/-! ### the end of a list's, a tuple's, a zip's walk while an exception is handled -/
section
variable {prog : Program} {w : World} {A : Around} {E : Value → Shared → Prop} {s : Shared} {x1 : Addr}
theorem hotAt_over {h h' : Heap} (hot : HotAt A x1 h) (k : ∀ o, h.get? x1 = some o → h'.get? x1 = some o) : HotAt A x1 h' := by
  obtain ⟨hh, o1, vs1, h1, d1, c1⟩ := hot
  exact ⟨hh, o1, vs1, k _ h1, d1, c1⟩
theorem hotAt_in {h : Heap} (hot : HotAt A x1 h) : HotAt A.in1 x1 h := hot
/-- StopIteration is raised; its context is the one that is handled -/
theorem stop_hot {α : Type} {Q : α → Shared → Prop} (hot : HotAt A x1 s.heap)
    (hE : ∀ h' e, (∀ b o, s.heap.get? b = some o → h'.get? b = some o) → (∃ o, h'.get? e = some o ∧ o.cls = .type "StopIteration") → E (.ref e) { s with heap := h' }) :
    wpAny (model prog w) A (newExc (.type "StopIteration") [] >>= fun e => (raiseNew e : Sem α)) Q E s := by
  obtain ⟨hh, o1, vs1, h1, d1, c1⟩ := hot
  refine wpAny_bind ?_
  simp only [newExc, newTuple]
  refine wpAny_bind (wpAny_newObj_type ?_ (by size_fits))
  refine wpAny_bind (m := firstArgMember _ _) (wpAny_of_eq (a := Value.none) (by first | rfl | (simp only [firstArgMember]; rfl)) ?_)
  refine wpAny_newObj_type ?_ (by size_fits)
  refine raiseNew_hot (x1 := x1) ⟨hh, o1, vs1, Heap.get?_push_of_some _ (Heap.get?_push_of_some _ h1), d1, c1⟩ (Nat.ne_of_lt (Heap.lt_size (Heap.get?_push_of_some _ h1))) (Heap.get?_push_size _ rfl) rfl (by first | (simp; done) | (simp; omega) | (simp only [Array.size_append]; simp; omega)) ?_
  refine hE _ _ (fun b ob e => ?_) ⟨_, Heap.get?_update_self _ (Heap.get?_push_size _ rfl) rfl, rfl⟩
  rw [Heap.get?_update_other _ _ (Nat.ne_of_gt (Heap.lt_size (Heap.get?_push_of_some _ e)))]
  exact Heap.get?_push_of_some _ (Heap.get?_push_of_some _ e)
/-- an iterator over what stands at l, past its last item -/
theorem rising_hot {B : Builtin} (hB : B = Builtin.«list_iterator.__next__» ∨ B = Builtin.«tuple_iterator.__next__») {it l : Addr} {i : Nat} {o ol : Obj} {items : Array Value} {Q : Fin → Shared → Prop} (hot : HotAt A x1 s.heap) (hne : x1 ≠ it) (ho : s.heap.get? it = some o) (hd : o.data = .fields #[.ref l, .int i 0])
    (hol : s.heap.get? l = some ol) {nl : Nat} (hdl : ol.data = .seq items nl) (hx : items[i]? = none)
    (hE : ∀ h' e, Heap.ExtBut it s.heap h' → (∃ o, h'.get? e = some o ∧ o.cls = .type "StopIteration") → E (.ref e) { s with heap := h' }) :
    wpAny (model prog w) A (B ⟨[.ref it], []⟩) Q E s := by
  have e1 : ¬ ((Value.ref l == Value.none) = true) := Bool.false_ne_true
  have k1 := (Heap.SameBut.update (a := it) (h := s.heap) (f := Obj.mapFields (·.setIfInBounds 0 .none))).extBut
  rcases hB with rfl | rfl
  all_goals
    show wpAny _ _ (field (.ref it) 0 >>= _) _ _ s
    refine wpAny_bind (wpAny_field ho hd (x := .ref l) rfl ?_)
    show wpAny _ _ (if (Value.ref l == Value.none) = true then _ else _) _ _ s
    rw [if_neg e1]
    show wpAny _ _ (field (.ref it) 1 >>= _) _ _ s
    refine wpAny_bind (wpAny_field ho hd (x := .int i 0) rfl ?_)
    show wpAny _ _ (seqItems? (.ref l) >>= _) _ _ s
    refine wpAny_bind (wpAny_seqItems hol hdl ?_)
    simp only [Int.toNat_natCast, hx]
    refine wpAny_bind (wpAny_rule (wpAny_bind (wpAny_setField ho hd (by simp) ?_)))
    exact stop_hot (hotAt_over hot fun o e => k1 _ _ hne e) fun h' e k2 he => hE h' e (fun b o hb q => k2 _ _ (k1 _ _ hb q)) he
theorem nextOf_list_hot {it l : Addr} {i : Nat} {items : Array Value} {Q : Value → Shared → Prop} (hot : HotAt A x1 s.heap) (hne : x1 ≠ it) (hit : s.heap.IsListIter it l i) (hl : s.heap.IsList l items) (hx : items[i]? = none)
    (hE : ∀ h' e, Heap.ExtBut it s.heap h' → (∃ o, h'.get? e = some o ∧ o.cls = .type "StopIteration") → E (.ref e) { s with heap := h' }) :
    wpAny (model prog w) A (Builtin.SmallTypes.nextOf (.ref it)) Q E s := by
  obtain ⟨o, ho, hc, hd⟩ := id hit
  obtain ⟨ol, hol, _, nl, hdl⟩ := hl
  unfold Builtin.SmallTypes.nextOf
  exact wpAny_bind (wpAny_callSpecial?_slot (name := Str.ofString "__next__") hit.typeIs slot_listiter_next
    (wpAny_call_entry slot_listiter_next hit.typeIs entry_listiter_next (rising_hot (.inl rfl) (hotAt_in hot) hne ho hd hol hdl hx hE) (args_listiter_next _)))
theorem pyNext_list_hot {it l : Addr} {i : Nat} {items : Array Value} {Q : Option Value → Shared → Prop} (hot : HotAt A x1 s.heap) (hne : x1 ≠ it) (hit : s.heap.IsListIter it l i) (hl : s.heap.IsList l items) (hx : items[i]? = none)
    (hQ : ∀ h', Heap.ExtBut it s.heap h' → Q none { s with heap := h' }) : wpAny (model prog w) A (pyNext (.ref it)) Q E s := by
  obtain ⟨o, ho, hc, hd⟩ := id hit
  obtain ⟨ol, hol, _, nl, hdl⟩ := hl
  unfold pyNext
  refine wpAny_bind (wpAny_attempt (wpAny_callSpecial?_slot (name := Str.ofString "__next__") hit.typeIs slot_listiter_next
    (wpAny_call_entry slot_listiter_next hit.typeIs entry_listiter_next (rising_hot (.inl rfl) (hotAt_in hot) hne ho hd hol hdl hx fun h' e k he => ?_) (args_listiter_next _))))
  exact wpAny_bind (wpAny_isInstance (T := "StopIteration") (b := true) he isSubtype_stop (wpAny_pure (hQ _ k)))
theorem pyNext_tup_hot {it l : Addr} {i : Nat} {items : Array Value} {Q : Option Value → Shared → Prop} (hot : HotAt A x1 s.heap) (hne : x1 ≠ it) (hit : IsTupIter s.heap it l i) (hl : IsTup s.heap l items) (hx : items[i]? = none)
    (hQ : ∀ h', Heap.ExtBut it s.heap h' → Q none { s with heap := h' }) : wpAny (model prog w) A (pyNext (.ref it)) Q E s := by
  obtain ⟨o, ho, hc, hd⟩ := id hit
  obtain ⟨ol, hol, _, nl, hdl⟩ := hl
  unfold pyNext
  refine wpAny_bind (wpAny_attempt (wpAny_callSpecial?_slot (name := Str.ofString "__next__") hit.typeIs slot_tupleiter_next
    (wpAny_call_entry slot_tupleiter_next hit.typeIs entry_tupleiter_next (rising_hot (.inr rfl) (hotAt_in hot) hne ho hd hol hdl hx fun h' e k he => ?_) (args_tupleiter_next _))))
  exact wpAny_bind (wpAny_isInstance (T := "StopIteration") (b := true) he isSubtype_stop (wpAny_pure (hQ _ k)))
/-- a tuple's items, taken apart -/
theorem assign_tup_hot {env : Env} {elts : List Expr} {k : Nat} {pos : Pos} {t : Addr} {items : Array Value} {Q : Unit → Shared → Prop} (hot : HotAt A x1 s.heap) (ht : IsTup s.heap t items)
    (hn : (assignEach elts env).length = items.size) (hstar : (assignEach elts env).findIdx? (·.1) = none)
    (h : ∀ h', Heap.ExtBut s.heap.objs.size s.heap h' → wpAny (model prog w) A (assignInOrder ((assignEach elts env).map (·.2)) items.toList) Q E { s with heap := h' }) :
    wpAny (model prog w) A (assign (.Tuple elts k pos) env (.ref t)) Q E s := by
  have hlt : t ≠ s.heap.objs.size := ht.elim fun _ h => Nat.ne_of_lt (Heap.lt_size h.1)
  have hx1 : x1 ≠ s.heap.objs.size := by
    obtain ⟨_, _, _, h1, _⟩ := hot
    exact Nat.ne_of_lt (Heap.lt_size h1)
  rw [assign_Tuple]
  refine wpAny_bind (wpAny_standAt ?_)
  unfold unpack
  rw [hn, hstar]
  refine wpAny_bind (wpAny_holding ?_)
  unfold unpackItems
  refine wpAny_bind ?_
  unfold notIterableAtAll
  refine wpAny_bind (wpAny_specialOf ht.typeIs slot_tuple_iter.lookup (wpAny_pure ?_))
  simp only [Bool.false_eq_true, if_false]
  refine wpAny_bind (wpAny_holding (iter_tuple ht ?_))
  refine wpAny_bind (wpAny_holding (draw_tuple hlt items.size 0 _ _ ⟨_, Heap.get?_push_size _ rfl, rfl, rfl⟩ (ht.push _) (by omega) fun h1 hit hs => ?_))
  have el : List.take items.size (List.drop 0 items.toList) = items.toList := by
    rw [List.drop_zero, List.take_of_length_le (by simp)]
  rw [el, if_neg (by simp)]
  refine wpAny_bind (wpAny_holding (pyNext_tup_hot (hotAt_over hot fun o e => hs.extBut _ _ hx1 (Heap.get?_push_of_some _ e)) hx1 hit ((ht.push _).extBut hs.extBut hlt) (by simp) fun h2 k2 => ?_))
  simp only [Option.isSome_none, Bool.false_eq_true, if_false]
  exact wpAny_pure (h h2 fun b o hb e => k2 b o hb (hs.extBut b o hb (Heap.get?_push_of_some _ e)))
/-- a list's items from a place on, one by one -/
theorem draws_hot (it l : Addr) (hne : l ≠ it) (hx1 : x1 ≠ it) (items : Array Value) (lo n : Nat) (h1 : ∀ j, lo ≤ j → j < n → j < items.size) (h2 : items.size ≤ n) :
    Draws prog w A it [it, l, x1] n (fun _ _ => True) (fun i h => lo ≤ i ∧ h.IsListIter it l i ∧ h.IsList l items ∧ HotAt A x1 h) where
  live := fun _ _ st => st.2.1.elim fun o h => ⟨o, h.1⟩
  frame := fun _ _ _ st hk => ⟨st.1, st.2.1.at fun o e => hk it (by simp) o e, st.2.2.1.at fun o e => hk l (by simp) o e, hotAt_over st.2.2.2 fun o e => hk x1 (by simp) o e⟩
  item := fun i s Q E hi st hQ => by
    have hlt := h1 i st.1 hi
    exact wpAny_nextOf_list_item st.2.1 st.2.2.1 (x := items[i]) (by simp [hlt]) fun h' hit' hs' => hQ _ h' s.toks trivial ⟨Nat.le_succ_of_le st.1, hit', st.2.2.1.extBut hs'.extBut hne, hotAt_over st.2.2.2 fun o e => hs'.extBut _ _ hx1 e⟩ hs'
  done := fun s Q E st hE => nextOf_list_hot st.2.2.2 hx1 st.2.1 st.2.2.1 (by simp; omega) hE
end
end UP
namespace UP
open PySem L2 PyProof.Rows
/-! ### loops over lists and zips while an exception is handled -/
theorem HX.hot {X : Cx} {cl : Str → Option Addr} {q : Addr × Addr} {x : Exc} (h : HX X cl q x) : L2H.HotC X := h.elim fun p h => ⟨p, h.2.1, h.2.2.1⟩
/-- the held exception stands, out of an iterator's reach -/
theorem hot_apart {X : Cx} {pins : List (Addr × Obj)} {σ : L2.St} {H : Hp} {s : Shared} (c : L2H.HotC X) (I : Inv X pins σ H s) : ∃ x1, HotX.HotAt X.A x1 s.heap ∧ ∀ b, FpOk X pins H b → x1 ≠ b := by
  obtain ⟨p, ⟨hh, v1, e1, c1⟩, hp⟩ := c
  exact ⟨p.1, ⟨hh, p.2, v1, (I.pin p (List.mem_append_left _ hp)).1, e1, c1⟩, fun b f => f.2.2.2.2.2 p (List.mem_append_left _ hp)⟩
theorem turn_listH {P : Program} {w : World} {K : PySem.W.Frag} {tg : Expr} (a it : Addr) : L2H.TurnH P w K tg (Itl K a) [it] it (fun i h => h.IsListIter it a i) where
  mem := (turn_list (P := P) (w := w) (K := K) (tg := tg) a it).mem
  obj := (turn_list (P := P) (w := w) (K := K) (tg := tg) a it).obj
  keep := (turn_list (P := P) (w := w) (K := K) (tg := tg) a it).keep
  item := by
    rintro X rfl rfl rfl hc i pins s σ H E I hf st ⟨xs, x, hq, hx⟩
    obtain ⟨its, rv, p, -⟩ := I.list hq
    obtain ⟨u, hu, ru⟩ := rv.get hx
    obtain ⟨f0, f1, f2, f3, f4, f5⟩ := hf it (by simp)
    refine wpAny_pyNext_list_item st p.isList (x := u) (by simpa using hu) fun h' st' sb => ⟨u, rfl, ?_⟩
    obtain ⟨o, eo, co, d⟩ := id st'
    exact go_of (s := { s with heap := h' }) eo co d (by decide) ⟨x, H, I.turned (t' := s.toks) (fun b o hb e => (sb.2 b hb).trans e) f0 f1 f3 f4 f5, ru, ⟨rfl, fun ys hy => by rw [I.list_inj hy hq]; exact hx⟩, st', fun b hb => (hf b hb).1⟩
  done := by
    rintro X rfl rfl rfl hc i pins s σ H E I hf st ⟨xs, hq, hx⟩
    obtain ⟨its, rv, p, -⟩ := I.list hq
    obtain ⟨x1, hot, ap⟩ := hot_apart hc I
    have hfi := hf it (by simp)
    have hl := rv.length
    exact pyNext_list_hot hot (ap it hfi) st p.isList (by simp; omega) fun h' eb => ⟨rfl, I.turned (t' := s.toks) (fun b o hb e => eb b o hb e) hfi.1 hfi.2.1 hfi.2.2.2.1 hfi.2.2.2.2.1 hfi.2.2.2.2.2⟩
  self := (turn_list (P := P) (w := w) (K := K) (tg := tg) a it).self
section
variable {α : Type} {X : Cx} {cl : Str → Option Addr} {W : WX} {F0 H0 F H F' H' : Hp} {σ : L2.St} {ρ : En} {mp : List (Nat × Addr)} {RP : RPt α} {Dn : Ends} {tg l e e2 : Expr} {tl te : TE} {pos p : Pos} {ta : TA}
theorem pi_listH (hl : PE X l tl) : L2H.PIH X tg l (iList X.K tl) := by
  refine ⟨fun pins s σ H R I h => thn (hl.run pins s σ H _ I h) fun v s1 ⟨x, H1, I1, r1, a, e, ⟨xs, hq⟩, q⟩ => ?_⟩
  subst e
  cases r1
  obtain ⟨its, rv, p, -⟩ := I1.list hq
  refine wpAny_pyIter_list p.isList ⟨s1.heap.objs.size, [s1.heap.objs.size], _, _, H1, rfl, I1.kept (t' := s1.toks) fun b o e => Heap.get?_push_of_some _ e, turn_listH a _, ⟨_, Heap.get?_push_size _ rfl, rfl, rfl⟩, fun b hb => ?_, q⟩
  rw [List.mem_singleton.mp hb]
  exact I1.fpOk (Nat.le_refl _) (I1.hok.fresh (Nat.le_refl _))
/-- a tuple taken apart -/
theorem pg_tupH {es : List Expr} {k n : Nat} {t : TGs} (hc : L2H.HotC X) (h : PGs X es t) (hn : (assignEach es X.env).length = n := by rfl) (hst : (assignEach es X.env).findIdx? (·.1) = none := by rfl) : PG X (.Tuple es k pos) (gTup X.K n t) := by
  refine ⟨fun pins s σ H v u Q I r ⟨a, xs, e1, hq, hl, hw⟩ => ?_⟩
  subst e1
  cases r
  obtain ⟨its, rv, ht, -⟩ := I.tuple hq
  obtain ⟨x1, hot, -⟩ := hot_apart hc I
  refine assign_tup_hot hot ht (by simp [hn, ← hl, rv.length]) hst fun h' hx => ?_
  exact h.run pins _ σ H xs _ Q (I.kept (t' := s.toks) fun b o e => hx b o (Nat.ne_of_lt (Heap.lt_size e)) e) (by simpa using rv) hw
theorem pi_orH {w1 w2 : TI} (h1 : L2H.PIH X tg l w1) (h2 : L2H.PIH X tg l w2) : L2H.PIH X tg l (fun σ H R => w1 σ H R ∨ w2 σ H R) :=
  ⟨fun pins s σ H R I h => h.elim (h1.run pins s σ H R I) (h2.run pins s σ H R I)⟩
end
end UP
namespace UP
open PySem L2 PyProof.Rows
theorem turn_zipH {P : Program} {w : World} {K : PySem.W.Frag} {elts : List Expr} {kk : Nat} {tpos : Pos} {a b z TI TO i1 i2 : Addr} (D : ZipApart z TI TO i1 i2 a b) :
    L2H.TurnH P w K (.Tuple elts kk tpos) (Itz K a b) [z, TI, TO, i1, i2] z (fun i h => IsZip h z TI TO .none ∧ IsPair h TI (.ref i1) (.ref i2) ∧ (∃ x y, IsPair h TO x y) ∧ h.IsListIter i1 a i ∧ h.IsListIter i2 b i) where
  mem := (turn_zip (P := P) (w := w) (K := K) (elts := elts) (kk := kk) (tpos := tpos) D).mem
  obj := (turn_zip (P := P) (w := w) (K := K) (elts := elts) (kk := kk) (tpos := tpos) D).obj
  keep := (turn_zip (P := P) (w := w) (K := K) (elts := elts) (kk := kk) (tpos := tpos) D).keep
  self := (turn_zip (P := P) (w := w) (K := K) (elts := elts) (kk := kk) (tpos := tpos) D).self
  item := by
    rintro X rfl rfl rfl hc i pins s σ H E I hf st ⟨xs, ys, x, y, hqx, hqy, hx, hy⟩
    have ob := (turn_zip (P := X.prog) (w := X.w) (K := X.K) (elts := elts) (kk := kk) (tpos := tpos) D).obj i s.heap st
    obtain ⟨hz, hTI, ⟨x0, y0, hTO⟩, h1, h2⟩ := st
    obtain ⟨its, rv, p, -⟩ := I.list hqx
    obtain ⟨its2, rv2, p2, -⟩ := I.list hqy
    obtain ⟨u, hu, ru⟩ := rv.get hx
    obtain ⟨u2, hu2, ru2⟩ := rv2.get hy
    have hlt : ∀ c ∈ [z, TI, TO, i1, i2], c < s.heap.objs.size := fun c hc => (ob c hc).elim fun o h => Heap.lt_size h.1
    have hout : ∀ (c : Addr), c ∉ [z, TI, TO, i1, i2] → c ≠ z ∧ c ≠ TO ∧ c ≠ i1 ∧ c ≠ i2 := fun c hc => by
      simp only [List.mem_cons, List.not_mem_nil, or_false, not_or] at hc
      exact ⟨hc.1, hc.2.2.1, hc.2.2.2.1, hc.2.2.2.2⟩
    refine wpAny_pyNext_zip_item D hz hTI hTO h1 h2 p.isList p2.isList (x := u) (y := u2) (by simpa using hu) (by simpa using hu2) fun g z1 TO1 g1 g2 hT hsz hk => ⟨_, rfl, wpAny_letOwnedTupleGo_zip (s := { s with heap := g }) z1 fun g' z2 sb => ?_⟩
    have old : ∀ c o, c ≠ z → g.get? c = some o → g'.get? c = some o := fun c o hc e => (sb.2 c hc).trans e
    have new : ObjOk X.prog X.w (upd H s.heap.objs.size (.tup [x, y])) g' s.heap.objs.size (.tup [x, y]) :=
      ⟨by show 2 ≤ sizeLine; decide, [u, u2], .cons ru (.cons ru2 .nil), ⟨_, old _ _ (Nat.ne_of_gt (hlt z (by simp))) hT, rfl, _, rfl⟩⟩
    have I1 : Inv X pins σ (upd H s.heap.objs.size (.tup [x, y])) { s with heap := g' } :=
      I.turnedNew (t' := s.toks) (ch := [z, TI, TO, i1, i2]) (fun c o hb e => by
        obtain ⟨n1, n2, n3, n4⟩ := hout c hb
        exact old c o n1 (hk c o n1 n2 n3 n4 e)) hf (Nat.le_refl _) new
    exact ⟨.ref s.heap.objs.size, _, I1, rfl, ⟨_, x, y, rfl, I.hok.fresh (Nat.le_refl _), rfl, fun l hl => by rw [I.list_inj hl hqx]; exact hx, fun l hl => by rw [I.list_inj hl hqy]; exact hy⟩,
      ⟨z2, old _ _ D.TIz (hk _ _ D.TIz D.TITO D.TIi1 D.TIi2 hTI), ⟨u, u2, old _ _ D.TOz TO1⟩, g1.at fun o e => old _ o D.i1z e, g2.at fun o e => old _ o D.i2z e⟩,
      fun c hc => by rw [upd_ne (Nat.ne_of_lt (hlt c hc))]; exact (hf c hc).1⟩
  done := by
    rintro X rfl rfl rfl hc i pins s σ H E I hf ⟨hz, hTI, ⟨x0, y0, hTO⟩, h1, h2⟩ ⟨xs, ys, hqx, hqy, hend⟩
    obtain ⟨its, rv, p, -⟩ := I.list hqx
    obtain ⟨its2, rv2, p2, -⟩ := I.list hqy
    obtain ⟨x1, hot, ap⟩ := hot_apart hc I
    have l1 := rv.length
    have l2 := rv2.length
    have pz := ap z (hf z (by simp))
    have pO := ap TO (hf TO (by simp))
    have p1 := ap i1 (hf i1 (by simp))
    have p2' := ap i2 (hf i2 (by simp))
    have S : ZipSep2 z TI TO i1 i2 [i1, a, x1] [i2, b, x1] := by
      refine ⟨D.TIz, D.TOz, D.TITO, D.TIi1, by simp, ?_, ?_, D.TIi2, by simp, ?_, ?_, ?_, ?_⟩
      · simp only [List.mem_cons, List.not_mem_nil, or_false, not_or]; exact ⟨D.i1z.symm, D.l1z.symm, pz.symm⟩
      · simp only [List.mem_cons, List.not_mem_nil, or_false, not_or]; exact ⟨D.TOi1, D.l1TO.symm, pO.symm⟩
      · simp only [List.mem_cons, List.not_mem_nil, or_false, not_or]; exact ⟨D.i2z.symm, D.l2z.symm, pz.symm⟩
      · simp only [List.mem_cons, List.not_mem_nil, or_false, not_or]; exact ⟨D.TOi2, D.l2TO.symm, pO.symm⟩
      · simp only [List.mem_cons, List.not_mem_nil, or_false, not_or]; exact ⟨D.i12, D.l2i1.symm, p1.symm⟩
      · simp only [List.mem_cons, List.not_mem_nil, or_false, not_or]; exact ⟨D.i12.symm, D.l1i2.symm, p2'.symm⟩
    have far : ∀ (c : Addr), c ∉ [z, TI, TO, i1, i2] → c ≠ z ∧ c ≠ TO ∧ c ≠ i1 ∧ c ≠ i2 := fun c hc => by
      simp only [List.mem_cons, List.not_mem_nil, or_false, not_or] at hc
      exact ⟨hc.1, hc.2.2.1, hc.2.2.2.1, hc.2.2.2.2⟩
    refine wpAny_pyNext_zipD2_end (i := i) (n1 := max i its.length) (n2 := max i its2.length) S
      (draws_hot (A := X.A.in1) i1 a D.l1i1 p1 its.toArray i _ (fun j h1 h2 => by simp; omega) (by simp; omega))
      (draws_hot (A := X.A.in1) i2 b D.l2i2 p2' its2.toArray i _ (fun j h1 h2 => by simp; omega) (by simp; omega))
      hz hTI hTO ⟨Nat.le_refl _, h1, p.isList, hotAt_in hot⟩ ⟨Nat.le_refl _, h2, p2.isList, hotAt_in hot⟩ (by omega) (by omega) (by omega) fun h' tk hk => ⟨rfl, ?_⟩
    exact I.turnedL (t' := tk) (ch := [z, TI, TO, i1, i2]) (fun c o hb q => by
      obtain ⟨n1, n2, n3, n4⟩ := far c hb
      exact hk c o n1 n2 n3 n4 q) hf
section
variable {X : Cx} {e e2 : Expr} {ta : TA} {p pos tpos : Pos} {elts : List Expr} {kk : Nat}
theorem pi_zipH (hg : Gl X "zip") (hm : X.mg "zip" = none) (ha : PA X [e, e2] ta)
    (hs : starEach [e, e2] X.env = (false, eval e X.env) :: starEach [e2] X.env := by rfl) (hpl : (backTo pos (starEach [e2] X.env)).any (·.1) = false := by rfl) :
    L2H.PIH X (.Tuple elts kk tpos) (.Call (.Name "zip" p) [e, e2] [] pos) (iZip X.K ta) := by
  refine ⟨fun pins s σ H R I h => Call_ (ld_blt I hg hm boot_zip (callWith_type1 (thn (ha.run pos pins s σ H _ I h) fun us s1 ⟨vs, H1, I1, r1, a, b, xs, ys, ex, hqx, hqy, q⟩ => ?_) hs hpl))⟩
  subst ex
  obtain ⟨u1, u2, rfl, rfl, rfl⟩ : ∃ u1 u2, us = [u1, u2] ∧ u1 = .ref a ∧ u2 = .ref b := by
    cases r1 with
    | cons r rr => cases rr with
      | cons r' rr => cases rr; cases r; cases r'; exact ⟨_, _, rfl, rfl, rfl⟩
  obtain ⟨its, rv, p1, -⟩ := I1.list hqx
  obtain ⟨its2, rv2, p2, -⟩ := I1.list hqy
  refine call_zip_2 p1.isList p2.isList fun h' hz hTI hTO h1 h2 hsz hk => wpAny_pyIter_zip hz ?_
  refine ⟨_, [s1.heap.objs.size + 4, s1.heap.objs.size + 2, s1.heap.objs.size + 3, s1.heap.objs.size, s1.heap.objs.size + 1], _, _, H1, rfl, I1.kept (t' := s1.toks) hk, turn_zipH (PySem.W.ktu_apart s1.heap.objs.size a b p1.lt p2.lt), ⟨hz, hTI, ⟨_, _, hTO⟩, h1, h2⟩, fun c hc => ?_, q⟩
  have hle : s1.heap.objs.size ≤ c := by
    simp only [List.mem_cons, List.not_mem_nil, or_false] at hc
    rcases hc with e | e | e | e | e
    all_goals (first | exact Nat.le_of_eq e.symm | (rw [e]; exact Nat.le_add_right _ _))
  exact I1.fpOk hle (I1.hok.fresh hle)
end
end UP
namespace UP
open PySem L2 PyProof.Rows
/-- what is walked while an exception is handled; it is frozen -/
structure UIH (X : Cx) (cl : Str → Option Addr) (W : WX) (tg iter : Expr) (wi : TI) (mi : En → R (List D)) : Prop where
  pe : L2H.PIH X tg iter wi
  es : ∀ F0 H0 F H σ ρ Q, Sr X.K cl F0 H0 F H σ ρ → PostI X.K cl W true σ F H Q (mi ρ) → wi σ H Q
def dItH : D → R (List D)
  | .lst xs => .ok xs
  | _ => .st
@[simp] theorem dItH_lst (xs : List D) : dItH (.lst xs) = .ok xs := id rfl
section
variable {α : Type} {X : Cx} {cl : Str → Option Addr} {W : WX} {K : PySem.W.Frag} {F0 H0 F H F' H' : Hp} {σ : L2.St} {ρ : En} {mp : List (Nat × Addr)} {RP : RPt α} {Dn : Ends} {tg e e2 : Expr} {te : TE} {pos p tpos : Pos} {ta : TA}
theorem uih_v {me : En → R D} (h : UE X cl W e te me) : UIH X cl W tg e (iList X.K te) (d1 dItH me) := by
  refine ⟨pi_listH h.pe, fun F0 H0 F H σ ρ Q S p => h.es F0 H0 F H σ ρ _ S ?_⟩
  unfold d1 at p
  cases e1 : me ρ with
  | st => rw [e1] at p; exact p
  | er x => rw [e1] at p; exact p
  | ok d =>
    rw [e1, R.bind_ok] at p
    cases d <;> try exact False.elim p
    rename_i xs
    intro v F1 H1 g r
    unfold Rp at r
    obtain ⟨a, vs, rfl, h1, h2⟩ := r
    exact ⟨a, rfl, ⟨vs, ex_l g.s h1⟩, p _ F1 H1 g (itr_list h1 h2)⟩
theorem uih_zip {ma : En → R (List D)} {elts : List Expr} {kk : Nat} (hm : X.mg "zip" = none) (ha : UA X cl W [e, e2] ta ma) (hg : Gl X "zip" := by rfl)
    (hs : starEach [e, e2] X.env = (false, eval e X.env) :: starEach [e2] X.env := by rfl) (hpl : (backTo pos (starEach [e2] X.env)).any (·.1) = false := by rfl) :
    UIH X cl W (.Tuple elts kk tpos) (.Call (.Name "zip" p) [e, e2] [] pos) (iZip X.K ta) (d1 dZip ma) :=
  ⟨pi_zipH hg hm ha.pe hs hpl, (ui_zip (p := p) (pos := pos) (tpos := tpos) (elts := elts) (kk := kk) hm ha hg hs hpl).es⟩
def gTupH (n : Nat) (b : List D → En → R En) : D → En → R En
  | .tup ds, ρ => if ds.length = n then b ds ρ else .st
  | _, _ => .st
@[simp] theorem gTupH_tup (n : Nat) (b : List D → En → R En) (ds : List D) (ρ : En) : gTupH n b (.tup ds) ρ = if ds.length = n then b ds ρ else .st := id rfl
theorem ug_tupH {es : List Expr} {k : Nat} {t : TGs} {n : Nat} {b : List D → En → R En} {ws : List Nat} (hc : L2H.HotC X) (h : UGs X cl es t b ws) (hn : (assignEach es X.env).length = n := by rfl) (hst : (assignEach es X.env).findIdx? (·.1) = none := by rfl) :
    UG X cl (.Tuple es k pos) (gTup X.K n t) (gTupH n b) ws := by
  refine ⟨pg_tupH hc h.pe hn hst, fun F0 H0 F H σ ρ v d Q S r p => ?_⟩
  cases d <;> try exact False.elim p
  rename_i ds
  unfold Rp at r
  obtain ⟨a, vs, rfl, h1, h2⟩ := r
  have p : PostG X.K cl F0 H0 F H σ ws Q (if ds.length = n then b ds ρ else .st) := p
  by_cases hq : ds.length = n
  · rw [if_pos hq] at p
    exact ⟨a, vs, rfl, SqT.of (S.ex _ _ h1), by rw [h2.length]; exact hq, h.es F0 H0 F H σ ρ vs ds Q S h2 p⟩
  · rw [if_neg hq] at p; exact p.elim
theorem us_forH (Wp : List Nat) {tg iter : Expr} {body : List Stmt} {wi : TI} {g : TG} {tb : TS} {mi : En → R (List D)} {mg : D → En → R En} {ws : List Nat} {mb : En → Fl α} (po : PassesOwn (model X.prog X.w) X.A X.env X.xe) (hc : L2H.HotC X)
    (hi : UIH X cl W tg iter wi mi) (hg : UG X cl tg g mg ws) (hb : USs X cl W mp RP body tb mb) (hp : ∀ i ∈ ws, i ∉ mp.map (·.1))
    (hs : ∀ x, foldedSetIterable iter X.env x = pure x := by intro _; rfl) : US X cl W mp RP (.For tg iter body [] pos) (tFor wi g tb) (fFor Wp mi mg mb) := by
  refine ⟨L2H.ps_forH po hc hi.pe hg.pe hb.pe hs, fun F0 H0 F H σ ρ Dn S P p => hi.es F0 H0 F H σ ρ _ S ?_⟩
  unfold fFor at p
  cases e : mi ρ with
  | st => rw [e] at p; exact p
  | er x => rw [e] at p; exact fun c d F1 H1 g r => p c d σ F1 H1 g.f (S.mono g) P r
  | ok ds =>
    rw [e] at p
    have p : PostS X.K cl W mp RP F0 H0 F Dn (fLoop mg mb ds (wipeE ρ Wp)) := p
    intro J F1 H1 g1 it
    refine ⟨fun i m σ H => m = ds.length - i ∧ i ≤ ds.length ∧ ∃ F2 ρ2, Sr X.K cl F0 H0 F2 H σ ρ2 ∧ Pin mp σ ∧ Ex F1 F2 ∧ PostS X.K cl W mp RP F0 H0 F2 Dn (fLoop mg mb (ds.drop i) ρ2),
      ⟨ds.length, by simp, Nat.zero_le _, F1, wipeE ρ Wp, (S.mono g1).unsE Wp, P, Ex.refl _, by simpa using PostS.mono p g1.f⟩, ?_⟩
    rintro i m σ H ⟨rfl, hi, F2, ρ2, S2, P2, e2, p2⟩
    have I := it F2 H i e2 S2.ex (e2.trans S2.ex)
    by_cases hlt : i < ds.length
    · have hd : ds[i]? = some ds[i] := List.getElem?_eq_getElem hlt
      obtain ⟨go, yl⟩ := I.1 _ hd
      rw [List.drop_eq_getElem_cons hlt] at p2
      refine .inr ⟨go, fun σ H => ∃ F2 ρ2, Sr X.K cl F0 H0 F2 H σ ρ2 ∧ Pin mp σ ∧ Ex F1 F2 ∧ PostS X.K cl W mp RP F0 H0 F2 Dn (fLoop mg mb (ds.drop (i + 1)) ρ2), fun σ' H' n => ⟨ds.length - (i + 1), by omega, rfl, hlt, n⟩, fun x H3 y => ?_⟩
      obtain ⟨F3, g3, r3⟩ := yl x H3 y
      refine hg.es F0 H0 F3 H3 σ ρ2 x _ _ (S2.mono g3) r3 ?_
      have p2 : PostS X.K cl W mp RP F0 H0 F2 Dn (fG (mg ds[i] ρ2) fun ρ1 => fAft (mb ρ1) (fLoop mg mb (ds.drop (i + 1)))) := p2
      cases e3 : mg ds[i] ρ2 with
      | st => rw [e3] at p2; exact p2
      | er x => rw [e3] at p2; exact p2
      | ok ρ3 =>
        rw [e3] at p2
        have p2 : PostS X.K cl W mp RP F0 H0 F2 Dn (fAft (mb ρ3) (fLoop mg mb (ds.drop (i + 1)))) := p2
        intro σ3 S3 hl3 hk3
        have P3 : Pin mp σ3 := fun z hz => by rw [hk3 _ fun w => hp _ w (List.mem_map.mpr ⟨z, hz, rfl⟩)]; exact P2 z hz
        have E3 := e2.trans g3.f
        refine hb.es F0 H0 F3 H3 σ3 ρ3 _ S3 P3 ?_
        cases e4 : mb ρ3 with
        | nx ρ4 => rw [e4] at p2; exact fun σ4 F4 H4 E4 S4 P4 => ⟨F4, ρ4, S4, P4, E3.trans E4, PostS.mono p2 (g3.f.trans E4)⟩
        | ct ρ4 => rw [e4] at p2; exact fun σ4 F4 H4 E4 S4 P4 => ⟨F4, ρ4, S4, P4, E3.trans E4, PostS.mono p2 (g3.f.trans E4)⟩
        | bk ρ4 => rw [e4] at p2; exact fun σ4 F4 H4 E4 S4 P4 => p2 σ4 F4 H4 (g3.f.trans E4) S4 P4
        | rt a ρ4 => rw [e4] at p2; exact p2
        | er x ρ4 => rw [e4] at p2; exact fun c d σ4 F4 H4 E4 S4 P4 => p2 c d σ4 F4 H4 (g3.f.trans E4) S4 P4
        | st => rw [e4] at p2; exact p2
    · have e : i = ds.length := by omega
      subst e
      rw [List.drop_length] at p2
      exact .inl ⟨I.2 (Nat.le_refl _), p2 σ F2 H (Ex.refl _) S2 P2⟩
end
section
variable {P : Program} {w : World} {Kf : PySem.W.Frag} {mg : Str → Option Value} {base : Heap} {N : List Str} {qual : Str} {scope : Scope} {f : Addr} {cd : Value} {A : Around} {outer : List Env} {s : Shared} {H : Hp} {E : XK} {z : Addr × Obj}
theorem po_cxH : PassesOwn (model (L2H.cxH (L2N.CX P w) P w Kf mg base N qual scope f cd A outer s H E z).prog (L2H.cxH (L2N.CX P w) P w Kf mg base N qual scope f cd A outer s H E z).w) (L2H.cxH (L2N.CX P w) P w Kf mg base N qual scope f cd A outer s H E z).A (L2H.cxH (L2N.CX P w) P w Kf mg base N qual scope f cd A outer s H E z).env (L2H.cxH (L2N.CX P w) P w Kf mg base N qual scope f cd A outer s H E z).xe := passes_of (X := L2H.cxH (L2N.CX P w) P w Kf mg base N qual scope f cd A outer s H E z) rfl
end
end UP
namespace UP
open PySem L2 PyProof.Rows
/-! ### dicts in trees, frozen dicts -/
/-- x[k][j] = e, x a tree of ours, x[k] a dict of frozen ones -/
def tPutD (d dj : D) : DT → Option (D × DT)
  | .dk ks us => match fzs us with
    | some xs => match dPutO (.dK ks xs) dj d with
      | some (.dK ks' xs') => some (.non, .dk ks' (xs'.map .fz))
      | _ => none
    | none => none
  | _ => none
theorem tPutD_inv {d dj d0 : D} {ks : List Key} {us : List DT} {t' : DT} (h : tPutD d dj (.dk ks us) = some (d0, t')) : ∃ xs ks' xs', fzs us = some xs ∧ dPutO (.dK ks xs) dj d = some (.dK ks' xs') ∧ d0 = .non ∧ t' = .dk ks' (xs'.map .fz) := by
  unfold tPutD at h
  cases e : fzs us with
  | none => simp [e] at h
  | some xs =>
    simp only [e] at h
    cases e2 : dPutO (.dK ks xs) dj d with
    | none => rw [e2] at h; cases h
    | some o =>
      rw [e2] at h
      cases o with
      | dK ks' xs' => cases h; exact ⟨xs, ks', xs', rfl, e2, rfl, rfl⟩
      | _ => cases h
def fItPut2 {α : Type} (i : Nat) (mk mj me : En → R D) : En → Fl α := fun ρ => fOf (me ρ) ρ fun d => fOf (noer (mk ρ)) ρ fun k => fOf (noer (mj ρ)) ρ fun j => match itMod i (tPutD d j) ρ k with
  | .ok (_, ρ') => .nx ρ'
  | _ => .st
section
variable {α : Type} {X : Cx} {cl : Str → Option Addr} {W : WX} {mp : List (Nat × Addr)} {RP : RPt α} {o k j e : Expr} {te tk tj : TE} {kpos pos tpos : Pos}
theorem us_itPut2 {i : Nat} {mk mj me : En → R D} (hu : X.A.units + 1 < cLine) (ho : PE X (.Subscript o k kpos) (tOp (rIxL X.K) (tVar i) tk)) (hk : UE X cl W k tk mk) (hj : UE X cl W j tj mj) (he : UE X cl W e te me)
    (hs : swapsWith e (some (.Subscript (.Subscript o k kpos) j tpos)) pos.line X.env = pure false := by rfl) :
    US X cl W mp RP (.Assign [.Subscript (.Subscript o k kpos) j tpos] e pos) (sDPut (tOp (rIxL X.K) (tVar i) tk) tj te) (fItPut2 i mk mj me) := by
  refine ⟨ps_dput hu ho hj.pe he.pe hs, fun F0 H0 F H σ ρ Dn S P p => he.es F0 H0 F H σ ρ _ S (post_of S P p fun d v F1 H1 g r p => ?_)⟩
  cases e1 : mk ρ with
  | st => rw [e1] at p; exact p.elim
  | er x => rw [e1] at p; exact p.elim
  | ok dk =>
  cases e2 : mj ρ with
  | st => rw [e1, e2] at p; exact p.elim
  | er x => rw [e1, e2] at p; exact p.elim
  | ok dj =>
  rw [e1, e2] at p
  have p : PostS X.K cl W mp RP F0 H0 F1 Dn (match itMod i (tPutD d dj) ρ dk with
    | .ok (_, ρ') => .nx ρ'
    | _ => .st) := p
  cases e3 : itMod i (tPutD d dj) ρ dk with
  | st => rw [e3] at p; exact p.elim
  | er x => rw [e3] at p; exact p.elim
  | ok q =>
  obtain ⟨d0, ρ'⟩ := q
  rw [e3] at p
  obtain ⟨jz, ts, n, t, t', rfl, hi, hn, ht, hf, rfl⟩ := itMod_ok e3
  have S1 := S.mono g
  obtain ⟨pp, vs, v0, f2, w1, w2, w3, w4, w5, w6, w7⟩ := S1.itAt hi ht
  refine ⟨_, w1, hk.es F0 H0 F1 H1 σ ρ _ S1 ?_⟩
  rw [e1]
  intro yk F2 H2 g2 r2
  have S2 := S1.mono g2
  obtain ⟨p1, vs1, v1, f21, x1, x2, x3, x4, x5, x6, x7⟩ := S2.itAt hi ht
  rw [w1] at x1; cases x1
  have ha : atI vs1 jz = some v1 := by unfold atI; rw [x3, hn]; exact x4
  cases t with
  | fz _ => cases hf
  | tup _ => cases hf
  | lst _ => cases hf
  | ob _ _ _ => cases hf
  | dk ks us =>
  unfold Tr at x5
  obtain ⟨q, zs, fq, rfl, y1, yl, rfl, y2⟩ := x5
  refine ⟨pp, vs1, jz, .ref q, rfl, r2.int_inv, SqL.of x2, ha, hj.es F0 H0 F2 H2 σ ρ _ S2 ?_⟩
  rw [e2]
  intro yj F3 H3 g3 r3
  have S3 := S2.mono g3
  obtain ⟨p2, vs2, v2, f22, z1, z2, z3, z4, z5, z6, z7⟩ := S3.itAt hi ht
  rw [w1] at z1; cases z1
  have e5 : vs2 = vs1 := by have := g3.h _ _ x2; rw [z2] at this; cases this; rfl
  subst e5
  rw [x4] at z4; cases z4
  unfold Tr at z5
  obtain ⟨q', zs', fq', e6, y1', yl', rfl, y2'⟩ := z5
  cases e6
  obtain ⟨xs, ks', xs', hfz, hpd, rfl, rfl⟩ := tPutD_inv hf
  rw [fzs_eq hfz] at y2'
  obtain ⟨rfl, rz⟩ := trs_fz_inv y2'
  obtain ⟨ho', k1, k2⟩ := dPutO_ok (o := .dK ks xs) g3.s ⟨zs', rfl, yl', rz⟩ y1' r3 (r.mono (g2.f.trans g3.f)) hpd
  obtain ⟨vs', rfl, hl2, rr⟩ := k2
  refine ⟨q, _, rfl, k1, ?_⟩
  refine p σ F3 _ (g2.f.trans g3.f) (z6 _ _ [q] (fun a ha => upd_ne fun z => ha (by simp [z])) ?_ z7 fun a ha => ha) P
  unfold Tr
  exact ⟨q, vs', [], rfl, upd_same, hl2, rfl, trs_fz rr⟩
end
@[simp] theorem fItPut2_ap {α : Type} {ρ : En} (i : Nat) (mk mj me : En → R D) : (fItPut2 i mk mj me ρ : Fl α) = fOf (me ρ) ρ fun d => fOf (noer (mk ρ)) ρ fun k => fOf (noer (mj ρ)) ρ fun j => match itMod i (tPutD d j) ρ k with
  | .ok (_, ρ') => .nx ρ'
  | _ => .st := id rfl
/-- x[k].pop(), x[k] a list of frozen ones -/
def tPop : DT → Option (D × DT)
  | .lst us => match fzs us with
    | some ds => match ds[ds.length - 1]? with
      | some y => some (y, .lst (ds.dropLast.map .fz))
      | none => none
    | none => none
  | _ => none
theorem tPop_inv {d0 : D} {us : List DT} {t' : DT} (h : tPop (.lst us) = some (d0, t')) : ∃ ds, fzs us = some ds ∧ ds[ds.length - 1]? = some d0 ∧ t' = .lst (ds.dropLast.map .fz) := by
  unfold tPop at h
  cases e : fzs us with
  | none => simp [e] at h
  | some ds =>
    simp only [e] at h
    cases e2 : ds[ds.length - 1]? with
    | none => rw [e2] at h; cases h
    | some y => rw [e2] at h; cases h; exact ⟨ds, rfl, e2, rfl⟩
def dItPop (i : Nat) (mk : En → R D) : En → R (D × En) := fun ρ => (noer (mk ρ)).bind fun k => itMod i tPop ρ k
section
variable {X : Cx} {cl : Str → Option Addr} {W : WX} {o k : Expr} {tk : TE} {kpos pos tpos cpos apos : Pos}
theorem ux_itPop {i : Nat} {mk : En → R D} (hk : UE X cl WF k tk mk)
    (hp : PE X (.Call (.Attribute (.Subscript o k tpos) "pop" apos) [] [] cpos) (tBM0 X.K "list" rPop (tOp (rIxL X.K) (tVar i) tk))) :
    UX X cl (.Call (.Attribute (.Subscript o k tpos) "pop" apos) [] [] cpos) (tBM0 X.K "list" rPop (tOp (rIxL X.K) (tVar i) tk)) (dItPop i mk) := by
  refine ⟨hp, fun F0 H0 F H σ ρ Q S p => ?_⟩
  unfold dItPop at p
  cases e1 : mk ρ with
  | st => rw [e1] at p; exact p.elim
  | er x => rw [e1] at p; exact p.elim
  | ok dk =>
  rw [e1] at p
  have p : PostX X.K cl F0 H0 F σ Q (itMod i tPop ρ dk) := p
  cases e3 : itMod i tPop ρ dk with
  | st => rw [e3] at p; exact p.elim
  | er x => rw [e3] at p; exact p.elim
  | ok q =>
  obtain ⟨d0, ρ'⟩ := q
  rw [e3] at p
  obtain ⟨j, ts, n, t, t', rfl, hi, hn, ht, hf, rfl⟩ := itMod_ok e3
  obtain ⟨pp, vs, v, f2, w1, w2, w3, w4, w5, w6, w7⟩ := S.itAt hi ht
  refine ⟨_, w1, hk.es F0 H0 F H σ ρ _ S ?_⟩
  rw [e1]
  intro y F1 H1 g1 r1
  obtain ⟨p1, vs1, v1, f21, x1, x2, x3, x4, x5, x6, x7⟩ := (S.mono g1).itAt hi ht
  rw [w1] at x1; cases x1
  have ha : atI vs1 j = some v1 := by unfold atI; rw [x3, hn]; exact x4
  cases t with
  | fz _ => cases hf
  | tup _ => cases hf
  | dk _ _ => cases hf
  | ob _ _ _ => cases hf
  | lst us =>
  obtain ⟨ds, hfz, hy, rfl⟩ := tPop_inv hf
  unfold Tr at x5
  obtain ⟨q, zs, fq, rfl, y1, rfl, y2⟩ := x5
  rw [fzs_eq hfz] at y2
  obtain ⟨rfl, rz⟩ := trs_fz_inv y2
  obtain ⟨u, hu, ru⟩ := rz.get hy
  refine ⟨pp, vs1, j, .ref q, rfl, r1.int_inv, SqL.of x2, ha, tyV_l y1, q, zs, u, rfl, rfl, y1, by rw [rz.length]; exact hu, ?_⟩
  refine p u F1 _ g1.f (x6 _ _ [q] (fun a ha => upd_ne fun z => ha (by simp [z])) ?_ (by simp) fun a ha => by rw [List.mem_singleton.mp ha]; simp) ru
  unfold Tr
  exact ⟨q, zs.dropLast, [], rfl, upd_same, rfl, trs_fz rz.dropLast⟩
end
@[simp] theorem dItPop_ap (i : Nat) (mk : En → R D) (ρ : En) : dItPop i mk ρ = (noer (mk ρ)).bind fun k => itMod i tPop ρ k := id rfl
/-- sorted(d), d a frozen dict with keys that are ints -/
def dSortV : D → R DO
  | .dk ks _ => match kInts ks with
    | some ns => .ok (.lst ((sortI ns).map .int))
    | none => .st
  | _ => .st
section
variable {X : Cx} {cl : Str → Option Addr} {W : WX} {o e : Expr} {te : TE} {p2 pos : Pos} {me mk : En → R D}
theorem un_sortV (hc : X.calm = true) (hg : Gl X "sorted") (hm : X.mg "sorted" = none) (hv : bootBuiltins "sorted" = some (.builtin "sorted")) (ho : UE X cl W o te me)
    (hs : starEach [o] X.env = (false, eval o X.env) :: starEach [] X.env := by rfl) (hpl : (backTo pos (starEach [] X.env)).any (·.1) = false := by rfl) :
    UN X cl W (.Call (.Name "sorted" p2) [o] [] pos) (tCB rSortedD (tCons te tNil)) (d1 dSortV me) := by
  refine ⟨pe_callB (cr_sortedD hc) hg hm hv (pa_cons ho.pe pa_nil hs) (by decide) (by decide) hs hpl, fun F0 H0 F H σ ρ Q S p => ?_⟩
  refine ho.es F0 H0 F H σ ρ _ S ?_
  unfold d1 at p
  cases e1 : me ρ with
  | st => rw [e1] at p; exact p
  | er x => rw [e1] at p; exact p
  | ok d =>
  rw [e1, R.bind_ok] at p
  intro y F1 H1 g r
  cases d with
  | dk ks xs =>
    unfold Rp at r
    obtain ⟨a, vs, rfl, hF, hl, rv⟩ := r
    have p : PostN X.K cl W σ F H Q (match kInts ks with
      | some ns => .ok (.lst ((sortI ns).map .int))
      | none => .st) := p
    cases hn : kInts ks with
    | none => rw [hn] at p; exact p.elim
    | some ns =>
      rw [hn] at p
      refine ⟨a, ks.zip vs, ns, rfl, .inl (g.s _ _ hF), ?_, fun ns' b hp hs' hb => ?_⟩
      · rw [List.map_fst_zip (by omega)]; exact kInts_eq hn
      · rw [sortI_is hs' hp]
        have hb0 : H b = none := by
          cases e : H b with
          | none => rfl
          | some o => have := g.h _ _ e; rw [hb] at this; cases this
        exact p b (.lst _) F1 _ (g.trans (Grow.lay' g.s hb)) hb0 (Grow.fnone g.s hb) upd_same ⟨_, rfl, Rps.ints⟩
  | _ => exact p.elim
/-- d[k], d a frozen dict -/
def dIxK (d k : D) : R D := match d with
  | .dk ks xs => match dLook (.dK ks xs) k with
    | some (some x) => .ok x
    | _ => .st
  | _ => .st
theorem ue_ixK {k : Expr} {tk : TE} (hu : X.A.units + 1 < cLine) (ho : UE X cl W o te me) (hk : UE X cl W k tk mk) (hs : NoSl k := by exact fun _ _ => rfl) : UE X cl W (.Subscript o k pos) (tDGet te tk) (d2 dIxK me mk) := by
  refine ⟨pe_dget hu ho.pe hk.pe hs, fun F0 H0 F H σ ρ Q S p => ho.es F0 H0 F H σ ρ _ S ?_⟩
  unfold d2 at p
  cases e1 : me ρ with
  | st => rw [e1] at p; exact p
  | er x => rw [e1] at p; exact p
  | ok d =>
  rw [e1, R.bind_ok] at p
  intro y F1 H1 g r
  refine hk.es F0 H0 F1 H1 σ ρ _ (S.mono g) ?_
  cases e2 : mk ρ with
  | st => rw [e2] at p; exact p
  | er x => rw [e2] at p; exact fun c d F2 H2 g2 q => p c d F2 H2 (g.trans g2) q
  | ok dk =>
  rw [e2, R.bind_ok] at p
  intro z F2 H2 g2 r2
  cases d with
  | dk ks xs =>
    unfold Rp at r
    obtain ⟨a, vs, rfl, hF, hl, rv⟩ := r
    have p : Post X.K cl W σ F H Q (match dLook (.dK ks xs) dk with
      | some (some x) => .ok x
      | _ => .st) := p
    split at p
    · rename_i x hx
      obtain ⟨ov, k1, k2⟩ := dLook_ok (o := .dK ks xs) g2.s ⟨vs, rfl, hl, rv.mono g2.f⟩ (g2.h _ _ (g.s _ _ hF)) r2 hx
      rcases k2 with ⟨v, x', rfl, h, rx⟩ | ⟨rfl, h⟩
      · cases h
        exact ⟨a, v, rfl, k1, p v F2 H2 (g.trans g2) rx⟩
      · cases h
    · exact p.elim
  | _ => exact p.elim
end
end UP
namespace UP
open PySem L2 PyProof.Rows
/-! ### objects of ours with fields that are lists of ours -/
section
variable {α : Type} {X : Cx} {cl : Str → Option Addr} {W : WX} {K : PySem.W.Frag} {F0 H0 F H F' H' : Hp} {σ : L2.St} {ρ : En} {mp : List (Nat × Addr)} {RP : RPt α} {Dn : Ends} {e o : Expr} {te to : TE} {pos apos cpos pos' fpos p : Pos} {cs : List Str} {f : Str}
/-- an own object, seen as a tree -/
theorem Sr.ownOb {i : Nat} {c : Str} {ns : List Str} {xs : List D} (S : Sr K cl F0 H0 F H σ ρ) (hi : ρ[i]? = some (.own (.ins c ns xs))) : Sr K cl F0 H0 F H σ (ρ.set i (.tr (.ob c ns (xs.map .fz)))) := by
  obtain ⟨q, ho, h1, h2, h3, ⟨C, dx, vs, k0, rfl, k1, k2⟩, h5⟩ := S.own i _ hi
  have hT : Tr K cl F H (.ref q) (.ob c ns (xs.map .fz)) [q] := by
    unfold Tr; exact ⟨q, C, dx, vs, [], rfl, k0, h3, k1, rfl, trs_fz k2⟩
  obtain ⟨ω, t1, t2, t3⟩ := S.tr
  have S2 := (S.unE (i := i)).setTr (i := i) (v := .ref q) hT (by simp) (fun a ha => by rw [List.mem_singleton.mp ha]; exact ⟨h2, h5⟩) (fun j o r e1 e2 hr => by
    obtain ⟨hji, e1'⟩ := set_un e1 own_ne
    rw [List.mem_singleton.mp hr] at e2
    exact hji (S.dis j i o _ q e1' hi e2 h1)) (fun j t' v' fq a e1 e2 e3 ha hp => by
    obtain ⟨hji, e1'⟩ := set_un e1 tr_ne
    obtain ⟨u, w1, w2, w3, w4⟩ := t1 j t' e1'
    rw [e2] at w1; cases w1
    rw [e3.fn w2] at ha
    rw [List.mem_singleton.mp hp] at ha
    exact t3 j i t' _ q e1' hi h1 ha)
  rw [List.set_set, set_keep h1] at S2
  exact S2
/-- a field more, with a new tree -/
theorem Sr.fldPush {i : Nat} {c : Str} {ns : List Str} {ts : List DT} {t : DT} {v : V} {fp : List Addr} {F1 H1 : Hp} (S : Sr K cl F0 H0 F H σ ρ) (hi : ρ[i]? = some (.tr (.ob c ns ts))) (g : Grow F H F1 H1) (hT : Tr K cl F1 H1 v t fp) (hnd : fp.Nodup) (hfr : ∀ a ∈ fp, H a = none ∧ F1 a = none) (hf : f ∉ ns) :
    ∃ pp C dx vs, σ[i]? = some (some (.ref pp)) ∧ cl c = some C ∧ H1 pp = some (.ins C dx (ns.zip vs)) ∧ ns.length = vs.length ∧ Sr K cl F0 H0 F1 (upd H1 pp (.ins C dx (putF f v (ns.zip vs)))) σ (ρ.set i (.tr (.ob c (ns ++ [f]) (ts ++ [t])))) := by
  obtain ⟨ω, h1, h2, h3⟩ := S.tr
  obtain ⟨u, q1, q2, q3, q4⟩ := h1 i _ hi
  unfold Tr at q2
  obtain ⟨pp, C, dx, vs, fq, rfl, y0, y1, yl, y2, y3⟩ := q2
  have S1 := S.mono g
  have hH1 := g.h _ _ y1
  have y3' : Trs K cl F1 H1 vs ts fq := y3.mono g.f fun a ha => by
    obtain ⟨u, hu⟩ := y3.here a ha
    rw [hu]; exact g.h a u hu
  have hT1 : Tr K cl F1 H1 (.ref pp) (.ob c ns ts) (ω i) := by unfold Tr; exact ⟨pp, C, dx, vs, fq, rfl, y0, hH1, yl, y2, y3'⟩
  have notin : ∀ a ∈ fp, a ∉ ω i := fun a ha z => S.new_tr g (hfr a ha).1 i _ _ _ hi q1 hT1 z
  rw [y2] at q3 notin
  have q3' := List.nodup_cons.mp q3
  have hp0 : pp ∉ fp := fun z => notin pp z (by simp)
  refine ⟨pp, C, dx, vs, q1, y0, hH1, yl, ?_⟩
  rw [putF_new yl hf]
  refine S1.trW (t' := .ob c (ns ++ [f]) (ts ++ [t])) (fp' := pp :: (fq ++ fp)) hi q1 hT1 (fun a ha => upd_ne fun z => ha (by rw [z, y2]; simp)) ?_ ?_ fun a ha => ?_
  · unfold Tr
    refine ⟨pp, C, dx, vs ++ [v], _, rfl, y0, upd_same, by simp [yl], rfl, (y3'.append (Trs.one hT)).mono (Ex.refl _) fun a ha => upd_ne fun z => ?_⟩
    subst z
    rcases List.mem_append.mp ha with z | z
    · exact q3'.1 z
    · exact hp0 z
  · refine List.nodup_cons.mpr ⟨fun z => ?_, List.nodup_append.mpr ⟨q3'.2, hnd, fun a ha b hb z => notin b hb (by simp [← z, ha])⟩⟩
    rcases List.mem_append.mp z with y | y
    · exact q3'.1 y
    · exact hp0 y
  · rcases List.mem_cons.mp ha with y | y
    · exact .inl (by rw [y, y2]; simp)
    · rcases List.mem_append.mp y with y | y
      · exact .inl (by rw [y2]; simp [y])
      · exact .inr ⟨(hfr a y).2, S.grow.old a (hfr a y).1, fun j' o p e1 e2 z => S.own_new (hfr a y).1 j' o e1 (z ▸ e2), fun j' t' v' fq' e1 e2 h hm => S.new_tr g (hfr a y).1 j' t' v' fq' e1 e2 h hm⟩
/-- x.f = a new tree, x an object of ours -/
def fSetFldQ (cs : List Str) (i : Nat) (f : Str) (me : En → R DT) : En → Fl α := fun ρ => fOf (me ρ) ρ fun t => match ρ[i]? with
  | some (.own (.ins c ns xs)) => if c ∈ cs ∧ f ∉ ns ∧ ns.length < 1000 then .nx (ρ.set i (.tr (.ob c (ns ++ [f]) (xs.map .fz ++ [t])))) else .st
  | some (.tr (.ob c ns ts)) => if c ∈ cs ∧ f ∉ ns ∧ ns.length < 1000 then .nx (ρ.set i (.tr (.ob c (ns ++ [f]) (ts ++ [t])))) else .st
  | _ => .st
@[simp] theorem fSetFldQ_ap (i : Nat) (me : En → R DT) : (fSetFldQ cs i f me ρ : Fl α) = fOf (me ρ) ρ fun t => match ρ[i]? with
  | some (Sl.own (DO.ins c ns xs)) => if c ∈ cs ∧ f ∉ ns ∧ ns.length < 1000 then .nx (ρ.set i (.tr (.ob c (ns ++ [f]) (xs.map .fz ++ [t])))) else .st
  | some (Sl.tr (DT.ob c ns ts)) => if c ∈ cs ∧ f ∉ ns ∧ ns.length < 1000 then .nx (ρ.set i (.tr (.ob c (ns ++ [f]) (ts ++ [t])))) else .st
  | _ => .st := id rfl
theorem us_setFldQ {i : Nat} {me : En → R DT} (hf : FldOk X.K cl cs f) (ho : PE X o (tVar i)) (he : UQ X cl W e te me) (hs : swapsWith e (some (.Attribute o f pos')) pos.line X.env = pure false := by rfl) :
    US X cl W mp RP (.Assign [.Attribute o f pos'] e pos) (sFld X.K (tVar i) te f) (fSetFldQ cs i f me) := by
  refine ⟨ps_fld ho he.pe hs, fun F0 H0 F H σ ρ Dn S P p => he.es F0 H0 F H σ ρ _ S (postQ_of S P p fun t v fp F1 H1 g hT hnd hfr q => ?_)⟩
  split at q
  · rename_i c ns xs hi
    split at q
    rotate_left
    · exact q.elim
    rename_i hc
    have hil : i < ρ.length := (List.getElem?_eq_some_iff.mp hi).1
    obtain ⟨pp, C, dx, vs, k1, k2, k3, k4, k5⟩ := (S.ownOb hi).fldPush (List.getElem?_set_self hil) g hT hnd hfr hc.2.1
    rw [List.set_set] at k5
    obtain ⟨C', q1, q2, q3⟩ := hf c hc.1
    rw [k2] at q1; cases q1
    exact ⟨_, k1, pp, C, dx, _, rfl, k3, q2, q3, by rw [List.length_zip]; omega, q σ F1 _ (Ex.refl _) k5 P⟩
  · rename_i c ns ts hi
    split at q
    rotate_left
    · exact q.elim
    rename_i hc
    obtain ⟨pp, C, dx, vs, k1, k2, k3, k4, k5⟩ := S.fldPush hi g hT hnd hfr hc.2.1
    obtain ⟨C', q1, q2, q3⟩ := hf c hc.1
    rw [k2] at q1; cases q1
    exact ⟨_, k1, pp, C, dx, _, rfl, k3, q2, q3, by rw [List.length_zip]; omega, q σ F1 _ (Ex.refl _) k5 P⟩
  · exact q.elim
/-! ### x.f.append(e) -/
def fAt (f : Str) : List Str → Option Nat
  | [] => none
  | n :: ns => if f = n then some 0 else (fAt f ns).map (· + 1)
theorem fAt_ok : ∀ {ns : List Str} {vs : List V} {n : Nat} {v : V}, ns.length = vs.length → fAt f ns = some n → vs[n]? = some v → (ns.zip vs).lookup f = some v
  | [], vs, n, v, hl, h, _ => by cases h
  | m :: ns, [], n, v, hl, h, _ => by cases hl
  | m :: ns, u :: vs, n, v, hl, h, hv => by
    unfold fAt at h
    rw [List.zip_cons_cons]
    by_cases e : f = m
    · rw [if_pos e] at h; cases h
      rw [List.getElem?_cons_zero] at hv
      subst e
      rw [List.lookup_cons_self]; exact hv
    · rw [if_neg e] at h
      cases h2 : fAt f ns with
      | none => rw [h2] at h; cases h
      | some k =>
        rw [h2] at h; cases h
        rw [List.getElem?_cons_succ] at hv
        have ne : (f == m) = false := by simpa using e
        rw [List.lookup_cons, ne]
        exact fAt_ok (by simpa using hl) h2 hv
/-- a field's tree is changed at its own places -/
theorem Sr.fldAt {i n : Nat} {c : Str} {ns : List Str} {ts : List DT} {t : DT} (S : Sr K cl F0 H0 F H σ ρ) (hi : ρ[i]? = some (.tr (.ob c ns ts))) (ht : ts[n]? = some t) : ∃ p C dx vs v f2, σ[i]? = some (some (.ref p)) ∧ cl c = some C ∧ H p = some (.ins C dx (ns.zip vs)) ∧ ns.length = vs.length ∧ vs[n]? = some v ∧ Tr K cl F H v t f2 ∧
    (∀ (H' : Hp) (t' : DT) (f2' : List Addr), (∀ a, a ∉ f2 → H' a = H a) → Tr K cl F H' v t' f2' → f2'.Nodup → (∀ a ∈ f2', a ∈ f2) → Sr K cl F0 H0 F H' σ (ρ.set i (.tr (.ob c ns (ts.set n t'))))) ∧ f2.Nodup := by
  obtain ⟨ω, h1, h2, h3⟩ := S.tr
  obtain ⟨u, q1, q2, q3, q4⟩ := h1 i _ hi
  have q2' := q2
  unfold Tr at q2
  obtain ⟨p, C, dx, vs, fq, rfl, w0, w1, wl, w2, w3⟩ := q2
  obtain ⟨v, f1, f2, f3, k1, k2, k3, k4⟩ := w3.at ht
  rw [w2] at q3
  rw [k2] at q3
  have nd := q3
  rw [List.nodup_cons] at q3
  obtain ⟨np, nq⟩ := q3
  have nq' := List.nodup_append.mp nq
  have nq2 := List.nodup_append.mp nq'.2.1
  refine ⟨p, C, dx, vs, v, f2, q1, w0, w1, wl, k1, k3, fun H' t' f2' hH hT hn hs => ?_, nq2.1⟩
  refine S.trW hi q1 q2' (fun a ha => hH a fun z => ha (by rw [w2, k2]; simp [z])) (t' := .ob c ns (ts.set n t')) (fp' := p :: (f1 ++ (f2' ++ f3))) ?_ ?_ fun a ha => .inl ?_
  · unfold Tr
    have pn : p ∉ f2 := fun z => np (by simp [z])
    have hv : vs.set n v = vs := by
      refine List.ext_getElem? fun j => ?_
      by_cases hj : n = j
      · subst hj; rw [List.getElem?_set_self (List.getElem?_eq_some_iff.mp k1).1, k1]
      · rw [List.getElem?_set_ne hj]
    have k5 := k4 H' v t' f2' (fun a ha => hH a fun z => ?_) hT
    · rw [hv] at k5
      exact ⟨p, C, dx, vs, _, rfl, w0, by rw [hH p pn]; exact w1, wl, rfl, k5⟩
    · rcases List.mem_append.mp ha with y | y
      · exact nq'.2.2 a y a (by simp [z]) rfl
      · exact nq2.2.2 a z a y rfl
  · refine List.nodup_cons.mpr ⟨fun z => ?_, List.nodup_append.mpr ⟨nq'.1, List.nodup_append.mpr ⟨hn, nq2.2.1, fun a ha b hb z => nq2.2.2 a (hs a ha) b hb z⟩, fun a ha b hb z => ?_⟩⟩
    · rcases List.mem_append.mp z with y | y
      · exact np (by simp [y])
      · rcases List.mem_append.mp y with y | y
        · exact np (by simp [hs p y])
        · exact np (by simp [y])
    · rcases List.mem_append.mp hb with y | y
      · exact nq'.2.2 a ha b (by simp [hs b y]) z
      · exact nq'.2.2 a ha b (by simp [y]) z
  · rw [w2, k2]
    rcases List.mem_cons.mp ha with y | y
    · simp [y]
    · rcases List.mem_append.mp y with y | y
      · simp [y]
      · rcases List.mem_append.mp y with y | y
        · simp [hs a y]
        · simp [y]
def fFldApp (cs : List Str) (i : Nat) (f : Str) (me : En → R D) : En → Fl α := fun ρ => fOf (noer (me ρ)) ρ fun d => match ρ[i]? with
  | some (.tr (.ob c ns ts)) => if c ∈ cs then match fAt f ns with
    | some n => match ts[n]? with
      | some (.lst us) => if us.length < SZ then .nx (ρ.set i (.tr (.ob c ns (ts.set n (.lst (us ++ [.fz d])))))) else .st
      | _ => .st
    | none => .st else .st
  | _ => .st
@[simp] theorem fFldApp_ap (i : Nat) (me : En → R D) : (fFldApp cs i f me ρ : Fl α) = fOf (noer (me ρ)) ρ fun d => match ρ[i]? with
  | some (Sl.tr (DT.ob c ns ts)) => if c ∈ cs then match fAt f ns with
    | some n => match ts[n]? with
      | some (.lst us) => if us.length < SZ then .nx (ρ.set i (.tr (.ob c ns (ts.set n (.lst (us ++ [.fz d])))))) else .st
      | _ => .st
    | none => .st else .st
  | _ => .st := id rfl
theorem us_fldApp {i : Nat} {me : En → R D} (hf : FldOk X.K cl cs f) (he : UE X cl WF e te me)
    (hp : PE X (.Call (.Attribute (.Attribute o f fpos) "append" apos) [e] [] cpos) (tBM X.K "list" rAppend (tFld X.K (tVar i) f) (tCons te tNil)))
    (hs : swapsWith (.Call (.Attribute (.Attribute o f fpos) "append" apos) [e] [] cpos) none pos.line X.env = pure false := by rfl) :
    US X cl W mp RP (.Expr (.Call (.Attribute (.Attribute o f fpos) "append" apos) [e] [] cpos) pos) (tDrop (tBM X.K "list" rAppend (tFld X.K (tVar i) f) (tCons te tNil))) (fFldApp cs i f me) := by
  refine ⟨ps_expr hp hs, fun F0 H0 F H σ ρ Dn S P p => ?_⟩
  unfold fFldApp at p
  cases e1 : me ρ with
  | st => rw [e1] at p; exact p.elim
  | er x => rw [e1] at p; exact p.elim
  | ok d =>
  rw [e1] at p
  have p : PostS X.K cl W mp RP F0 H0 F Dn (match ρ[i]? with
    | some (.tr (.ob c ns ts)) => if c ∈ cs then match fAt f ns with
      | some n => match ts[n]? with
        | some (.lst us) => if us.length < SZ then .nx (ρ.set i (.tr (.ob c ns (ts.set n (.lst (us ++ [.fz d])))))) else .st
        | _ => .st
      | none => .st else .st
    | _ => .st) := p
  split at p
  rotate_left
  · exact p.elim
  rename_i c ns ts hi
  split at p
  rotate_left
  · exact p.elim
  rename_i hc
  split at p
  rotate_left
  · exact p.elim
  rename_i n hn
  split at p
  rotate_left
  · exact p.elim
  rename_i us ht
  split at p
  rotate_left
  · exact p.elim
  rename_i hz
  obtain ⟨pp, C, dx, vs, v, f2, w1, w0, w2, wl, w3, w5, w6, w7⟩ := S.fldAt hi ht
  obtain ⟨C', q1, q2, q3⟩ := hf c hc
  rw [w0] at q1; cases q1
  unfold Tr at w5
  obtain ⟨q, zs, fq, rfl, y1, rfl, y2⟩ := w5
  refine ⟨_, w1, pp, C, dx, _, _, rfl, w2, q2, q3, fAt_ok wl hn w3, tyV_l y1, he.es F0 H0 F H σ ρ _ S ?_⟩
  rw [e1]
  intro y F1 H1 g1 r1
  have S1 := S.mono g1
  obtain ⟨pp', C', dx', vs', v', f2', x1, x0, x2, xl, x3, x5, x6, x7⟩ := S1.fldAt hi ht
  rw [w1] at x1; cases x1
  rw [w0] at x0; cases x0
  have e5 : ns.zip vs' = ns.zip vs := by have := g1.h _ _ w2; rw [x2] at this; injection this with this; injection this
  have z1 : (ns.zip vs).map (·.2) = vs := List.map_snd_zip (by omega)
  have z2 : (ns.zip vs').map (·.2) = vs' := List.map_snd_zip (by omega)
  have e6 : vs' = vs := by rw [← z1, ← z2, e5]
  subst e6
  rw [w3] at x3; cases x3
  unfold Tr at x5
  obtain ⟨q', zs', fq', e7, y1', rfl, y2'⟩ := x5
  cases e7
  have hq := g1.h _ _ y1
  rw [y1'] at hq; cases hq
  refine ⟨q, zs, y, rfl, rfl, y1', by rw [y2'.length]; exact sz_lt hz, ?_⟩
  refine p σ F1 _ g1.f (x6 _ _ (q :: (fq' ++ [])) (fun a ha => upd_ne fun z => ha (by simp [z])) ?_ (by simpa using x7) fun a ha => by simpa using ha) P
  unfold Tr
  have hn' := List.nodup_cons.mp x7
  exact ⟨q, zs ++ [y], _, rfl, upd_same, rfl, (y2'.append (Trs.one (tr_fz r1))).mono (Ex.refl _) fun a ha => upd_ne fun z => hn'.1 (by rw [← z]; simpa using ha)⟩
end
end UP
namespace UP
open PySem L2 PyProof.Rows
/-! ### signs of texts, all, index -/
section
variable {K : PySem.W.Frag} {X : Cx} {cl : Str → Option Addr} {W : WX}
def dInS : D → D → R D
  | .str s, .str z => match s.cps.toList with
    | [c] => .ok (.bl (decide (c ∈ z.cps.toList)))
    | _ => .st
  | _, _ => .st
def dNotInS : D → D → R D
  | .str s, .str z => match s.cps.toList with
    | [c] => .ok (.bl (!decide (c ∈ z.cps.toList)))
    | _ => .st
  | _, _ => .st
theorem str_one {s : Str} {c : Nat} (h : s.cps.toList = [c]) : s = ⟨#[c]⟩ := by
  obtain ⟨a⟩ := s
  obtain ⟨l⟩ := a
  have h : l = [c] := h
  rw [h]
theorem op2_inS : Op2 K cl (fun x y H Q => ∃ (c : Nat) (z : Str), x = .str ⟨#[c]⟩ ∧ y = .str z ∧ Q (.bl (decide (c ∈ z.cps.toList))) H) dInS := by
  intro W σ F H x y dx dy Q e rx ry p
  unfold dInS at p
  split at p
  · rename_i s z
    split at p
    · rename_i c hc
      rw [rx.str_inv, ry.str_inv]
      exact ⟨c, z, by rw [str_one hc], rfl, post_ok p e rp_bl⟩
    · exact False.elim p
  · exact False.elim p
theorem op2_notInS : Op2 K cl (fun x y H Q => ∃ (c : Nat) (z : Str), x = .str ⟨#[c]⟩ ∧ y = .str z ∧ Q (.bl (!decide (c ∈ z.cps.toList))) H) dNotInS := by
  intro W σ F H x y dx dy Q e rx ry p
  unfold dNotInS at p
  split at p
  · rename_i s z
    split at p
    · rename_i c hc
      rw [rx.str_inv, ry.str_inv]
      exact ⟨c, z, by rw [str_one hc], rfl, post_ok p e rp_bl⟩
    · exact False.elim p
  · exact False.elim p
theorem c_inS : Cmp X cl .In (fun x y H Q => ∃ (c : Nat) (z : Str), x = .str ⟨#[c]⟩ ∧ y = .str z ∧ Q (.bl (decide (c ∈ z.cps.toList))) H) dInS := ⟨op_in_sign, op2_inS⟩
theorem c_notInS : Cmp X cl .NotIn (fun x y H Q => ∃ (c : Nat) (z : Str), x = .str ⟨#[c]⟩ ∧ y = .str z ∧ Q (.bl (!decide (c ∈ z.cps.toList))) H) dNotInS := ⟨op_notIn_sign, op2_notInS⟩
@[simp] theorem dInS_sign (c : Nat) (z : Str) : dInS (.str ⟨#[c]⟩) (.str z) = .ok (.bl (decide (c ∈ z.cps.toList))) := id rfl
@[simp] theorem dNotInS_sign (c : Nat) (z : Str) : dNotInS (.str ⟨#[c]⟩) (.str z) = .ok (.bl (!decide (c ∈ z.cps.toList))) := id rfl
/-- all of a list of truths -/
def dBls : List D → Option (List Bool)
  | [] => some []
  | .bl b :: ds => (dBls ds).map (b :: ·)
  | _ => none
theorem dBls_rps {F : Hp} : ∀ {ds : List D} {vs : List V} {bs : List Bool}, Rps K cl F vs ds → dBls ds = some bs → vs = bs.map V.bl
  | [], vs, bs, h, e => by cases e; exact h.nil_inv
  | d :: ds, vs, bs, h, e => by
    obtain ⟨v, r, rfl, h1, h2⟩ := h.cons_inv
    cases d <;> try cases e
    rename_i b
    unfold dBls at e
    cases q : dBls ds with
    | none => rw [q] at e; cases e
    | some ms =>
      rw [q] at e
      cases e
      rw [dBls_rps h2 q]
      unfold Rp at h1
      rw [h1]; rfl
@[simp] theorem dBls_map : ∀ bs : List Bool, dBls (bs.map .bl) = some bs
  | [] => rfl
  | b :: bs => by rw [List.map_cons]; unfold dBls; rw [dBls_map bs]; rfl
def bAll : Bool × List D → R D := fun x => if x.1 = true then match dBls x.2 with
  | some bs => .ok (.bl (bs.all id))
  | none => .st
  else .st
theorem ca_all : CaL K cl (rAll K) bAll := by
  intro W σ F H a vs b ds Q e s r p
  unfold bAll at p
  split at p
  · rename_i hb
    have hb : b = true := hb
    subst hb
    split at p
    · rename_i bs hn
      have ev := dBls_rps r hn
      subst ev
      exact ⟨a, bs, rfl, s, post_ok p e rp_bl⟩
    · exact False.elim p
  · exact False.elim p
/-- the place of a text in a list of texts -/
def dStrs : List D → Option (List Str)
  | [] => some []
  | .str s :: ds => (dStrs ds).map (s :: ·)
  | _ => none
theorem dStrs_rps {F : Hp} : ∀ {ds : List D} {vs : List V} {ss : List Str}, Rps K cl F vs ds → dStrs ds = some ss → vs = ss.map V.str
  | [], vs, ss, h, e => by cases e; exact h.nil_inv
  | d :: ds, vs, ss, h, e => by
    obtain ⟨v, r, rfl, h1, h2⟩ := h.cons_inv
    cases d <;> try cases e
    rename_i s
    unfold dStrs at e
    cases q : dStrs ds with
    | none => rw [q] at e; cases e
    | some ms =>
      rw [q] at e
      cases e
      rw [dStrs_rps h2 q, h1.str_inv]; rfl
@[simp] theorem dStrs_map : ∀ ss : List Str, dStrs (ss.map .str) = some ss
  | [] => rfl
  | s :: ss => by rw [List.map_cons]; unfold dStrs; rw [dStrs_map ss]; rfl
def idxS (s : Str) : List Str → Option Nat
  | [] => none
  | z :: zs => if z = s then some 0 else (idxS s zs).map (· + 1)
theorem idxS_ok {s : Str} : ∀ {zs : List Str} {n : Nat}, idxS s zs = some n → zs[n]? = some s ∧ ∀ m z, m < n → zs[m]? = some z → z ≠ s
  | [], n, h => by cases h
  | z :: zs, n, h => by
    unfold idxS at h
    by_cases e : z = s
    · rw [if_pos e] at h; cases h
      exact ⟨by rw [List.getElem?_cons_zero, e], fun m z hm => absurd hm (Nat.not_lt_zero _)⟩
    · rw [if_neg e] at h
      cases q : idxS s zs with
      | none => rw [q] at h; cases h
      | some k =>
        rw [q] at h; cases h
        obtain ⟨h1, h2⟩ := idxS_ok q
        refine ⟨by rw [List.getElem?_cons_succ]; exact h1, fun m z' hm hz => ?_⟩
        cases m with
        | zero => rw [List.getElem?_cons_zero] at hz; cases hz; exact e
        | succ m =>
          rw [List.getElem?_cons_succ] at hz
          have hm : m + 1 < k + 1 := hm
          exact h2 m z' (by omega) hz
def idxD (ds : List D) : D → R D
  | .str s => match dStrs ds with
    | some ss => match idxS s ss with
      | some n => .ok (.int (n : Nat))
      | none => .st
    | none => .st
  | _ => .st
def dIdx (ml : En → R (Bool × List D)) (me : En → R D) : En → R D := fun ρ => (ml ρ).bind fun q => if q.1 = true then (me ρ).bind (idxD q.2) else .st
@[simp] theorem dIdx_ap (ml : En → R (Bool × List D)) (me : En → R D) (ρ : En) : dIdx ml me ρ = (ml ρ).bind fun q => if q.1 = true then (me ρ).bind (idxD q.2) else .st := id rfl
theorem ue_index {o e : Expr} {to te : TE} {ml : En → R (Bool × List D)} {me : En → R D} {apos cpos : Pos} (ho : UL X cl W o to ml) (he : UE X cl W e te me)
    (hp : PE X (.Call (.Attribute o "index" apos) [e] [] cpos) (tBM X.K "list" (rIndex X.K) to (tCons te tNil))) :
    UE X cl W (.Call (.Attribute o "index" apos) [e] [] cpos) (tBM X.K "list" (rIndex X.K) to (tCons te tNil)) (dIdx ml me) := by
  refine ⟨hp, fun F0 H0 F H σ ρ Q S p => ?_⟩
  unfold dIdx at p
  refine ho.es F0 H0 F H σ ρ _ S ?_
  cases e1 : ml ρ with
  | st => rw [e1] at p; exact p
  | er x => rw [e1] at p; exact p
  | ok q =>
  obtain ⟨b, ds⟩ := q
  rw [e1, R.bind_ok] at p
  intro a vs F1 H1 g1 s1 r1
  cases b with
  | false => exact p.elim
  | true =>
  refine ⟨Or.inl ⟨rfl, _, s1⟩, he.es F0 H0 F1 H1 σ ρ _ (S.mono g1) ?_⟩
  have p : Post X.K cl W σ F H Q ((me ρ).bind (idxD ds)) := p
  cases e2 : me ρ with
  | st => rw [e2] at p; exact p.elim
  | er x => rw [e2] at p; exact fun c d F2 H2 g2 q => p c d F2 H2 (g1.trans g2) q
  | ok d =>
  rw [e2, R.bind_ok] at p
  intro y F2 H2 g2 r2
  unfold idxD at p
  split at p
  rotate_left
  · exact p.elim
  rename_i s
  split at p
  rotate_left
  · exact p.elim
  rename_i ss hss
  split at p
  rotate_left
  · exact p.elim
  rename_i n hn
  have ev := dStrs_rps (r1.mono g2.f) hss
  obtain ⟨i1, i2⟩ := idxS_ok hn
  have s2 : SqL X.K H2 a vs := s1.mono g2.h
  rw [ev] at s2
  refine ⟨a, ss.map V.str, y, n, .str s, rfl, rfl, s2, by rw [r2.str_inv]; rfl, ?_, by rw [List.getElem?_map, i1]; rfl, by rw [r2.str_inv]; exact beq_self_eq_true s, fun m z' hm hz => ?_, p _ F2 H2 (g1.trans g2) rp_int⟩
  · rw [List.all_map]; exact List.all_eq_true.mpr fun _ _ => rfl
  · rw [List.getElem?_map] at hz
    cases q : ss[m]? with
    | none => rw [q] at hz; cases hz
    | some w =>
      rw [q] at hz; cases hz
      rw [r2.str_inv]
      have := i2 m w hm q
      show (w == s) = false
      simpa using this
/-- == where empty dicts may stand -/
def dEqK (x y : D) : R D := match x, y with
  | .dk [] [], .dk [] [] => .ok (.bl true)
  | x, y => dEq x y
def rEqK (K : PySem.W.Frag) : R2 := fun x y H Q => (rEq x y H Q ∨ rEqD K x y H Q) ∨ (∃ a b kvs, x = .ref a ∧ y = .ref b ∧ H a = some (.dK kvs) ∧ H b = some (.dK kvs) ∧ (kvs.map (·.1)).Nodup ∧ (∀ p ∈ kvs, flatB p.2 = true) ∧ Q (.bl true) H)
theorem op2_eqK : Op2 K cl (rEqK K) dEqK := by
  intro W σ F H x y dx dy Q e rx ry p
  unfold dEqK at p
  split at p
  · unfold Rp at rx ry
    obtain ⟨a, vs, rfl, h1, h2, h3⟩ := rx
    obtain ⟨b, us, rfl, k1, k2, k3⟩ := ry
    have hv : vs = [] := h3.nil_inv
    have hu : us = [] := k3.nil_inv
    subst hv; subst hu
    exact .inr ⟨a, b, [], rfl, rfl, e _ _ h1, e _ _ k1, List.nodup_nil, fun p hp => (nomatch hp), post_ok p e rp_bl⟩
  · exact .inl (op2_eq W σ F H x y _ _ Q e rx ry p)
theorem c_eqK (hu : X.A.units + 64 < cLine) : Cmp X cl .Eq (rEqK X.K) dEqK := ⟨OpR.or (op_eqA hu) (op_eq_dict (by omega)), op2_eqK⟩
end
end UP
namespace UP
open PySem L2 PyProof.Rows
/-! ### == of lists that are not alike in length -/
section
variable {K : PySem.W.Frag} {X : Cx} {cl : Str → Option Addr} {W : WX}
def rEqLen (K : PySem.W.Frag) : R2 := fun x y H Q => ∃ a b xs ys, x = .ref a ∧ y = .ref b ∧ SqL K H a xs ∧ SqL K H b ys ∧ xs.length ≠ ys.length ∧ Q (.bl false) H
theorem op_eqLen (hu : X.A.units < cLine) : OpR X (compareOp .Eq) (rEqLen X.K) := by
  intro pins s σ H x y v u Q I rx ry h
  obtain ⟨a, b, xs, ys, rfl, rfl, hA, hB, hne, q⟩ := h
  cases rx
  cases ry
  obtain ⟨its, r, p1, hl⟩ := I.list hA
  obtain ⟨its2, r2, p2, hl2⟩ := I.list hB
  obtain ⟨o, n, ho, hc, hdn, hd⟩ := p1
  obtain ⟨o2, n2, ho2, hc2, hdn2, hd2⟩ := p2
  have z1 := r.length
  have z2 := r2.length
  exact SeqAt.eq_list_lengthsAt (items := its.toArray) (items2 := its2.toArray) ⟨o, ho, hc, n, hd⟩ ⟨o2, ho2, hc2, n2, hd2⟩ (by simp; omega) hu ⟨.bl _, H, I, rfl, q⟩
def dEqN (x y : D) : R D := match x, y with
  | .lst xs, .lst ys => if xs.length = ys.length then dEq (.lst xs) (.lst ys) else .ok (.bl false)
  | x, y => dEq x y
def rEqN (K : PySem.W.Frag) : R2 := fun x y H Q => (rEq x y H Q ∨ rEqD K x y H Q) ∨ rEqLen K x y H Q
theorem op2_eqN : Op2 K cl (rEqN K) dEqN := by
  intro W σ F H x y dx dy Q e rx ry p
  unfold dEqN at p
  split at p
  · rename_i xs ys
    by_cases hl : xs.length = ys.length
    · rw [if_pos hl] at p
      exact .inl (op2_eq W σ F H x y _ _ Q e rx ry p)
    · rw [if_neg hl] at p
      unfold Rp at rx ry
      obtain ⟨a, vs, rfl, h1, h2⟩ := rx
      obtain ⟨b, us, rfl, k1, k2⟩ := ry
      exact .inr ⟨a, b, vs, us, rfl, rfl, ex_l e h1, ex_l e k1, by rw [h2.length, k2.length]; exact hl, post_ok p e rp_bl⟩
  · exact .inl (op2_eq W σ F H x y _ _ Q e rx ry p)
theorem c_eqN (hu : X.A.units + 64 < cLine) : Cmp X cl .Eq (rEqN X.K) dEqN := ⟨OpR.or (op_eqA hu) (op_eqLen (by omega)), op2_eqN⟩
end
end UP
namespace UP
open PySem L2 PyProof.Rows
/-! ### a text so many times -/
section
variable {K : PySem.W.Frag} {X : Cx} {cl : Str → Option Addr} {W : WX} {a b : Expr} {ta tb : TE} {ma mb : En → R D} {pos : Pos}
def mulStr (x : Str) (n : Nat) : Str := ⟨(List.replicate n x.cps).foldl (· ++ ·) #[]⟩
def rMulS : R2 := fun x y H Q => ∃ (z : Str) (n : Int), x = .str z ∧ y = .int n ∧ 2 ≤ n ∧ n ≤ 1000 ∧ 1 ≤ z.length ∧ z.length ≤ 1000 ∧ Q (.str (mulStr z n.toNat)) H
theorem op_mulS : OpR X (binaryOp .Mult) rMulS := by
  intro pins s σ H x y v u Q I rx ry h
  obtain ⟨z, n, rfl, rfl, n2, n3, z1, z2, q⟩ := h
  obtain ⟨t, rfl⟩ := rx
  obtain ⟨t', rfl⟩ := ry
  have h1 : ¬ n < 1 := by omega
  have h2 : (n == 1 || z.length == 0) = false := by
    rw [Bool.or_eq_false_iff]
    exact ⟨by simp; omega, by simp; omega⟩
  have hm : z.length * n.toNat ≤ 1000 * 1000 := Nat.mul_le_mul z2 (by omega)
  have htl : Builtin.Str.tooLong (z.length * n.toNat) = false := by
    have e := sizeLine_eq
    exact decide_eq_false (by omega)
  refine PySem.P.mul_str ?_ (fun _ _ => ?_) (fun _ _ => ?_) ?_
  · rw [Bool.or_eq_false_iff]
    exact ⟨decide_eq_false (by omega), decide_eq_false (by omega)⟩
  · have : (1000 : Int) ≤ (2 ^ 63 - 1) / n := by
      have h3 : n * 1000 ≤ 2 ^ 63 - 1 := by
        have : n * 1000 ≤ 1000 * 1000 := Int.mul_le_mul_of_nonneg_right n3 (by decide)
        omega
      exact (Int.le_ediv_iff_mul_le (by omega)).mpr (by rw [Int.mul_comm]; exact h3)
    omega
  · exact htl
  · rw [if_neg h1, if_neg (by rw [h2]; decide)]
    exact ⟨fits_reps htl, .str (mulStr z n.toNat), H, I.tok _, ⟨_, rfl⟩, q⟩
def dMulS : D → D → R D
  | .str z, .int n => if 2 ≤ n ∧ n ≤ 1000 ∧ 1 ≤ z.length ∧ z.length ≤ 1000 then .ok (.str (mulStr z n.toNat)) else .st
  | _, _ => .st
theorem op2_mulS : Op2 K cl rMulS dMulS := by
  intro W σ F H x y dx dy Q e rx ry p
  unfold dMulS at p
  split at p
  · rename_i z n
    split at p
    · rename_i h
      exact ⟨z, n, rx.str_inv, ry.int_inv, h.1, h.2.1, h.2.2.1, h.2.2.2, post_ok p e rp_str⟩
    · exact False.elim p
  · exact False.elim p
theorem ue_mulS (ha : UE X cl W a ta ma) (hb : UE X cl W b tb mb) : UE X cl W (.BinOp a .Mult b pos) (tOp rMulS ta tb) (d2 dMulS ma mb) := ue_op op_mulS op2_mulS ha hb
end
end UP
namespace Lw
open PySem L2 UP PyProof.Rows
/-! ## the mirrors -/
noncomputable section
def b__law_cell : En → Fl D := (fSeq (fIf (d1 dBl (d2 dLt (dVar 1) (d1 bLenL (dLv 0)))) (fRet (d2 dMod (d2 dIx (dLv 0) (dVar 1)) (d2 dPow (dC (.int 10)) (dC (.int 60))))) fNext)
  (fSeq (fIf (d1 dBl (d2 dEq (dVar 0) (d1 dFz (d1 dMkL dNil)))) (fRet (d2 dAdd (d2 dMul (dC (.int 7919)) (dVar 1)) (dC (.int 5)))) fNext)
  (fRet (d2 dMod (d2 dMul (d2 dAdd (d2 dMod (d2 dIx (dLv 0) (d2 dMod (dVar 1) (d1 bLenL (dLv 0)))) (dC (.int 1000003))) (d2 dMul (dC (.int 613)) (dVar 1))) (d2 dAdd (dC (.int 48271)) (d2 dMul (dC (.int 2)) (dVar 1)))) (dC (.int 2147483647))))))
theorem e_b__law_cell (ρ : En) : b__law_cell ρ = fThen ((fIf (d1 dBl (d2 dLt (dVar 1) (d1 bLenL (dLv 0)))) (fRet (d2 dMod (d2 dIx (dLv 0) (dVar 1)) (d2 dPow (dC (.int 10)) (dC (.int 60))))) fNext) ρ) (fSeq (fIf (d1 dBl (d2 dEq (dVar 0) (d1 dFz (d1 dMkL dNil)))) (fRet (d2 dAdd (d2 dMul (dC (.int 7919)) (dVar 1)) (dC (.int 5)))) fNext)
  (fRet (d2 dMod (d2 dMul (d2 dAdd (d2 dMod (d2 dIx (dLv 0) (d2 dMod (dVar 1) (d1 bLenL (dLv 0)))) (dC (.int 1000003))) (d2 dMul (dC (.int 613)) (dVar 1))) (d2 dAdd (dC (.int 48271)) (d2 dMul (dC (.int 2)) (dVar 1)))) (dC (.int 2147483647))))) := id rfl
def m__law_cell : List D → R D := runV 2 b__law_cell
theorem e_m__law_cell (ds : List D) : m__law_cell ds = flV (b__law_cell (startE 2 ds)) := runV_ap _ _ _
def x__law_word_1 : En → Fl D := fWb [1, 4, 5] (fSeq (fAsg (gTupD 2 (gsCons (gSet 0) (gsCons (gSet 5) gsNil))) (d1 bDivmod (dCons (dVar 0) (dCons (dC (.int 26)) dNil))))
  (fSet 3 (d2 dAdd (dVar 3) (d2 dIxS (dVar 2) (dVar 5)))))
theorem e_x__law_word_1 (ρ : En) : x__law_word_1 ρ = (fWb [1, 4, 5] (fSeq (fAsg (gTupD 2 (gsCons (gSet 0) (gsCons (gSet 5) gsNil))) (d1 bDivmod (dCons (dVar 0) (dCons (dC (.int 26)) dNil))))
  (fSet 3 (d2 dAdd (dVar 3) (d2 dIxS (dVar 2) (dVar 5)))))) ρ := id rfl
def c__law_word_3 : En → Fl D := (fRet (dVar 3))
theorem e_c__law_word_3 (ρ : En) : c__law_word_3 ρ = ((fRet (dVar 3))) ρ := id rfl
def c__law_word_2 : En → Fl D := (fSeq (fFor [1, 4, 5] (d1 dRng1 (dCons (dVar 1) dNil)) (gSet 4) x__law_word_1)
  c__law_word_3)
theorem e_c__law_word_2 (ρ : En) : c__law_word_2 ρ = fThen ((fFor [1, 4, 5] (d1 dRng1 (dCons (dVar 1) dNil)) (gSet 4) x__law_word_1) ρ) c__law_word_3 := id rfl
def c__law_word_1 : En → Fl D := (fSeq (fSet 3 (dC (.str (PySem.Str.ofString ""))))
  c__law_word_2)
theorem e_c__law_word_1 (ρ : En) : c__law_word_1 ρ = fThen ((fSet 3 (dC (.str (PySem.Str.ofString "")))) ρ) c__law_word_2 := id rfl
def b__law_word : En → Fl D := (fSeq (fSet 2 (dC (.str (PySem.Str.ofString "abcdefghijklmnopqrstuvwxyz"))))
  c__law_word_1)
theorem e_b__law_word (ρ : En) : b__law_word ρ = fThen ((fSet 2 (dC (.str (PySem.Str.ofString "abcdefghijklmnopqrstuvwxyz")))) ρ) c__law_word_1 := id rfl
def m__law_word : List D → R D := runV 6 b__law_word
theorem e_m__law_word (ds : List D) : m__law_word ds = flV (b__law_word (startE 6 ds)) := runV_ap _ _ _
def x__law_names_1 : En → R D := (dSlS (dVar 4) dNoPart (d1 dInt (d2 dAdd (dVar 8) (dC (.int 1)))))
theorem e_x__law_names_1 (ρ : En) : x__law_names_1 ρ = ((dSlS (dVar 4) dNoPart (d1 dInt (d2 dAdd (dVar 8) (dC (.int 1)))))) ρ := id rfl
def x__law_names_2 : En → Fl DO := fWb [0, 1, 2, 8, 9, 10] (fSeq (fSet 10 (d1 m__law_word (dCons (d2 dAdd (d2 dMod (d2 dFdiv (dVar 3) (dC (.int 64))) (dC (.int 26))) (d2 dMul (dVar 8) (d2 dAdd (dC (.int 1)) (d2 dMod (d2 dFdiv (dVar 3) (dC (.int 1664))) (dC (.int 4)))))) (dCons (dC (.int 1)) dNil))))
  (fApp 7 (dX (d2 dAdd (d2 dAdd (dSlS (dVar 4) dNoPart (d1 dInt (dVar 6))) (dVar 10)) (dSlS (dVar 4) (d1 dInt (d2 dAdd (dVar 6) (dC (.int 1)))) (d1 dInt (dVar 5)))))))
theorem e_x__law_names_2 (ρ : En) : x__law_names_2 ρ = (fWb [0, 1, 2, 8, 9, 10] (fSeq (fSet 10 (d1 m__law_word (dCons (d2 dAdd (d2 dMod (d2 dFdiv (dVar 3) (dC (.int 64))) (dC (.int 26))) (d2 dMul (dVar 8) (d2 dAdd (dC (.int 1)) (d2 dMod (d2 dFdiv (dVar 3) (dC (.int 1664))) (dC (.int 4)))))) (dCons (dC (.int 1)) dNil))))
  (fApp 7 (dX (d2 dAdd (d2 dAdd (dSlS (dVar 4) dNoPart (d1 dInt (dVar 6))) (dVar 10)) (dSlS (dVar 4) (d1 dInt (d2 dAdd (dVar 6) (dC (.int 1)))) (d1 dInt (dVar 5)))))))) ρ := id rfl
def c__law_names_9 : En → Fl DO := (fRetO 7)
theorem e_c__law_names_9 (ρ : En) : c__law_names_9 ρ = ((fRetO 7)) ρ := id rfl
def c__law_names_8 : En → Fl DO := (fSeq (fFor [0, 1, 2, 8, 9, 10] (d1 dRng1 (dCons (dVar 1) dNil)) (gSet 8) x__law_names_2)
  c__law_names_9)
theorem e_c__law_names_8 (ρ : En) : c__law_names_8 ρ = fThen ((fFor [0, 1, 2, 8, 9, 10] (d1 dRng1 (dCons (dVar 1) dNil)) (gSet 8) x__law_names_2) ρ) c__law_names_9 := id rfl
def c__law_names_7 : En → Fl DO := (fSeq (fSetN 7 (d1 dMkL dNil))
  c__law_names_8)
theorem e_c__law_names_7 (ρ : En) : c__law_names_7 ρ = fThen ((fSetN 7 (d1 dMkL dNil)) ρ) c__law_names_8 := id rfl
def c__law_names_6 : En → Fl DO := (fSeq (fSet 6 (d2 dMod (d2 dFdiv (dVar 3) (dC (.int 8))) (dVar 5)))
  c__law_names_7)
theorem e_c__law_names_6 (ρ : En) : c__law_names_6 ρ = fThen ((fSet 6 (d2 dMod (d2 dFdiv (dVar 3) (dC (.int 8))) (dVar 5))) ρ) c__law_names_7 := id rfl
def c__law_names_5 : En → Fl DO := (fSeq (fSet 5 (d2 dAdd (dC (.int 1)) (d2 dMod (dVar 3) (dC (.int 8)))))
  c__law_names_6)
theorem e_c__law_names_5 (ρ : En) : c__law_names_5 ρ = fThen ((fSet 5 (d2 dAdd (dC (.int 1)) (d2 dMod (dVar 3) (dC (.int 8))))) ρ) c__law_names_6 := id rfl
def c__law_names_4 : En → Fl DO := (fSeq (fIf (d1 dBl (d2 dEq (dVar 2) (dC (.int 1)))) (fSeq (fSet 9 (d1 dFz (d2 dRep (d1 dMkL (dCons (dC (.str (PySem.Str.ofString "up"))) (dCons (dC (.str (PySem.Str.ofString "to"))) (dCons (dC (.str (PySem.Str.ofString "of"))) (dCons (dC (.str (PySem.Str.ofString "for"))) (dCons (dC (.str (PySem.Str.ofString "each"))) (dCons (dC (.str (PySem.Str.ofString "any"))) (dCons (dC (.str (PySem.Str.ofString "one"))) (dCons (dC (.str (PySem.Str.ofString "nothing"))) dNil))))))))) (dC (.int 2)))))
  (fRetN (dSl (dLv 9) (d1 dInt (d2 dMod (dVar 3) (dC (.int 8)))) (d1 dInt (d2 dAdd (d2 dMod (dVar 3) (dC (.int 8))) (dVar 1)))))) fNext)
  c__law_names_5)
theorem e_c__law_names_4 (ρ : En) : c__law_names_4 ρ = fThen ((fIf (d1 dBl (d2 dEq (dVar 2) (dC (.int 1)))) (fSeq (fSet 9 (d1 dFz (d2 dRep (d1 dMkL (dCons (dC (.str (PySem.Str.ofString "up"))) (dCons (dC (.str (PySem.Str.ofString "to"))) (dCons (dC (.str (PySem.Str.ofString "of"))) (dCons (dC (.str (PySem.Str.ofString "for"))) (dCons (dC (.str (PySem.Str.ofString "each"))) (dCons (dC (.str (PySem.Str.ofString "any"))) (dCons (dC (.str (PySem.Str.ofString "one"))) (dCons (dC (.str (PySem.Str.ofString "nothing"))) dNil))))))))) (dC (.int 2)))))
  (fRetN (dSl (dLv 9) (d1 dInt (d2 dMod (dVar 3) (dC (.int 8)))) (d1 dInt (d2 dAdd (d2 dMod (dVar 3) (dC (.int 8))) (dVar 1)))))) fNext) ρ) c__law_names_5 := id rfl
def c__law_names_3 : En → Fl DO := (fSeq (fIf (d1 dBl (d2 dEq (dVar 2) (dC (.int 0)))) (fSeq (fSetN 7 (dLc [8] (d1 dRng1 (dCons (dVar 1) dNil)) (gSet 8) dYes x__law_names_1))
  (fSeq (fIf (d1 dBl (d2 dEq (d2 dMod (dVar 3) (dC (.int 2))) (dC (.int 0)))) (fSetN 7 (d1 (fun q => if q.1 = true then .ok (.lst q.2.reverse) else .st) (dLv 7))) fNext)
  (fRetO 7))) fNext)
  c__law_names_4)
theorem e_c__law_names_3 (ρ : En) : c__law_names_3 ρ = fThen ((fIf (d1 dBl (d2 dEq (dVar 2) (dC (.int 0)))) (fSeq (fSetN 7 (dLc [8] (d1 dRng1 (dCons (dVar 1) dNil)) (gSet 8) dYes x__law_names_1))
  (fSeq (fIf (d1 dBl (d2 dEq (d2 dMod (dVar 3) (dC (.int 2))) (dC (.int 0)))) (fSetN 7 (d1 (fun q => if q.1 = true then .ok (.lst q.2.reverse) else .st) (dLv 7))) fNext)
  (fRetO 7))) fNext) ρ) c__law_names_4 := id rfl
def c__law_names_2 : En → Fl DO := (fSeq (fSet 4 (d1 m__law_word (dCons (d1 m__law_cell (dCons (dVar 0) (dCons (dC (.int 2)) dNil))) (dCons (dC (.int 8)) dNil))))
  c__law_names_3)
theorem e_c__law_names_2 (ρ : En) : c__law_names_2 ρ = fThen ((fSet 4 (d1 m__law_word (dCons (d1 m__law_cell (dCons (dVar 0) (dCons (dC (.int 2)) dNil))) (dCons (dC (.int 8)) dNil)))) ρ) c__law_names_3 := id rfl
def c__law_names_1 : En → Fl DO := (fSeq (fSet 3 (d1 m__law_cell (dCons (dVar 0) (dCons (dC (.int 3)) dNil))))
  c__law_names_2)
theorem e_c__law_names_1 (ρ : En) : c__law_names_1 ρ = fThen ((fSet 3 (d1 m__law_cell (dCons (dVar 0) (dCons (dC (.int 3)) dNil)))) ρ) c__law_names_2 := id rfl
def b__law_names : En → Fl DO := (fSeq (fSet 2 (d2 dMod (d1 m__law_cell (dCons (dVar 0) (dCons (dC (.int 1)) dNil))) (dC (.int 4))))
  c__law_names_1)
theorem e_b__law_names (ρ : En) : b__law_names ρ = fThen ((fSet 2 (d2 dMod (d1 m__law_cell (dCons (dVar 0) (dCons (dC (.int 1)) dNil))) (dC (.int 4)))) ρ) c__law_names_1 := id rfl
def m__law_names : List D → R DO := runN 11 b__law_names
theorem e_m__law_names (ds : List D) : m__law_names ds = flN (b__law_names (startE 11 ds)) := runN_ap _ _ _
def b__law_odd : En → Fl D := (fSeq (fSet 1 (d1 dFz (d1 dMkL (dCons (dC (.str (PySem.Str.ofString ""))) (dCons (dC (.str (PySem.Str.ofString "abcdefghi"))) (dCons (dC (.str (PySem.Str.ofString "A"))) (dCons (dC (.str (PySem.Str.ofString "aB"))) (dCons (dC (.str (PySem.Str.ofString "a b"))) (dCons (dC (.str (PySem.Str.ofString "a1"))) (dCons (dC (.str (PySem.Str.ofString "a+b"))) (dCons (dC (.str (PySem.Str.ofString "=a"))) (dCons (dC (.str (PySem.Str.ofString "a\n"))) (dCons (dC (.str (PySem.Str.ofString " "))) (dCons (dC (.str (PySem.Str.ofString "1"))) (dCons (dC (.str (PySem.Str.ofString "abcdefgh "))) (dCons (dC (.str (PySem.Str.ofString "a-"))) (dCons (d2 dMulS (dC (.str (PySem.Str.ofString "a"))) (dC (.int 60))) dNil)))))))))))))))))
  (fSeq (fSet 1 (d2 dAdd (dVar 1) (d1 dFz (d1 dMkL (dCons (dC .non) (dCons (dC (.int 5)) (dCons (dC (.bl true)) (dCons (d1 dFz (d1 dMkL (dCons (dC (.str (PySem.Str.ofString "a"))) dNil))) (dCons (d1 dMkT (dCons (dC (.str (PySem.Str.ofString "a"))) dNil)) (dCons (d1 dFz dD0) (dCons (dC (.int 0)) (dCons (dC (.bl false)) dNil))))))))))))
  (fRet (d2 dIx (dLv 1) (d2 dMod (dVar 0) (dC (.int 22)))))))
theorem e_b__law_odd (ρ : En) : b__law_odd ρ = fThen ((fSet 1 (d1 dFz (d1 dMkL (dCons (dC (.str (PySem.Str.ofString ""))) (dCons (dC (.str (PySem.Str.ofString "abcdefghi"))) (dCons (dC (.str (PySem.Str.ofString "A"))) (dCons (dC (.str (PySem.Str.ofString "aB"))) (dCons (dC (.str (PySem.Str.ofString "a b"))) (dCons (dC (.str (PySem.Str.ofString "a1"))) (dCons (dC (.str (PySem.Str.ofString "a+b"))) (dCons (dC (.str (PySem.Str.ofString "=a"))) (dCons (dC (.str (PySem.Str.ofString "a\n"))) (dCons (dC (.str (PySem.Str.ofString " "))) (dCons (dC (.str (PySem.Str.ofString "1"))) (dCons (dC (.str (PySem.Str.ofString "abcdefgh "))) (dCons (dC (.str (PySem.Str.ofString "a-"))) (dCons (d2 dMulS (dC (.str (PySem.Str.ofString "a"))) (dC (.int 60))) dNil))))))))))))))))) ρ) (fSeq (fSet 1 (d2 dAdd (dVar 1) (d1 dFz (d1 dMkL (dCons (dC .non) (dCons (dC (.int 5)) (dCons (dC (.bl true)) (dCons (d1 dFz (d1 dMkL (dCons (dC (.str (PySem.Str.ofString "a"))) dNil))) (dCons (d1 dMkT (dCons (dC (.str (PySem.Str.ofString "a"))) dNil)) (dCons (d1 dFz dD0) (dCons (dC (.int 0)) (dCons (dC (.bl false)) dNil))))))))))))
  (fRet (d2 dIx (dLv 1) (d2 dMod (dVar 0) (dC (.int 22)))))) := id rfl
def m__law_odd : List D → R D := runV 2 b__law_odd
theorem e_m__law_odd (ds : List D) : m__law_odd ds = flV (b__law_odd (startE 2 ds)) := runV_ap _ _ _
def c__law_spoilt_4 : En → Fl DO := (fRetO 3)
theorem e_c__law_spoilt_4 (ρ : En) : c__law_spoilt_4 ρ = ((fRetO 3)) ρ := id rfl
def c__law_spoilt_3 : En → Fl DO := (fSeq (fIf (d1 dBl (d2 dEq (dVar 4) (dC (.int 0)))) (fSetItem 3 (dVar 1) (d1 dMkT (dCons (dVar 5) (dCons (d1 m__law_odd (dCons (d2 dFdiv (dVar 2) (dC (.int 4))) dNil)) dNil)))) (fIf (dAnd (d1 dBl (d2 dEq (dVar 4) (dC (.int 1)))) (d1 dBl (d2 dGt (dVar 1) (dC (.int 0))))) (fSetItem 3 (dVar 1) (d1 dMkT (dCons (d2 dIx (d1 dSq (d2 dIx (dLv 3) (d2 dMod (d2 dFdiv (dVar 2) (dC (.int 4))) (dVar 1)))) (dC (.int 0))) (dCons (dVar 6) dNil)))) (fSetItem 3 (dVar 1) (d1 dMkT (dCons (d1 m__law_odd (dCons (d2 dFdiv (dVar 2) (dC (.int 4))) dNil)) (dCons (dVar 6) dNil))))))
  c__law_spoilt_4)
theorem e_c__law_spoilt_3 (ρ : En) : c__law_spoilt_3 ρ = fThen ((fIf (d1 dBl (d2 dEq (dVar 4) (dC (.int 0)))) (fSetItem 3 (dVar 1) (d1 dMkT (dCons (dVar 5) (dCons (d1 m__law_odd (dCons (d2 dFdiv (dVar 2) (dC (.int 4))) dNil)) dNil)))) (fIf (dAnd (d1 dBl (d2 dEq (dVar 4) (dC (.int 1)))) (d1 dBl (d2 dGt (dVar 1) (dC (.int 0))))) (fSetItem 3 (dVar 1) (d1 dMkT (dCons (d2 dIx (d1 dSq (d2 dIx (dLv 3) (d2 dMod (d2 dFdiv (dVar 2) (dC (.int 4))) (dVar 1)))) (dC (.int 0))) (dCons (dVar 6) dNil)))) (fSetItem 3 (dVar 1) (d1 dMkT (dCons (d1 m__law_odd (dCons (d2 dFdiv (dVar 2) (dC (.int 4))) dNil)) (dCons (dVar 6) dNil)))))) ρ) c__law_spoilt_4 := id rfl
def c__law_spoilt_2 : En → Fl DO := (fSeq (fSet 4 (d2 dMod (dVar 2) (dC (.int 4))))
  c__law_spoilt_3)
theorem e_c__law_spoilt_2 (ρ : En) : c__law_spoilt_2 ρ = fThen ((fSet 4 (d2 dMod (dVar 2) (dC (.int 4)))) ρ) c__law_spoilt_3 := id rfl
def c__law_spoilt_1 : En → Fl DO := (fSeq (fAsg (gTupD 2 (gsCons (gSet 5) (gsCons (gSet 6) gsNil))) (d2 dIx (dLv 3) (dVar 1)))
  c__law_spoilt_2)
theorem e_c__law_spoilt_1 (ρ : En) : c__law_spoilt_1 ρ = fThen ((fAsg (gTupD 2 (gsCons (gSet 5) (gsCons (gSet 6) gsNil))) (d2 dIx (dLv 3) (dVar 1))) ρ) c__law_spoilt_2 := id rfl
def b__law_spoilt : En → Fl DO := (fSeq (fSetN 3 (d1 bListL (dLv 0)))
  c__law_spoilt_1)
theorem e_b__law_spoilt (ρ : En) : b__law_spoilt ρ = fThen ((fSetN 3 (d1 bListL (dLv 0))) ρ) c__law_spoilt_1 := id rfl
def m__law_spoilt : List D → R DO := runN 7 b__law_spoilt
theorem e_m__law_spoilt (ds : List D) : m__law_spoilt ds = flN (b__law_spoilt (startE 7 ds)) := runN_ap _ _ _
def x__law_good_1 : En → R D := (dVar 1)
theorem e_x__law_good_1 (ρ : En) : x__law_good_1 ρ = ((dVar 1)) ρ := id rfl
def x__law_good_2 : En → R Bool := (d1 dBl (d2 dNotInS (dVar 1) (dC (.str (PySem.Str.ofString "abcdefghijklmnopqrstuvwxyz")))))
theorem e_x__law_good_2 (ρ : En) : x__law_good_2 ρ = ((d1 dBl (d2 dNotInS (dVar 1) (dC (.str (PySem.Str.ofString "abcdefghijklmnopqrstuvwxyz")))))) ρ := id rfl
def b__law_good : En → Fl D := (fSeq (fIf (dOr (dNot (d1 dBl (d1 (isK .str) (dVar 0)))) (dOr (d1 dBl (d2 dEq (d1 bLen (dCons (dVar 0) dNil)) (dC (.int 0)))) (d1 dBl (d2 dGt (d1 bLen (dCons (dVar 0) dNil)) (dC (.int 8)))))) (fRet (dC (.bl false))) fNext)
  (fRet (d2 dEq (d1 dFz (dLc [1] (d1 dIt (dVar 0)) (gSet 1) x__law_good_2 x__law_good_1)) (d1 dFz (d1 dMkL dNil)))))
theorem e_b__law_good (ρ : En) : b__law_good ρ = fThen ((fIf (dOr (dNot (d1 dBl (d1 (isK .str) (dVar 0)))) (dOr (d1 dBl (d2 dEq (d1 bLen (dCons (dVar 0) dNil)) (dC (.int 0)))) (d1 dBl (d2 dGt (d1 bLen (dCons (dVar 0) dNil)) (dC (.int 8)))))) (fRet (dC (.bl false))) fNext) ρ) (fRet (d2 dEq (d1 dFz (dLc [1] (d1 dIt (dVar 0)) (gSet 1) x__law_good_2 x__law_good_1)) (d1 dFz (d1 dMkL dNil)))) := id rfl
def m__law_good : List D → R D := runV 2 b__law_good
theorem e_m__law_good (ds : List D) : m__law_good ds = flV (b__law_good (startE 2 ds)) := runV_ap _ _ _
def x__law_fault_1 : En → Fl DO := fWb [0, 2, 3] (fSeq (fIf (dOr (dNot (d1 dBl (d1 m__law_good (dCons (dVar 2) dNil)))) (d1 dBl (d2 dIn (dVar 2) (dLv 1)))) (fRetN (d1 dMkL (dCons (dVar 2) dNil))) fNext)
  (fSeq (fIf (dNot (d1 dBl (d1 m__law_good (dCons (dVar 3) dNil)))) (fRetN (d1 dMkL (dCons (dVar 3) dNil))) fNext)
  (fApp 1 (dX (dVar 2)))))
theorem e_x__law_fault_1 (ρ : En) : x__law_fault_1 ρ = (fWb [0, 2, 3] (fSeq (fIf (dOr (dNot (d1 dBl (d1 m__law_good (dCons (dVar 2) dNil)))) (d1 dBl (d2 dIn (dVar 2) (dLv 1)))) (fRetN (d1 dMkL (dCons (dVar 2) dNil))) fNext)
  (fSeq (fIf (dNot (d1 dBl (d1 m__law_good (dCons (dVar 3) dNil)))) (fRetN (d1 dMkL (dCons (dVar 3) dNil))) fNext)
  (fApp 1 (dX (dVar 2)))))) ρ := id rfl
def b__law_fault : En → Fl DO := (fSeq (fSetN 1 (d1 dMkL dNil))
  (fSeq (fFor [0, 2, 3] (d1 dIt (dVar 0)) (gTupD 2 (gsCons (gSet 2) (gsCons (gSet 3) gsNil))) x__law_fault_1)
  (fRetN (d1 dMkL dNil))))
theorem e_b__law_fault (ρ : En) : b__law_fault ρ = fThen ((fSetN 1 (d1 dMkL dNil)) ρ) (fSeq (fFor [0, 2, 3] (d1 dIt (dVar 0)) (gTupD 2 (gsCons (gSet 2) (gsCons (gSet 3) gsNil))) x__law_fault_1)
  (fRetN (d1 dMkL dNil))) := id rfl
def m__law_fault : List D → R DO := runN 4 b__law_fault
theorem e_m__law_fault (ds : List D) : m__law_fault ds = flN (b__law_fault (startE 4 ds)) := runN_ap _ _ _
def b_Stock_names : En → Fl DO := (fRetN (d1 bListL (d1 dSq (d1 (dFld [(PySem.Str.ofString "Stock")] (PySem.Str.ofString "called")) (dVar 0)))))
theorem e_b_Stock_names (ρ : En) : b_Stock_names ρ = ((fRetN (d1 bListL (d1 dSq (d1 (dFld [(PySem.Str.ofString "Stock")] (PySem.Str.ofString "called")) (dVar 0)))))) ρ := id rfl
def m_Stock_names : List D → R DO := runN 1 b_Stock_names
theorem e_m_Stock_names (ds : List D) : m_Stock_names ds = flN (b_Stock_names (startE 1 ds)) := runN_ap _ _ _
def m_G_names : List D → R DO := disp [((PySem.Str.ofString "Stock"), m_Stock_names)]
theorem e_m_G_names_Stock (ns : List Str) (xs r : List D) : m_G_names (.obj (PySem.Str.ofString "Stock") ns xs :: r) = m_Stock_names (.obj (PySem.Str.ofString "Stock") ns xs :: r) := disp_eq dispAt_eq ns xs r
def x_is_name_1 : En → R D := (d2 dInS (dVar 1) (dC (.str (PySem.Str.ofString "abcdefghijklmnopqrstuvwxyz"))))
theorem e_x_is_name_1 (ρ : En) : x_is_name_1 ρ = ((d2 dInS (dVar 1) (dC (.str (PySem.Str.ofString "abcdefghijklmnopqrstuvwxyz"))))) ρ := id rfl
def b_is_name : En → Fl D := (fSeq (fIf (dOr (dNot (d1 dBl (d1 (isK .str) (dVar 0)))) (dOr (d1 dBl (d2 dLt (d1 bLen (dCons (dVar 0) dNil)) (dC (.int 1)))) (d1 dBl (d2 dGt (d1 bLen (dCons (dVar 0) dNil)) (dC (.int 8)))))) (fRet (dC (.bl false))) fNext)
  (fRet (d1 bAll (d1 dOl (dLc [1] (d1 dIt (dVar 0)) (gSet 1) dYes x_is_name_1)))))
theorem e_b_is_name (ρ : En) : b_is_name ρ = fThen ((fIf (dOr (dNot (d1 dBl (d1 (isK .str) (dVar 0)))) (dOr (d1 dBl (d2 dLt (d1 bLen (dCons (dVar 0) dNil)) (dC (.int 1)))) (d1 dBl (d2 dGt (d1 bLen (dCons (dVar 0) dNil)) (dC (.int 8)))))) (fRet (dC (.bl false))) fNext) ρ) (fRet (d1 bAll (d1 dOl (dLc [1] (d1 dIt (dVar 0)) (gSet 1) dYes x_is_name_1)))) := id rfl
def m_is_name : List D → R D := runV 2 b_is_name
theorem e_m_is_name (ds : List D) : m_is_name ds = flV (b_is_name (startE 2 ds)) := runV_ap _ _ _
def x_Stock___init___1 : En → Fl D := fWb [1, 2, 3] (fSeq (fIf (dOr (dNot (d1 dBl (d1 m_is_name (dCons (dVar 2) dNil)))) (dPkT [0] (d1 dBl (d2 dIn (dVar 2) (d1 dSq (d1 (dFld [(PySem.Str.ofString "Stock")] (PySem.Str.ofString "called")) (dVar 0))))))) (fRaiseI (PySem.Str.ofString "NoName") (PySem.Str.ofString "name") (dCons (dVar 2) dNil)) fNext)
  (fSeq (fIf (dNot (d1 dBl (d1 m_is_name (dCons (dVar 3) dNil)))) (fRaiseI (PySem.Str.ofString "NoName") (PySem.Str.ofString "name") (dCons (dVar 3) dNil)) fNext)
  (fSeq (fFldApp [(PySem.Str.ofString "Stock")] 0 (PySem.Str.ofString "called") (dVar 2))
  (fFldApp [(PySem.Str.ofString "Stock")] 0 (PySem.Str.ofString "sorts") (dVar 3)))))
theorem e_x_Stock___init___1 (ρ : En) : x_Stock___init___1 ρ = (fWb [1, 2, 3] (fSeq (fIf (dOr (dNot (d1 dBl (d1 m_is_name (dCons (dVar 2) dNil)))) (dPkT [0] (d1 dBl (d2 dIn (dVar 2) (d1 dSq (d1 (dFld [(PySem.Str.ofString "Stock")] (PySem.Str.ofString "called")) (dVar 0))))))) (fRaiseI (PySem.Str.ofString "NoName") (PySem.Str.ofString "name") (dCons (dVar 2) dNil)) fNext)
  (fSeq (fIf (dNot (d1 dBl (d1 m_is_name (dCons (dVar 3) dNil)))) (fRaiseI (PySem.Str.ofString "NoName") (PySem.Str.ofString "name") (dCons (dVar 3) dNil)) fNext)
  (fSeq (fFldApp [(PySem.Str.ofString "Stock")] 0 (PySem.Str.ofString "called") (dVar 2))
  (fFldApp [(PySem.Str.ofString "Stock")] 0 (PySem.Str.ofString "sorts") (dVar 3)))))) ρ := id rfl
def c_Stock___init___3 : En → Fl D := (fFor [1, 2, 3] (d1 dIt (dVar 1)) (gTupD 2 (gsCons (gSet 2) (gsCons (gSet 3) gsNil))) x_Stock___init___1)
theorem e_c_Stock___init___3 (ρ : En) : c_Stock___init___3 ρ = ((fFor [1, 2, 3] (d1 dIt (dVar 1)) (gTupD 2 (gsCons (gSet 2) (gsCons (gSet 3) gsNil))) x_Stock___init___1)) ρ := id rfl
def c_Stock___init___2 : En → Fl D := (fSeq (fSetFldQ [(PySem.Str.ofString "Stock")] 0 (PySem.Str.ofString "sorts") (d1 dTn (d1 dMkL dNil)))
  c_Stock___init___3)
theorem e_c_Stock___init___2 (ρ : En) : c_Stock___init___2 ρ = fThen ((fSetFldQ [(PySem.Str.ofString "Stock")] 0 (PySem.Str.ofString "sorts") (d1 dTn (d1 dMkL dNil))) ρ) c_Stock___init___3 := id rfl
def c_Stock___init___1 : En → Fl D := (fSeq (fSetFldQ [(PySem.Str.ofString "Stock")] 0 (PySem.Str.ofString "called") (d1 dTn (d1 dMkL dNil)))
  c_Stock___init___2)
theorem e_c_Stock___init___1 (ρ : En) : c_Stock___init___1 ρ = fThen ((fSetFldQ [(PySem.Str.ofString "Stock")] 0 (PySem.Str.ofString "called") (d1 dTn (d1 dMkL dNil))) ρ) c_Stock___init___2 := id rfl
def b_Stock___init__ : En → Fl D := (fSeq (fIf (d1 dBl (d2 dGt (d1 bLenL (dLv 1)) (dC (.int 6)))) (fRaiseI (PySem.Str.ofString "TooMany") (PySem.Str.ofString "number") (dCons (d1 bLenL (dLv 1)) dNil)) fNext)
  c_Stock___init___1)
theorem e_b_Stock___init__ (ρ : En) : b_Stock___init__ ρ = fThen ((fIf (d1 dBl (d2 dGt (d1 bLenL (dLv 1)) (dC (.int 6)))) (fRaiseI (PySem.Str.ofString "TooMany") (PySem.Str.ofString "number") (dCons (d1 bLenL (dLv 1)) dNil)) fNext) ρ) c_Stock___init___1 := id rfl
def m_Stock___init__ : Str → List D → R D := runI 4 b_Stock___init__
theorem e_m_Stock___init__ (c : Str) (ds : List D) : m_Stock___init__ c ds = flI (b_Stock___init__ (startI c 4 ds)) := runI_ap _ _ _ _
def x_J_Stock___init___1 : En → Fl D := fWb [2, 3] (fSeq (fIf (dOr (dNot (d1 dBl (d1 m_is_name (dCons (dVar 2) dNil)))) (dPkT [0] (d1 dBl (d2 dIn (dVar 2) (d1 dSq (d1 (dFld [(PySem.Str.ofString "Stock")] (PySem.Str.ofString "called")) (dVar 0))))))) (fRaiseI (PySem.Str.ofString "NoName") (PySem.Str.ofString "name") (dCons (dVar 2) dNil)) fNext)
  (fSeq (fIf (dNot (d1 dBl (d1 m_is_name (dCons (dVar 3) dNil)))) (fRaiseI (PySem.Str.ofString "NoName") (PySem.Str.ofString "name") (dCons (dVar 3) dNil)) fNext)
  (fSeq (fFldApp [(PySem.Str.ofString "Stock")] 0 (PySem.Str.ofString "called") (dVar 2))
  (fFldApp [(PySem.Str.ofString "Stock")] 0 (PySem.Str.ofString "sorts") (dVar 3)))))
theorem e_x_J_Stock___init___1 (ρ : En) : x_J_Stock___init___1 ρ = (fWb [2, 3] (fSeq (fIf (dOr (dNot (d1 dBl (d1 m_is_name (dCons (dVar 2) dNil)))) (dPkT [0] (d1 dBl (d2 dIn (dVar 2) (d1 dSq (d1 (dFld [(PySem.Str.ofString "Stock")] (PySem.Str.ofString "called")) (dVar 0))))))) (fRaiseI (PySem.Str.ofString "NoName") (PySem.Str.ofString "name") (dCons (dVar 2) dNil)) fNext)
  (fSeq (fIf (dNot (d1 dBl (d1 m_is_name (dCons (dVar 3) dNil)))) (fRaiseI (PySem.Str.ofString "NoName") (PySem.Str.ofString "name") (dCons (dVar 3) dNil)) fNext)
  (fSeq (fFldApp [(PySem.Str.ofString "Stock")] 0 (PySem.Str.ofString "called") (dVar 2))
  (fFldApp [(PySem.Str.ofString "Stock")] 0 (PySem.Str.ofString "sorts") (dVar 3)))))) ρ := id rfl
def c_J_Stock___init___3 : En → Fl D := (fForO 1 [2, 3] (gTupD 2 (gsCons (gSet 2) (gsCons (gSet 3) gsNil))) x_J_Stock___init___1)
theorem e_c_J_Stock___init___3 (ρ : En) : c_J_Stock___init___3 ρ = ((fForO 1 [2, 3] (gTupD 2 (gsCons (gSet 2) (gsCons (gSet 3) gsNil))) x_J_Stock___init___1)) ρ := id rfl
def c_J_Stock___init___2 : En → Fl D := (fSeq (fSetFldQ [(PySem.Str.ofString "Stock")] 0 (PySem.Str.ofString "sorts") (d1 dTn (d1 dMkL dNil)))
  c_J_Stock___init___3)
theorem e_c_J_Stock___init___2 (ρ : En) : c_J_Stock___init___2 ρ = fThen ((fSetFldQ [(PySem.Str.ofString "Stock")] 0 (PySem.Str.ofString "sorts") (d1 dTn (d1 dMkL dNil))) ρ) c_J_Stock___init___3 := id rfl
def c_J_Stock___init___1 : En → Fl D := (fSeq (fSetFldQ [(PySem.Str.ofString "Stock")] 0 (PySem.Str.ofString "called") (d1 dTn (d1 dMkL dNil)))
  c_J_Stock___init___2)
theorem e_c_J_Stock___init___1 (ρ : En) : c_J_Stock___init___1 ρ = fThen ((fSetFldQ [(PySem.Str.ofString "Stock")] 0 (PySem.Str.ofString "called") (d1 dTn (d1 dMkL dNil))) ρ) c_J_Stock___init___2 := id rfl
def b_J_Stock___init__ : En → Fl D := (fSeq (fIf (d1 dBl (d2 dGt (d1 bLenL (dLv 1)) (dC (.int 6)))) (fRaiseI (PySem.Str.ofString "TooMany") (PySem.Str.ofString "number") (dCons (d1 bLenL (dLv 1)) dNil)) fNext)
  c_J_Stock___init___1)
theorem e_b_J_Stock___init__ (ρ : En) : b_J_Stock___init__ ρ = fThen ((fIf (d1 dBl (d2 dGt (d1 bLenL (dLv 1)) (dC (.int 6)))) (fRaiseI (PySem.Str.ofString "TooMany") (PySem.Str.ofString "number") (dCons (d1 bLenL (dLv 1)) dNil)) fNext) ρ) c_J_Stock___init___1 := id rfl
def m_J_Stock___init__ : Str → DO → R (D × DO) := runJ 4 b_J_Stock___init__
theorem e_m_J_Stock___init__ (c : Str) (o : DO) : m_J_Stock___init__ c o = flJ (b_J_Stock___init__ (startJ c 4 o)) := runJ_ap _ _ _ _
def b__law_taken : En → Fl D := (fRet (d2 dEq (d1 dFz (dMeth (PySem.Str.ofString "names") [(PySem.Str.ofString "Stock")] m_G_names (dMake (PySem.Str.ofString "Stock") m_Stock___init__ (dCons (dVar 0) dNil)) dNil)) (dVar 1)))
theorem e_b__law_taken (ρ : En) : b__law_taken ρ = ((fRet (d2 dEq (d1 dFz (dMeth (PySem.Str.ofString "names") [(PySem.Str.ofString "Stock")] m_G_names (dMake (PySem.Str.ofString "Stock") m_Stock___init__ (dCons (dVar 0) dNil)) dNil)) (dVar 1)))) ρ := id rfl
def m__law_taken : List D → R D := runV 2 b__law_taken
theorem e_m__law_taken (ds : List D) : m__law_taken ds = flV (b__law_taken (startE 2 ds)) := runV_ap _ _ _
def b_H__law_same (q : Addr × Addr) (x : Exc) : En → Fl D := (fRet (dAndV (d2 dEqK (d1 (isK .bool) (dVar 0)) (d1 (isK .bool) (dVar 1))) (d2 dEqK (dVar 0) (dVar 1))))
theorem e_b_H__law_same (q : Addr × Addr) (x : Exc) (ρ : En) : b_H__law_same q x ρ = ((fRet (dAndV (d2 dEqK (d1 (isK .bool) (dVar 0)) (d1 (isK .bool) (dVar 1))) (d2 dEqK (dVar 0) (dVar 1))))) ρ := id rfl
def m_H__law_same (q : Addr × Addr) (x : Exc) : List D → R D := runH 2 (b_H__law_same q x)
theorem e_m_H__law_same (q : Addr × Addr) (x : Exc) (ds : List D) : m_H__law_same q x ds = flH (b_H__law_same q x (startE 2 ds)) := runH_ap _ _ _
def b_H__law_other (q : Addr × Addr) (x : Exc) : En → Fl D := (fSeq (fIf (d1 dBl (d1 (isE q x [((PySem.Str.ofString "NoName"), false), ((PySem.Str.ofString "TooMany"), false)]) (dVar 0))) (fRet (dC (.bl true))) fNext)
  (fRet (d1 (isE q x [((PySem.Str.ofString "NoName"), false), ((PySem.Str.ofString "TooMany"), false)]) (dVar 0))))
theorem e_b_H__law_other (q : Addr × Addr) (x : Exc) (ρ : En) : b_H__law_other q x ρ = fThen ((fIf (d1 dBl (d1 (isE q x [((PySem.Str.ofString "NoName"), false), ((PySem.Str.ofString "TooMany"), false)]) (dVar 0))) (fRet (dC (.bl true))) fNext) ρ) (fRet (d1 (isE q x [((PySem.Str.ofString "NoName"), false), ((PySem.Str.ofString "TooMany"), false)]) (dVar 0))) := id rfl
def m_H__law_other (q : Addr × Addr) (x : Exc) : List D → R D := runH 1 (b_H__law_other q x)
theorem e_m_H__law_other (q : Addr × Addr) (x : Exc) (ds : List D) : m_H__law_other q x ds = flH (b_H__law_other q x (startE 1 ds)) := runH_ap _ _ _
def b__law_refused : En → Fl D := (fSeq (fTry 2 [((PySem.Str.ofString "NoName"), true), ((PySem.Str.ofString "TooMany"), false)] (fExpr (dMake (PySem.Str.ofString "Stock") m_Stock___init__ (dCons (dVar 0) dNil))) (fun q x => (fSeq (fSet 3 (dAndV (d1 (isE q x [((PySem.Str.ofString "NoName"), true), ((PySem.Str.ofString "TooMany"), true)]) (dVar 2)) (dAndV (d1 (isE q x [((PySem.Str.ofString "NoName"), true), ((PySem.Str.ofString "TooMany"), true)]) (dVar 2)) (dNotV (d1 (m_H__law_other q x) (dCons (dVar 2) dNil))))))
  (fRet (dAndV (dVar 3) (dAndV (dNotV (d1 (isE q x [((PySem.Str.ofString "NoName"), false), ((PySem.Str.ofString "TooMany"), true)]) (dVar 2))) (d1 (m_H__law_same q x) (dCons (d1 (fldE q x [(PySem.Str.ofString "NoName")] (PySem.Str.ofString "name")) (dVar 2)) (dCons (dVar 1) dNil)))))))))
  (fRet (dC (.bl false))))
theorem e_b__law_refused (ρ : En) : b__law_refused ρ = fThen ((fTry 2 [((PySem.Str.ofString "NoName"), true), ((PySem.Str.ofString "TooMany"), false)] (fExpr (dMake (PySem.Str.ofString "Stock") m_Stock___init__ (dCons (dVar 0) dNil))) (fun q x => (fSeq (fSet 3 (dAndV (d1 (isE q x [((PySem.Str.ofString "NoName"), true), ((PySem.Str.ofString "TooMany"), true)]) (dVar 2)) (dAndV (d1 (isE q x [((PySem.Str.ofString "NoName"), true), ((PySem.Str.ofString "TooMany"), true)]) (dVar 2)) (dNotV (d1 (m_H__law_other q x) (dCons (dVar 2) dNil))))))
  (fRet (dAndV (dVar 3) (dAndV (dNotV (d1 (isE q x [((PySem.Str.ofString "NoName"), false), ((PySem.Str.ofString "TooMany"), true)]) (dVar 2))) (d1 (m_H__law_same q x) (dCons (d1 (fldE q x [(PySem.Str.ofString "NoName")] (PySem.Str.ofString "name")) (dVar 2)) (dCons (dVar 1) dNil))))))))) ρ) (fRet (dC (.bl false))) := id rfl
def m__law_refused : List D → R D := runV 4 b__law_refused
theorem e_m__law_refused (ds : List D) : m__law_refused ds = flV (b__law_refused (startE 4 ds)) := runV_ap _ _ _
def b__law_by_base : En → Fl D := (fSeq (fTryO [((PySem.Str.ofString "NoName"), true), ((PySem.Str.ofString "TooMany"), true)] (fExpr (dMake (PySem.Str.ofString "Stock") m_Stock___init__ (dCons (dVar 0) dNil))) (fRet (dC (.bl true))))
  (fRet (dC (.bl false))))
theorem e_b__law_by_base (ρ : En) : b__law_by_base ρ = fThen ((fTryO [((PySem.Str.ofString "NoName"), true), ((PySem.Str.ofString "TooMany"), true)] (fExpr (dMake (PySem.Str.ofString "Stock") m_Stock___init__ (dCons (dVar 0) dNil))) (fRet (dC (.bl true)))) ρ) (fRet (dC (.bl false))) := id rfl
def m__law_by_base : List D → R D := runV 1 b__law_by_base
theorem e_m__law_by_base (ds : List D) : m__law_by_base ds = flV (b__law_by_base (startE 1 ds)) := runV_ap _ _ _
def b__law_too_many : En → Fl D := (fSeq (fTry 1 [((PySem.Str.ofString "NoName"), false), ((PySem.Str.ofString "TooMany"), true)] (fExpr (dMake (PySem.Str.ofString "Stock") m_Stock___init__ (dCons (dVar 0) dNil))) (fun q x => (fSeq (fSet 2 (dAndV (d1 (isE q x [((PySem.Str.ofString "NoName"), true), ((PySem.Str.ofString "TooMany"), true)]) (dVar 1)) (dAndV (d1 (isE q x [((PySem.Str.ofString "NoName"), true), ((PySem.Str.ofString "TooMany"), true)]) (dVar 1)) (dNotV (d1 (m_H__law_other q x) (dCons (dVar 1) dNil))))))
  (fRet (dAndV (dVar 2) (dAndV (dNotV (d1 (isE q x [((PySem.Str.ofString "NoName"), true), ((PySem.Str.ofString "TooMany"), false)]) (dVar 1))) (d1 (m_H__law_same q x) (dCons (d1 (fldE q x [(PySem.Str.ofString "TooMany")] (PySem.Str.ofString "number")) (dVar 1)) (dCons (d1 bLenL (dLv 0)) dNil)))))))))
  (fRet (dC (.bl false))))
theorem e_b__law_too_many (ρ : En) : b__law_too_many ρ = fThen ((fTry 1 [((PySem.Str.ofString "NoName"), false), ((PySem.Str.ofString "TooMany"), true)] (fExpr (dMake (PySem.Str.ofString "Stock") m_Stock___init__ (dCons (dVar 0) dNil))) (fun q x => (fSeq (fSet 2 (dAndV (d1 (isE q x [((PySem.Str.ofString "NoName"), true), ((PySem.Str.ofString "TooMany"), true)]) (dVar 1)) (dAndV (d1 (isE q x [((PySem.Str.ofString "NoName"), true), ((PySem.Str.ofString "TooMany"), true)]) (dVar 1)) (dNotV (d1 (m_H__law_other q x) (dCons (dVar 1) dNil))))))
  (fRet (dAndV (dVar 2) (dAndV (dNotV (d1 (isE q x [((PySem.Str.ofString "NoName"), true), ((PySem.Str.ofString "TooMany"), false)]) (dVar 1))) (d1 (m_H__law_same q x) (dCons (d1 (fldE q x [(PySem.Str.ofString "TooMany")] (PySem.Str.ofString "number")) (dVar 1)) (dCons (d1 bLenL (dLv 0)) dNil))))))))) ρ) (fRet (dC (.bl false))) := id rfl
def m__law_too_many : List D → R D := runV 3 b__law_too_many
theorem e_m__law_too_many (ds : List D) : m__law_too_many ds = flV (b__law_too_many (startE 3 ds)) := runV_ap _ _ _
def x__law_kinds_1 : En → R D := (d2 dIx (dLv 2) (d2 dMod (d2 dFdiv (d1 m__law_cell (dCons (dVar 0) (dCons (dC (.int 5)) dNil))) (d2 dAdd (dC (.int 1)) (d2 dMul (dVar 3) (dVar 3)))) (dC (.int 3))))
theorem e_x__law_kinds_1 (ρ : En) : x__law_kinds_1 ρ = ((d2 dIx (dLv 2) (d2 dMod (d2 dFdiv (d1 m__law_cell (dCons (dVar 0) (dCons (dC (.int 5)) dNil))) (d2 dAdd (dC (.int 1)) (d2 dMul (dVar 3) (dVar 3)))) (dC (.int 3))))) ρ := id rfl
def b__law_kinds : En → Fl DO := (fSeq (fSet 2 (d1 dFz (d1 dMkL (dCons (d1 m__law_word (dCons (d1 m__law_cell (dCons (dVar 0) (dCons (dC (.int 4)) dNil))) (dCons (d2 dAdd (dC (.int 1)) (d2 dMod (d1 m__law_cell (dCons (dVar 0) (dCons (dC (.int 4)) dNil))) (dC (.int 8)))) dNil))) (dCons (d2 dIx (d1 dSq (d2 dAdd (dVar 1) (d1 dFz (d1 dMkL (dCons (dC (.str (PySem.Str.ofString "any"))) dNil))))) (dC (.int 0))) (dCons (dC (.str (PySem.Str.ofString "one"))) dNil))))))
  (fRetN (dLc [3] (d1 dRng1 (dCons (d1 bLenL (dLv 1)) dNil)) (gSet 3) dYes x__law_kinds_1)))
theorem e_b__law_kinds (ρ : En) : b__law_kinds ρ = fThen ((fSet 2 (d1 dFz (d1 dMkL (dCons (d1 m__law_word (dCons (d1 m__law_cell (dCons (dVar 0) (dCons (dC (.int 4)) dNil))) (dCons (d2 dAdd (dC (.int 1)) (d2 dMod (d1 m__law_cell (dCons (dVar 0) (dCons (dC (.int 4)) dNil))) (dC (.int 8)))) dNil))) (dCons (d2 dIx (d1 dSq (d2 dAdd (dVar 1) (d1 dFz (d1 dMkL (dCons (dC (.str (PySem.Str.ofString "any"))) dNil))))) (dC (.int 0))) (dCons (dC (.str (PySem.Str.ofString "one"))) dNil)))))) ρ) (fRetN (dLc [3] (d1 dRng1 (dCons (d1 bLenL (dLv 1)) dNil)) (gSet 3) dYes x__law_kinds_1)) := id rfl
def m__law_kinds : List D → R DO := runN 4 b__law_kinds
theorem e_m__law_kinds (ds : List D) : m__law_kinds ds = flN (b__law_kinds (startE 4 ds)) := runN_ap _ _ _
def x_law_1 : En → R D := (d1 dMkT (dCons (dVar 9) (dCons (dVar 10) dNil)))
theorem e_x_law_1 (ρ : En) : x_law_1 ρ = ((d1 dMkT (dCons (dVar 9) (dCons (dVar 10) dNil)))) ρ := id rfl
def x_law_2 : En → R D := (d1 dMkT (dCons (d1 m__law_word (dCons (d2 dAdd (d2 dMul (dVar 8) (dC (.int 31))) (dC (.int 7))) (dCons (dC (.int 3)) dNil))) (dCons (dC (.str (PySem.Str.ofString "k"))) dNil)))
theorem e_x_law_2 (ρ : En) : x_law_2 ρ = ((d1 dMkT (dCons (d1 m__law_word (dCons (d2 dAdd (d2 dMul (dVar 8) (dC (.int 31))) (dC (.int 7))) (dCons (dC (.int 3)) dNil))) (dCons (dC (.str (PySem.Str.ofString "k"))) dNil)))) ρ := id rfl
def c_law_12 : En → Fl D := (fRet (dAndV (d1 m__law_taken (dCons (d1 dFz (dSl (dLv 7) dNoPart (d1 dInt (dC (.int 0))))) (dCons (d1 dFz (d1 dMkL dNil)) dNil))) (d1 m__law_taken (dCons (dVar 2) (dCons (dVar 1) dNil)))))
theorem e_c_law_12 (ρ : En) : c_law_12 ρ = ((fRet (dAndV (d1 m__law_taken (dCons (d1 dFz (dSl (dLv 7) dNoPart (d1 dInt (dC (.int 0))))) (dCons (d1 dFz (d1 dMkL dNil)) dNil))) (d1 m__law_taken (dCons (dVar 2) (dCons (dVar 1) dNil)))))) ρ := id rfl
def c_law_11 : En → Fl D := (fSeq (fFrz 7 (fIf (dOr (dNot (d1 dBl (d1 m__law_too_many (dCons (dVar 7) dNil)))) (dNot (d1 dBl (d1 m__law_by_base (dCons (dVar 7) dNil))))) (fRet (dC (.bl false))) fNext))
  c_law_12)
theorem e_c_law_11 (ρ : En) : c_law_11 ρ = fThen ((fFrz 7 (fIf (dOr (dNot (d1 dBl (d1 m__law_too_many (dCons (dVar 7) dNil)))) (dNot (d1 dBl (d1 m__law_by_base (dCons (dVar 7) dNil))))) (fRet (dC (.bl false))) fNext)) ρ) c_law_12 := id rfl
def c_law_10 : En → Fl D := (fSeq (fIf (d1 dBl (d2 dEqN (d2 dMod (d1 m__law_cell (dCons (dVar 0) (dCons (dC (.int 11)) dNil))) (dC (.int 2))) (dC (.int 0)))) (fSetItem 7 (d2 dMod (d2 dFdiv (d1 m__law_cell (dCons (dVar 0) (dCons (dC (.int 11)) dNil))) (dC (.int 2))) (dVar 6)) (d1 dMkT (dCons (d1 m__law_odd (dCons (d1 m__law_cell (dCons (dVar 0) (dCons (dC (.int 12)) dNil))) dNil)) (dCons (d1 m__law_odd (dCons (d1 m__law_cell (dCons (dVar 0) (dCons (dC (.int 9)) dNil))) dNil)) dNil)))) fNext)
  c_law_11)
theorem e_c_law_10 (ρ : En) : c_law_10 ρ = fThen ((fIf (d1 dBl (d2 dEqN (d2 dMod (d1 m__law_cell (dCons (dVar 0) (dCons (dC (.int 11)) dNil))) (dC (.int 2))) (dC (.int 0)))) (fSetItem 7 (d2 dMod (d2 dFdiv (d1 m__law_cell (dCons (dVar 0) (dCons (dC (.int 11)) dNil))) (dC (.int 2))) (dVar 6)) (d1 dMkT (dCons (d1 m__law_odd (dCons (d1 m__law_cell (dCons (dVar 0) (dCons (dC (.int 12)) dNil))) dNil)) (dCons (d1 m__law_odd (dCons (d1 m__law_cell (dCons (dVar 0) (dCons (dC (.int 9)) dNil))) dNil)) dNil)))) fNext) ρ) c_law_11 := id rfl
def c_law_9 : En → Fl D := (fSeq (fSetN 7 (dLc [8] (d1 dRng1 (dCons (dVar 6) dNil)) (gSet 8) dYes x_law_2))
  c_law_10)
theorem e_c_law_9 (ρ : En) : c_law_9 ρ = fThen ((fSetN 7 (dLc [8] (d1 dRng1 (dCons (dVar 6) dNil)) (gSet 8) dYes x_law_2)) ρ) c_law_10 := id rfl
def c_law_8 : En → Fl D := (fSeq (fSet 6 (d2 dAdd (dC (.int 7)) (d2 dMod (d1 m__law_cell (dCons (dVar 0) (dCons (dC (.int 10)) dNil))) (dC (.int 54)))))
  c_law_9)
theorem e_c_law_8 (ρ : En) : c_law_8 ρ = fThen ((fSet 6 (d2 dAdd (dC (.int 7)) (d2 dMod (d1 m__law_cell (dCons (dVar 0) (dCons (dC (.int 10)) dNil))) (dC (.int 54))))) ρ) c_law_9 := id rfl
def c_law_7 : En → Fl D := (fSeq (fIf (dOr (dNot (d1 dBl (d1 m__law_refused (dCons (dVar 5) (dCons (d2 dIx (dLv 4) (dC (.int 0))) dNil))))) (dOr (dNot (d1 dBl (d1 m__law_by_base (dCons (dVar 3) dNil)))) (d1 dBl (d2 dNe (d1 bLenL (dLv 5)) (d1 bLenL (dLv 3)))))) (fRet (dC (.bl false))) fNext)
  c_law_8)
theorem e_c_law_7 (ρ : En) : c_law_7 ρ = fThen ((fIf (dOr (dNot (d1 dBl (d1 m__law_refused (dCons (dVar 5) (dCons (d2 dIx (dLv 4) (dC (.int 0))) dNil))))) (dOr (dNot (d1 dBl (d1 m__law_by_base (dCons (dVar 3) dNil)))) (d1 dBl (d2 dNe (d1 bLenL (dLv 5)) (d1 bLenL (dLv 3)))))) (fRet (dC (.bl false))) fNext) ρ) c_law_8 := id rfl
def c_law_6 : En → Fl D := (fSeq (fSet 5 (d1 dFz (d1 bListL (dLv 3))))
  c_law_7)
theorem e_c_law_6 (ρ : En) : c_law_6 ρ = fThen ((fSet 5 (d1 dFz (d1 bListL (dLv 3)))) ρ) c_law_7 := id rfl
def c_law_5 : En → Fl D := (fSeq (fIf (dOr (dNot (d1 dBl (d1 m__law_taken (dCons (dVar 2) (dCons (dVar 1) dNil))))) (d1 dBl (d2 dEqN (dVar 4) (d1 dFz (d1 dMkL dNil))))) (fRet (dC (.bl false))) fNext)
  c_law_6)
theorem e_c_law_5 (ρ : En) : c_law_5 ρ = fThen ((fIf (dOr (dNot (d1 dBl (d1 m__law_taken (dCons (dVar 2) (dCons (dVar 1) dNil))))) (d1 dBl (d2 dEqN (dVar 4) (d1 dFz (d1 dMkL dNil))))) (fRet (dC (.bl false))) fNext) ρ) c_law_6 := id rfl
def c_law_4 : En → Fl D := (fSeq (fSet 4 (d1 dFz (d1 m__law_fault (dCons (dVar 3) dNil))))
  c_law_5)
theorem e_c_law_4 (ρ : En) : c_law_4 ρ = fThen ((fSet 4 (d1 dFz (d1 m__law_fault (dCons (dVar 3) dNil)))) ρ) c_law_5 := id rfl
def c_law_3 : En → Fl D := (fSeq (fIf (d1 dBl (d2 dEqN (d2 dMod (d2 dFdiv (d1 m__law_cell (dCons (dVar 0) (dCons (dC (.int 6)) dNil))) (dC (.int 6))) (dC (.int 3))) (dC (.int 0)))) (fSet 3 (d1 dFz (d1 m__law_spoilt (dCons (dVar 3) (dCons (d2 dMod (d1 m__law_cell (dCons (dVar 0) (dCons (dC (.int 8)) dNil))) (d1 bLenL (dLv 2))) (dCons (d1 m__law_cell (dCons (dVar 0) (dCons (dC (.int 9)) dNil))) dNil)))))) fNext)
  c_law_4)
theorem e_c_law_3 (ρ : En) : c_law_3 ρ = fThen ((fIf (d1 dBl (d2 dEqN (d2 dMod (d2 dFdiv (d1 m__law_cell (dCons (dVar 0) (dCons (dC (.int 6)) dNil))) (dC (.int 6))) (dC (.int 3))) (dC (.int 0)))) (fSet 3 (d1 dFz (d1 m__law_spoilt (dCons (dVar 3) (dCons (d2 dMod (d1 m__law_cell (dCons (dVar 0) (dCons (dC (.int 8)) dNil))) (d1 bLenL (dLv 2))) (dCons (d1 m__law_cell (dCons (dVar 0) (dCons (dC (.int 9)) dNil))) dNil)))))) fNext) ρ) c_law_4 := id rfl
def c_law_2 : En → Fl D := (fSeq (fSet 3 (d1 dFz (d1 m__law_spoilt (dCons (dVar 2) (dCons (d2 dMod (d1 m__law_cell (dCons (dVar 0) (dCons (dC (.int 6)) dNil))) (d1 bLenL (dLv 2))) (dCons (d1 m__law_cell (dCons (dVar 0) (dCons (dC (.int 7)) dNil))) dNil))))))
  c_law_3)
theorem e_c_law_2 (ρ : En) : c_law_2 ρ = fThen ((fSet 3 (d1 dFz (d1 m__law_spoilt (dCons (dVar 2) (dCons (d2 dMod (d1 m__law_cell (dCons (dVar 0) (dCons (dC (.int 6)) dNil))) (d1 bLenL (dLv 2))) (dCons (d1 m__law_cell (dCons (dVar 0) (dCons (dC (.int 7)) dNil))) dNil)))))) ρ) c_law_3 := id rfl
def c_law_1 : En → Fl D := (fSeq (fSet 2 (d1 dFz (dLc [9, 10] (d1 dZip (dCons (dVar 1) (dCons (d1 dFz (d1 m__law_kinds (dCons (dVar 0) (dCons (dVar 1) dNil)))) dNil))) (gTupD 2 (gsCons (gSet 9) (gsCons (gSet 10) gsNil))) dYes x_law_1)))
  c_law_2)
theorem e_c_law_1 (ρ : En) : c_law_1 ρ = fThen ((fSet 2 (d1 dFz (dLc [9, 10] (d1 dZip (dCons (dVar 1) (dCons (d1 dFz (d1 m__law_kinds (dCons (dVar 0) (dCons (dVar 1) dNil)))) dNil))) (gTupD 2 (gsCons (gSet 9) (gsCons (gSet 10) gsNil))) dYes x_law_1))) ρ) c_law_2 := id rfl
def b_law : En → Fl D := (fSeq (fSet 1 (d1 dFz (d1 m__law_names (dCons (dVar 0) (dCons (d2 dAdd (dC (.int 1)) (d2 dMod (d1 m__law_cell (dCons (dVar 0) (dCons (dC (.int 0)) dNil))) (dC (.int 6)))) dNil)))))
  c_law_1)
theorem e_b_law (ρ : En) : b_law ρ = fThen ((fSet 1 (d1 dFz (d1 m__law_names (dCons (dVar 0) (dCons (d2 dAdd (dC (.int 1)) (d2 dMod (d1 m__law_cell (dCons (dVar 0) (dCons (dC (.int 0)) dNil))) (dC (.int 6)))) dNil))))) ρ) c_law_1 := id rfl
def m_law : List D → R D := runV 11 b_law
theorem e_m_law (ds : List D) : m_law ds = flV (b_law (startE 11 ds)) := runV_ap _ _ _
end
end Lw
namespace Lw
open PySem L2 UP PyProof.Rows
def cellV (ns : List Int) (k : Nat) : Int := if k < ns.length then ns[k]?.getD 0 % 10 ^ 60 else if ns = [] then 7919 * (k : Int) + 5 else (ns[k % ns.length]?.getD 0 % 1000003 + 613 * (k : Int)) * (48271 + 2 * (k : Int)) % 2147483647
theorem cellV_pos (ns : List Int) (k : Nat) : 0 ≤ cellV ns k := by
  unfold cellV
  split
  · exact Int.emod_nonneg _ (by decide)
  · split
    · omega
    · exact Int.emod_nonneg _ (by decide)
theorem at_ints (ns : List Int) {k : Nat} (h : k < ns.length) : atI (ns.map D.int) (k : Nat) = some (.int (ns[k]?.getD 0)) := by
  rw [atI_nat', List.getElem?_map, List.getElem?_eq_getElem h]; rfl
theorem cell_is (ns : List Int) (k : Nat) (hk : k ≤ 1000) : m__law_cell [.lst (ns.map .int), .int (k : Nat)] = .ok (.int (cellV ns k)) := by
  unfold cellV
  obtain ⟨b, hb, hiff⟩ := dEq_pl (n := 1) (x := .lst (ns.map .int)) (z := .lst []) (by decide) (pl_ints ns) rfl
  have hb' : b = decide (ns = []) := by
    rw [Bool.eq_iff_iff, hiff, decide_eq_true_iff]
    simp
  rw [hb'] at hb
  have h613 : (k : Int) < 18446744073709551616 := by omega
  by_cases h1 : k < ns.length
  · have ha := at_ints ns h1
    simp [e_m__law_cell, e_b__law_cell, h1, ha]
  · by_cases h2 : ns = []
    · have hm : dMul (.int 7919) (.int (k : Nat)) = .ok (.int (7919 * (k : Nat))) := dI_ok (mulA' _ (by omega) (by omega))
      simp only [h2, List.map_nil] at hb
      have hk0 : ¬ (k : Int) < 0 := by omega
      simp [e_m__law_cell, e_b__law_cell, h2, hm, hb, hk0, SZ]
    · have hl : 0 < ns.length := List.length_pos_iff.mpr h2
      have hmod : dMod (.int (k : Nat)) (.int (ns.length : Nat)) = .ok (.int ((k % ns.length : Nat) : Int)) := by
        have e2 : ((k % ns.length : Nat) : Int) = Int.fmod (k : Int) (ns.length : Int) := by
          rw [Int.fmod_eq_emod_of_nonneg _ (Int.natCast_nonneg _)]; rfl
        rw [e2]
        exact dI_ok (by omega)
      have ha := at_ints ns (Nat.mod_lt k hl)
      have ec : ((k % ns.length : Nat) : Int) = (k : Int) % (ns.length : Int) := Int.natCast_emod k ns.length
      rw [ec] at ha hmod
      generalize hx : ns[k % ns.length]?.getD 0 = x at *
      have hm1 : dMul (.int 613) (.int (k : Nat)) = .ok (.int (613 * (k : Nat))) := dI_ok (mulA' _ (by omega) (by omega))
      have hm2 : dMul (.int 2) (.int (k : Nat)) = .ok (.int (2 * (k : Nat))) := dI_ok (mulA' _ (by omega) (by omega))
      have hm3 : dMul (.int (x % 1000003 + 613 * (k : Nat))) (.int (48271 + 2 * (k : Nat))) = .ok (.int ((x % 1000003 + 613 * (k : Nat)) * (48271 + 2 * (k : Nat)))) := dI_ok (mulA' _ (by omega) (by omega))
      simp [e_m__law_cell, e_b__law_cell, h1, h2, hb, hmod, ha, hm1, hm2, hm3, SZ]

/-! ## texts as lists of signs -/
abbrev S (l : List Nat) : Str := ⟨l.toArray⟩
abbrev dS (l : List Nat) : D := .str (S l)
theorem S_len (l : List Nat) : (S l).length = l.length := by simp [PySem.Str.length]
theorem S_app (a b : List Nat) : S a ++ S b = S (a ++ b) := by
  show PySem.Str.append (S a) (S b) = S (a ++ b)
  simp [PySem.Str.append]
theorem S_inj {a b : List Nat} : S a = S b ↔ a = b := by
  constructor
  · intro h
    have : (S a).cps.toList = (S b).cps.toList := by rw [h]
    simpa using this
  · intro h; rw [h]
theorem S_eta (s : Str) : s = S s.cps.toList := by obtain ⟨⟨l⟩⟩ := s; rfl
abbrev lets : List Nat := [97, 98, 99, 100, 101, 102, 103, 104, 105, 106, 107, 108, 109, 110, 111, 112, 113, 114, 115, 116, 117, 118, 119, 120, 121, 122]
theorem lets_is : PySem.Str.ofString "abcdefghijklmnopqrstuvwxyz" = S lets := by decide +kernel
theorem empty_is : PySem.Str.ofString "" = S [] := by decide +kernel
theorem lets_mem (c : Nat) : c ∈ lets ↔ 97 ≤ c ∧ c ≤ 122 := by
  simp
  omega
theorem lets_at {k : Nat} (h : k < 26) : atI lets (k : Nat) = some (97 + k) := by
  rw [atI_nat']
  have : ∀ k, k < 26 → lets[k]? = some (97 + k) := by decide +kernel
  exact this k h
def good (l : List Nat) : Bool := decide (1 ≤ l.length) && decide (l.length ≤ 8) && l.all fun c => decide (97 ≤ c ∧ c ≤ 122)
theorem is_name_S (l : List Nat) (h : l.length ≤ 1000) : m_is_name [dS l] = .ok (.bl (good l)) := by
  have hl := S_len l
  have hz : (S l).length ≤ 16777216 := by rw [hl]; omega
  have hlc := dLc_all (ρ := [.val (dS l), .un]) (vs := [1]) (mi := d1 dIt (dVar 0)) (gm := gSet 1) (em := x_is_name_1) (fun c : Nat => D.str ⟨#[c]⟩) (fun c => .bl (decide (c ∈ lets))) l
    (by simp [dIt]) (sz_nat (by omega)) (fun c _ => ⟨_, rfl, by simp only [e_x_is_name_1, lets_is]; simp [-List.mem_cons, dInS_sign]⟩)
  have hb : bAll (true, l.map fun c => D.bl (decide (c ∈ lets))) = .ok (.bl (l.all fun c => decide (c ∈ lets))) := by
    have e : (l.map fun c => D.bl (decide (c ∈ lets))) = (l.map fun c => decide (c ∈ lets)).map D.bl := by rw [List.map_map]; rfl
    unfold bAll
    rw [if_pos rfl]
    show (match dBls (l.map fun c => D.bl (decide (c ∈ lets))) with
      | some bs => R.ok (D.bl (bs.all id))
      | none => .st) = _
    rw [e, dBls_map]
    show R.ok (D.bl ((l.map fun c => decide (c ∈ lets)).all id)) = _
    rw [List.all_map]
    rfl
  have he : (l.all fun c => decide (c ∈ lets)) = l.all fun c => decide (97 ≤ c ∧ c ≤ 122) := by
    congr 1
    funext c
    exact decide_eq_decide.mpr (lets_mem c)
  rw [he] at hb
  have hbl : bLen [dS l] = .ok (.int (l.length : Nat)) := by
    show (if (S l).length ≤ SZ then R.ok (D.int ((S l).length : Nat)) else .st) = _
    rw [if_pos (show (S l).length ≤ SZ from hz), hl]
  generalize (l.map fun c => D.bl (decide (c ∈ lets))) = V at *
  unfold good
  generalize (l.all fun c => decide (97 ≤ c ∧ c ≤ 122)) = A at *
  have hk : isK .str (dS l) = .ok (.bl true) := rfl
  generalize dS l = Y at *
  by_cases h1 : 1 ≤ l.length
  · by_cases h8 : l.length ≤ 8
    · have n1 : ¬ (l.length : Int) < 1 := by omega
      have n8 : ¬ (8 : Int) < (l.length : Int) := by omega
      simp [e_m_is_name, e_b_is_name, hk, hbl, n1, n8, hlc, hb, h1, h8]
    · have n1 : ¬ (l.length : Int) < 1 := by omega
      have n8 : (8 : Int) < (l.length : Int) := by omega
      simp [e_m_is_name, e_b_is_name, hk, hbl, n1, n8, h1, h8]
  · have n1 : (l.length : Int) < 1 := by omega
    simp [e_m_is_name, e_b_is_name, hk, hbl, n1, h1]
theorem is_name_no {d : D} (h : isK .str d = .ok (.bl false)) : m_is_name [d] = .ok (.bl false) := by
  simp [e_m_is_name, e_b_is_name, h]
/-- a word's signs -/
def wl (c : Nat) : Nat → List Nat
  | 0 => []
  | n + 1 => wl c n ++ [97 + c / 26 ^ n % 26]
theorem wl_len (c : Nat) : ∀ n, (wl c n).length = n
  | 0 => rfl
  | n + 1 => by unfold wl; rw [List.length_append, wl_len c n]; rfl
theorem wl_mem (c : Nat) : ∀ n, ∀ x ∈ wl c n, 97 ≤ x ∧ x ≤ 122
  | 0, x, h => nomatch h
  | n + 1, x, h => by
    unfold wl at h
    rcases List.mem_append.mp h with e | e
    · exact wl_mem c n x e
    · rw [List.mem_singleton.mp e]; omega
theorem good_of {l : List Nat} (h1 : 1 ≤ l.length) (h8 : l.length ≤ 8) (hm : ∀ x ∈ l, 97 ≤ x ∧ x ≤ 122) : good l = true := by
  unfold good
  rw [decide_eq_true h1, decide_eq_true h8, List.all_eq_true.mpr fun x hx => decide_eq_true (hm x hx)]; rfl
theorem good_facts {l : List Nat} (h : good l = true) : 1 ≤ l.length ∧ l.length ≤ 8 ∧ ∀ x ∈ l, 97 ≤ x ∧ x ≤ 122 := by
  unfold good at h
  rw [Bool.and_eq_true, Bool.and_eq_true] at h
  exact ⟨of_decide_eq_true h.1.1, of_decide_eq_true h.1.2, fun x hx => of_decide_eq_true (List.all_eq_true.mp h.2 x hx)⟩
theorem word_is (c n : Nat) (hn : n ≤ 100) : m__law_word [.int (c : Nat), .int (n : Nat)] = .ok (dS (wl c n)) := by
  obtain ⟨ρ', hl, rfl⟩ := fLoop_rng (α := D) (mg := gSet 4) (mb := x__law_word_1)
    (fun k ρ => ρ = [.val (.int ((c / 26 ^ k : Nat) : Int)), .un, .val (dS lets), .val (dS (wl c k)), .un, .un])
    n [.val (.int (c : Nat)), .un, .val (dS lets), .val (dS []), .un, .un] (by rw [Nat.pow_zero, Nat.div_one]; rfl) (by
    rintro k _ hk rfl
    generalize hx : c / 26 ^ k = x at *
    have hd := divmodS (n := 10) (i := (x : Int)) (j := 26) (by decide) (Sm.of 26 (by decide) (by decide)) (by decide) (by decide)
    have e1 : (x : Int) / 26 = ((x / 26 : Nat) : Int) := rfl
    have e2 : (x : Int) % 26 = ((x % 26 : Nat) : Int) := rfl
    rw [e1, e2] at hd
    have hat := lets_at (k := x % 26) (Nat.mod_lt _ (by decide))
    have hix : dIxS (dS lets) (.int ((x % 26 : Nat) : Int)) = .ok (dS [97 + x % 26]) := by
      show (if (S lets).length ≤ SZ then match atI (S lets).cps.toList ((x % 26 : Nat) : Int) with
        | some c => R.ok (D.str ⟨#[c]⟩)
        | none => .st else .st) = _
      rw [if_pos (by decide)]
      show (match atI lets ((x % 26 : Nat) : Int) with
        | some c => R.ok (D.str ⟨#[c]⟩)
        | none => .st) = _
      rw [hat]
    have hix' : dIxS (dS lets) (.int ((x : Int) % 26)) = .ok (dS [97 + x % 26]) := by rw [e2]; exact hix
    have hadd : dAdd (dS (wl c k)) (dS [97 + x % 26]) = .ok (dS (wl c k ++ [97 + x % 26])) := by
      show (if (S (wl c k)).length + (S [97 + x % 26]).length ≤ SZ then R.ok (D.str (S (wl c k) ++ S [97 + x % 26])) else .st) = _
      have hsz : k + [97 + x % 26].length ≤ SZ := by
        have : SZ = 16777216 := rfl
        rw [this]
        show k + 1 ≤ _
        omega
      rw [S_len, S_len, wl_len, if_pos hsz, S_app]
    have ew : wl c (k + 1) = wl c k ++ [97 + x % 26] := by rw [← hx]; rfl
    have ed : c / 26 ^ (k + 1) = x / 26 := by rw [← hx, Nat.pow_succ, Nat.div_div_eq_div_mul]
    refine ⟨_, _, rfl, .inl ?_, rfl⟩
    rw [ew, ed]
    generalize dS (wl c k ++ [97 + x % 26]) = W1 at *
    generalize dS (wl c k) = W0 at *
    generalize dS [97 + x % 26] = W2 at *
    generalize dS lets = LT at *
    simp [e_x__law_word_1, hd, hix', hadd, SZ])
  have hr : n < 4611686018427387904 := by omega
  rw [dRange_eq] at hl
  have hl : fLoop (α := D) (gSet 4) x__law_word_1 ((List.range n).map fun k : Nat => D.int (k : Nat)) [.val (.int (c : Nat)), .un, .val (dS lets), .val (dS []), .un, .un] = .nx [.val (.int ((c / 26 ^ n : Nat) : Int)), .un, .val (dS lets), .val (dS (wl c n)), .un, .un] := by
    have e : (List.range n).map (fun k : Nat => D.int (k : Nat)) = (List.range n).map fun k : Nat => D.int (0 + (k : Int)) := List.map_congr_left fun k _ => by rw [Int.zero_add]
    rw [e]; exact hl
  have hl : ∀ L0 E0 : Str, L0 = S lets → E0 = S [] → fLoop (α := D) (gSet 4) x__law_word_1 ((List.range n).map fun k : Nat => D.int (k : Nat)) [.val (.int (c : Nat)), .un, .val (.str L0), .val (.str E0), .un, .un] = .nx [.val (.int ((c / 26 ^ n : Nat) : Int)), .un, .val (.str L0), .val (dS (wl c n)), .un, .un] := fun L0 E0 h1 h2 => by
    rw [h1, h2]; exact hl
  have hl := hl _ _ lets_is empty_is
  generalize dS (wl c n) = WD at *
  simp [e_m__law_word, e_b__law_word, e_c__law_word_1, e_c__law_word_2, e_c__law_word_3, hr, hl]

/-! ## the names drawn -/
def w8 : List (List Nat) := [[117, 112], [116, 111], [111, 102], [102, 111, 114], [101, 97, 99, 104], [97, 110, 121], [111, 110, 101], [110, 111, 116, 104, 105, 110, 103]]
theorem w_up : PySem.Str.ofString "up" = S [117, 112] := by decide +kernel
theorem w_to : PySem.Str.ofString "to" = S [116, 111] := by decide +kernel
theorem w_of : PySem.Str.ofString "of" = S [111, 102] := by decide +kernel
theorem w_for : PySem.Str.ofString "for" = S [102, 111, 114] := by decide +kernel
theorem w_each : PySem.Str.ofString "each" = S [101, 97, 99, 104] := by decide +kernel
theorem w_any : PySem.Str.ofString "any" = S [97, 110, 121] := by decide +kernel
theorem w_one : PySem.Str.ofString "one" = S [111, 110, 101] := by decide +kernel
theorem w_nothing : PySem.Str.ofString "nothing" = S [110, 111, 116, 104, 105, 110, 103] := by decide +kernel
structure Names (m : Nat) (N : List (List Nat)) : Prop where
  ln : N.length = m
  ok : ∀ l ∈ N, good l = true
  nd : N.Nodup
theorem w16_ok : ∀ t, t < 8 → ∀ m, m ≤ 6 → (((w8 ++ w8).drop t).take m).length = m ∧ (((w8 ++ w8).drop t).take m).all good = true ∧ (((w8 ++ w8).drop t).take m).Nodup := by decide +kernel
theorem sIx_at (n d k : Nat) (h : k ≤ n) : HT.sIx n d (some (k : Int)) = k := by
  rw [HT.sIx_nat, Nat.min_eq_left h]
theorem cut_to {l : List Nat} {k : Nat} (h : k ≤ l.length) : cutS (S l) none (some (k : Int)) = S (l.take k) := by
  unfold cutS
  rw [S_len, sIx_at _ _ _ h, HT.sIx_none]
  simp
theorem cut_in {l : List Nat} {a b : Nat} (ha : a ≤ l.length) (hb : b ≤ l.length) : cutS (S l) (some (a : Int)) (some (b : Int)) = S ((l.drop a).take (b - a)) := by
  unfold cutS
  rw [S_len, sIx_at _ _ _ ha, sIx_at _ _ _ hb]
theorem dSlS_ap (ma : En → R D) (mo mh : En → R (Option Int)) (ρ : En) : dSlS ma mo mh ρ = (ma ρ).bind fun x => (mo ρ).bind fun l => (mh ρ).bind fun h => match x with
  | .str z => if z.length ≤ SZ then .ok (.str (cutS z l h)) else .st
  | _ => .st := id rfl
theorem add_S {a b : List Nat} (ha : a.length ≤ 1000) (hb : b.length ≤ 1000) : dAdd (dS a) (dS b) = .ok (dS (a ++ b)) := by
  show (if (S a).length + (S b).length ≤ SZ then R.ok (D.str (S a ++ S b)) else .st) = _
  have hsz : a.length + b.length ≤ SZ := by
    have : SZ = 16777216 := rfl
    rw [this]; omega
  rw [S_len, S_len, if_pos hsz, S_app]
theorem wl_one (c : Nat) : wl c 1 = [97 + c % 26] := by simp [wl]
theorem names_ex (ns : List Int) (m : Nat) (hm : m ≤ 6) : ∃ N : List (List Nat), m__law_names [.lst (ns.map .int), .int (m : Nat)] = .ok (.lst (N.map dS)) ∧ Names m N := by
  have hc : ∀ k : Nat, k ≤ 1000 → ∃ c : Nat, m__law_cell [.lst (ns.map .int), .int (k : Nat)] = .ok (.int (c : Nat)) := fun k hk => ⟨(cellV ns k).toNat, by rw [cell_is ns k hk, Int.toNat_of_nonneg (cellV_pos ns k)]⟩
  obtain ⟨c1, h1⟩ := hc 1 (by decide)
  obtain ⟨c2, h2⟩ := hc 2 (by decide)
  obtain ⟨c, h3⟩ := hc 3 (by decide)
  have h1 : m__law_cell [.lst (ns.map .int), .int 1] = .ok (.int (c1 : Nat)) := h1
  have h2 : m__law_cell [.lst (ns.map .int), .int 2] = .ok (.int (c2 : Nat)) := h2
  have h3 : m__law_cell [.lst (ns.map .int), .int 3] = .ok (.int (c : Nat)) := h3
  have hw := word_is c2 8 (by decide)
  have hw : m__law_word [.int (c2 : Nat), .int 8] = .ok (dS (wl c2 8)) := hw
  have hbl := wl_len c2 8
  have hbm := wl_mem c2 8
  generalize wl c2 8 = B at *
  have hr : m < 4611686018427387904 := by omega
  have hzB : (S B).length ≤ 16777216 := by rw [S_len, hbl]; decide
  obtain ⟨w, hwy, w4⟩ : ∃ w : Nat, (c1 : Int) % 4 = (w : Int) ∧ w < 4 := ⟨c1 % 4, rfl, Nat.mod_lt _ (by decide)⟩
  by_cases e0 : w = 0
  · subst e0
    have hwy : (c1 : Int) % 4 = 0 := hwy
    let N := (List.range m).map fun k => B.take (k + 1)
    have hN : Names m N := by
      refine ⟨by simp [N], fun l hl => ?_, ?_⟩
      · obtain ⟨k, hk, rfl⟩ := List.mem_map.mp hl
        have hk := List.mem_range.mp hk
        exact good_of (by rw [List.length_take]; omega) (by rw [List.length_take]; omega) fun x hx => hbm x (List.mem_of_mem_take hx)
      · refine List.pairwise_map.mpr (List.Pairwise.imp_of_mem (R := fun a b => a < b) (fun {a b} ha hb hab z => ?_) List.pairwise_lt_range)
        have hb := List.mem_range.mp hb
        have := congrArg List.length z
        rw [List.length_take, List.length_take] at this
        omega
    have hlc := dLc_all (ρ := [.val (.lst (ns.map .int)), .val (.int (m : Nat)), .val (.int 0), .val (.int (c : Nat)), .val (dS B), .un, .un, .un, .un, .un, .un]) (vs := [8]) (mi := d1 dRng1 (dCons (dVar 1) dNil)) (gm := gSet 8) (em := x__law_names_1) (fun k : Nat => D.int (k : Nat)) (fun k => dS (B.take (k + 1))) (List.range m)
      (by simp [hr, dRange_eq]) (sz_nat (by simp; omega)) (fun k hk => by
        have hk := List.mem_range.mp hk
        have hcut := cut_to (l := B) (k := k + 1) (by omega)
        have e1 : ((k + 1 : Nat) : Int) = (k : Int) + 1 := by omega
        rw [e1] at hcut
        refine ⟨_, rfl, ?_⟩
        simp [e_x__law_names_1, dSlS_ap, hzB, hcut, SZ])
    have hNm : (List.range m).map (fun k => dS (B.take (k + 1))) = N.map dS := by rw [List.map_map]; rfl
    rw [hNm] at hlc
    by_cases hp : (c : Int) % 2 = 0
    · refine ⟨N.reverse, ?_, by rw [List.length_reverse]; exact hN.ln, fun l hl => hN.ok l (List.mem_reverse.mp hl), (List.reverse_perm N).nodup_iff.mpr hN.nd⟩
      rw [List.map_reverse]
      generalize N.map dS = ND at *
      simp [e_m__law_names, e_b__law_names, e_c__law_names_1, e_c__law_names_2, e_c__law_names_3, h1, h2, h3, hw, hwy, hlc, hp]
    · refine ⟨N, ?_, hN⟩
      generalize N.map dS = ND at *
      simp [e_m__law_names, e_b__law_names, e_c__law_names_1, e_c__law_names_2, e_c__law_names_3, h1, h2, h3, hw, hwy, hlc, hp]
  · have n0 : ¬ (w : Int) = 0 := by omega
    have hst : ∀ F : Fl DO, c__law_names_4 [.val (.lst (ns.map .int)), .val (.int (m : Nat)), .val (.int (w : Nat)), .val (.int (c : Nat)), .val (dS B), .un, .un, .un, .un, .un, .un] = F → m__law_names [.lst (ns.map .int), .int (m : Nat)] = flN F := fun F hF => by
      subst hF
      simp [e_m__law_names, e_b__law_names, e_c__law_names_1, e_c__law_names_2, e_c__law_names_3, h1, h2, h3, hw, hwy, n0, e0]
    by_cases e1 : w = 1
    · subst e1
      obtain ⟨t, ht, lt⟩ : ∃ t : Nat, (c : Int) % 8 = (t : Int) ∧ t < 8 := ⟨c % 8, rfl, Nat.mod_lt _ (by decide)⟩
      obtain ⟨k1, k2, k3⟩ := w16_ok t lt m hm
      refine ⟨((w8 ++ w8).drop t).take m, ?_, k1, fun l hl => List.all_eq_true.mp k2 l hl, k3⟩
      have hrep : dRep (.lst [D.str (PySem.Str.ofString "up"), .str (PySem.Str.ofString "to"), .str (PySem.Str.ofString "of"), .str (PySem.Str.ofString "for"), .str (PySem.Str.ofString "each"), .str (PySem.Str.ofString "any"), .str (PySem.Str.ofString "one"), .str (PySem.Str.ofString "nothing")]) (.int 2) = .ok (.lst ((w8 ++ w8).map dS)) := by
        rw [w_up, w_to, w_of, w_for, w_each, w_any, w_one, w_nothing]; rfl
      have hcut : UP.cutD ((w8 ++ w8).map dS) (some (t : Int)) (some ((t : Int) + (m : Int))) = (((w8 ++ w8).drop t).take m).map dS := by
        unfold UP.cutD
        have e : (t : Int) + (m : Int) = ((t + m : Nat) : Int) := by omega
        have l16 : ((w8 ++ w8).map dS).length = 16 := rfl
        rw [e, l16, sIx_at _ _ _ (by omega), sIx_at _ _ _ (by omega), List.map_take, List.map_drop]
        congr 1
        omega
      rw [hst _ rfl]
      generalize (w8 ++ w8).map dS = WD at *
      generalize (((w8 ++ w8).drop t).take m).map dS = ND at *
      simp [e_c__law_names_4, hrep, ht, hcut, SZ]
    · have n1 : ¬ (w : Int) = 1 := by omega
      obtain ⟨s, hs, s1, s8⟩ : ∃ s : Nat, 1 + (c : Int) % 8 = (s : Int) ∧ 1 ≤ s ∧ s ≤ 8 := ⟨1 + c % 8, by omega, by omega, by omega⟩
      obtain ⟨a, ha, la⟩ : ∃ a : Nat, dMod (.int ((c : Int) / 8)) (.int (s : Nat)) = .ok (.int (a : Nat)) ∧ a < s := by
        have h := fmodS (i := (c : Int) / 8) (j := (s : Int)) (by omega)
        have e : ((c : Int) / 8) % (s : Int) = ((c / 8 % s : Nat) : Int) := by rw [Int.natCast_emod]; rfl
        rw [e] at h
        exact ⟨c / 8 % s, h, Nat.mod_lt _ (by omega)⟩
      obtain ⟨f, hf⟩ : ∃ f : Nat, (c : Int) / 64 % 26 = (f : Int) := ⟨c / 64 % 26, by omega⟩
      obtain ⟨g, hg, g1, g4⟩ : ∃ g : Nat, 1 + (c : Int) / 1664 % 4 = (g : Int) ∧ 1 ≤ g ∧ g ≤ 4 := ⟨1 + c / 1664 % 4, by omega, by omega, by omega⟩
      let nm : Nat → List Nat := fun k => B.take a ++ [97 + (f + k * g) % 26] ++ (B.drop (a + 1)).take (s - (a + 1))
      have hnl : ∀ k, (nm k).length = s := fun k => by
        show (B.take a ++ [97 + (f + k * g) % 26] ++ (B.drop (a + 1)).take (s - (a + 1))).length = s
        simp
        omega
      have hN : Names m ((List.range m).map nm) := by
        refine ⟨by simp, fun l hl => ?_, ?_⟩
        · obtain ⟨k, hk, rfl⟩ := List.mem_map.mp hl
          refine good_of (by rw [hnl]; exact s1) (by rw [hnl]; exact s8) fun x hx => ?_
          rcases List.mem_append.mp hx with z | z
          · rcases List.mem_append.mp z with y | y
            · exact hbm x (List.mem_of_mem_take y)
            · rw [List.mem_singleton.mp y]; omega
          · exact hbm x (List.mem_of_mem_drop (List.mem_of_mem_take z))
        · refine List.pairwise_map.mpr (List.Pairwise.imp_of_mem (R := fun a b => a < b) (fun {i j} hi hj hij z => ?_) List.pairwise_lt_range)
          have hj := List.mem_range.mp hj
          have z : B.take a ++ [97 + (f + i * g) % 26] ++ (B.drop (a + 1)).take (s - (a + 1)) = B.take a ++ [97 + (f + j * g) % 26] ++ (B.drop (a + 1)).take (s - (a + 1)) := z
          have z2 := List.append_cancel_left (List.append_cancel_right z)
          have z3 : 97 + (f + i * g) % 26 = 97 + (f + j * g) % 26 := by simpa using z2
          rcases (by omega : g = 1 ∨ g = 2 ∨ g = 3 ∨ g = 4) with rfl | rfl | rfl | rfl <;> omega
      refine ⟨(List.range m).map nm, ?_, hN⟩
      obtain ⟨ρ', hl, rfl⟩ := fLoop_rng (mg := gSet 8) (mb := x__law_names_2)
        (fun k ρ => ρ = [.un, .un, .un, .val (.int (c : Nat)), .val (dS B), .val (.int (s : Nat)), .val (.int (a : Nat)), .own (.lst (((List.range k).map nm).map dS)), .un, .un, .un])
        m [.un, .un, .un, .val (.int (c : Nat)), .val (dS B), .val (.int (s : Nat)), .val (.int (a : Nat)), .own (.lst []), .un, .un, .un] rfl (by
        rintro k _ hk rfl
        have hwd := word_is (f + k * g) 1 (by decide)
        rw [wl_one] at hwd
        have mm := mulS (i := (k : Int)) (j := (g : Int)) (Sm.of (n := 10) 10 (by omega) (by decide)) (Sm.of (n := 10) 10 (by omega) (by decide)) (by decide) (by decide) (by decide)
        have ek : ((f + k * g : Nat) : Int) = (f : Int) + (k : Int) * (g : Int) := by rw [Int.natCast_add, Int.natCast_mul]
        rw [ek] at hwd
        have hwd : m__law_word [.int ((f : Int) + (k : Int) * (g : Int)), .int 1] = .ok (dS [97 + (f + k * g) % 26]) := hwd
        have cut1 := cut_to (l := B) (k := a) (by omega)
        have cut2 := cut_in (l := B) (a := a + 1) (b := s) (by omega) (by omega)
        have ea : ((a + 1 : Nat) : Int) = (a : Int) + 1 := by omega
        rw [ea] at cut2
        have ad1 := add_S (a := B.take a) (b := [97 + (f + k * g) % 26]) (by rw [List.length_take]; omega) (by simp)
        have ad2 := add_S (a := B.take a ++ [97 + (f + k * g) % 26]) (b := (B.drop (a + 1)).take (s - (a + 1))) (by rw [List.length_append, List.length_take]; simp; omega) (by rw [List.length_take]; omega)
        have hz : (((List.range k).map nm).map dS).length < 16777216 := by rw [List.length_map, List.length_map, List.length_range]; omega
        refine ⟨_, _, rfl, .inl ?_, rfl⟩
        rw [List.range_succ, List.map_append, List.map_append, List.map_singleton, List.map_singleton]
        have enm : dS (nm k) = dS (B.take a ++ [97 + (f + k * g) % 26] ++ (B.drop (a + 1)).take (s - (a + 1))) := rfl
        rw [enm]
        generalize ((List.range k).map nm).map dS = NK at *
        generalize B.take a ++ [97 + (f + k * g) % 26] ++ (B.drop (a + 1)).take (s - (a + 1)) = W2 at *
        generalize B.take a ++ [97 + (f + k * g) % 26] = W1 at *
        generalize (B.drop (a + 1)).take (s - (a + 1)) = W3 at *
        generalize B.take a = W4 at *
        generalize [97 + (f + k * g) % 26] = W5 at *
        simp only [dS] at ad1 ad2 hwd ⊢
        generalize S B = SB at *
        generalize S W5 = S5 at *
        generalize S W4 = S4 at *
        generalize S W3 = S3 at *
        generalize S W1 = S1 at *
        simp [e_x__law_names_2, dSlS_ap, hf, hg, mm, hwd, hzB, cut1, cut2, ad1, ad2, hz, SZ])
      rw [dRange_eq] at hl
      have hl : fLoop (gSet 8) x__law_names_2 ((List.range m).map fun k : Nat => D.int (k : Nat)) [.un, .un, .un, .val (.int (c : Nat)), .val (dS B), .val (.int (s : Nat)), .val (.int (a : Nat)), .own (.lst []), .un, .un, .un] = .nx [.un, .un, .un, .val (.int (c : Nat)), .val (dS B), .val (.int (s : Nat)), .val (.int (a : Nat)), .own (.lst (((List.range m).map nm).map dS)), .un, .un, .un] := by
        have e : (List.range m).map (fun k : Nat => D.int (k : Nat)) = (List.range m).map fun k : Nat => D.int (0 + (k : Int)) := List.map_congr_left fun k _ => by rw [Int.zero_add]
        rw [e]; exact hl
      rw [hst _ rfl]
      generalize ((List.range m).map nm).map dS = ND at *
      generalize dS B = SB at *
      simp [e_c__law_names_4, e_c__law_names_5, e_c__law_names_6, e_c__law_names_7, e_c__law_names_8, e_c__law_names_9, n1, e1, hs, ha, hr, hl]

/-! ## the kinds drawn, the stock made -/
theorem cell_nat (ns : List Int) (k : Nat) (hk : k ≤ 1000) : ∃ c : Nat, m__law_cell [.lst (ns.map .int), .int (k : Nat)] = .ok (.int (c : Nat)) := ⟨(cellV ns k).toNat, by rw [cell_is ns k hk, Int.toNat_of_nonneg (cellV_pos ns k)]⟩
structure Kinds (N K : List (List Nat)) : Prop where
  ln : K.length = N.length
  ok : ∀ l ∈ K, good l = true
theorem kinds_ex (ns : List Int) {m : Nat} (hm : m ≤ 6) {N : List (List Nat)} (hN : Names m N) : ∃ K : List (List Nat), m__law_kinds [.lst (ns.map .int), .lst (N.map dS)] = .ok (.lst (K.map dS)) ∧ Kinds N K := by
  obtain ⟨c4, h4⟩ := cell_nat ns 4 (by decide)
  obtain ⟨c5, h5⟩ := cell_nat ns 5 (by decide)
  have h4 : m__law_cell [.lst (ns.map .int), .int 4] = .ok (.int (c4 : Nat)) := h4
  have h5 : m__law_cell [.lst (ns.map .int), .int 5] = .ok (.int (c5 : Nat)) := h5
  obtain ⟨s, hs, s1, s8⟩ : ∃ s : Nat, 1 + (c4 : Int) % 8 = (s : Int) ∧ 1 ≤ s ∧ s ≤ 8 := ⟨1 + c4 % 8, by omega, by omega, by omega⟩
  have hw := word_is c4 s (by omega)
  have hg : good (wl c4 s) = true := good_of (by rw [wl_len]; exact s1) (by rw [wl_len]; exact s8) (wl_mem c4 s)
  generalize wl c4 s = W at *
  obtain ⟨h, hh, hgh⟩ : ∃ h : List Nat, (N.map dS ++ [dS [97, 110, 121]])[0]? = some (dS h) ∧ good h = true := by
    cases hN' : N with
    | nil => exact ⟨[97, 110, 121], rfl, by decide⟩
    | cons a r => exact ⟨a, rfl, hN.ok a (by rw [hN']; simp)⟩
  have hat0 : atI (N.map dS ++ [dS [97, 110, 121]]) 0 = some (dS h) := by
    have := atI_nat' (N.map dS ++ [dS [97, 110, 121]]) 0
    rw [hh] at this; exact this
  have hnl : N.length ≤ 6 := by rw [hN.ln]; exact hm
  have hcat : dAdd (.lst (N.map dS)) (.lst [dS [97, 110, 121]]) = .ok (.lst (N.map dS ++ [dS [97, 110, 121]])) := by
    show (if (N.map dS).length + 1 ≤ SZ then R.ok (D.lst (N.map dS ++ [dS [97, 110, 121]])) else .st) = _
    have hsz : (N.map dS).length + 1 ≤ SZ := by
      have : SZ = 16777216 := rfl
      rw [this, List.length_map]; omega
    rw [if_pos hsz]
  let P : List (List Nat) := [W, h, [111, 110, 101]]
  have hPg : ∀ i, i < 3 → good (P.getD i []) = true := fun i hi => by
    rcases (by omega : i = 0 ∨ i = 1 ∨ i = 2) with rfl | rfl | rfl
    · exact hg
    · exact hgh
    · show good [111, 110, 101] = true
      decide
  have hPa : ∀ i, i < 3 → atI [dS W, dS h, dS [111, 110, 101]] (i : Nat) = some (dS (P.getD i [])) := fun i hi => by
    rcases (by omega : i = 0 ∨ i = 1 ∨ i = 2) with rfl | rfl | rfl
    · exact atI_nat' _ 0
    · exact atI_nat' _ 1
    · exact atI_nat' _ 2
  have hr : N.length < 4611686018427387904 := by omega
  have hlc := dLc_all (ρ := [.val (.lst (ns.map .int)), .val (.lst (N.map dS)), .val (.lst [dS W, dS h, dS [111, 110, 101]]), .un]) (vs := [3]) (mi := d1 dRng1 (dCons (d1 bLenL (dLv 1)) dNil)) (gm := gSet 3) (em := x__law_kinds_1) (fun k : Nat => D.int (k : Nat)) (fun k => dS (P.getD (c5 / (1 + k * k) % 3) [])) (List.range N.length)
    (by simp [hr, dRange_eq]) (sz_nat (by simp; omega)) (fun k hk => by
      have hk := List.mem_range.mp hk
      have mm := mulS (i := (k : Int)) (j := (k : Int)) (Sm.of (n := 10) 10 (by omega) (by decide)) (Sm.of (n := 10) 10 (by omega) (by decide)) (by decide) (by decide) (by decide)
      have kk : k * k ≤ 36 := Nat.mul_le_mul (show k ≤ 6 by omega) (show k ≤ 6 by omega)
      have ekk : (k : Int) * (k : Int) = ((k * k : Nat) : Int) := by rw [Int.natCast_mul]
      have hdv := fdivS (i := (c5 : Int)) (j := 1 + (k : Int) * (k : Int)) (n := 10) (by rw [ekk]; omega) (Sm.of 100 (by rw [ekk]; omega) (by decide)) (by decide) (by decide)
      have e1 : (c5 : Int) / (1 + (k : Int) * (k : Int)) = ((c5 / (1 + k * k) : Nat) : Int) := by
        rw [ekk]
        have : (1 : Int) + ((k * k : Nat) : Int) = ((1 + k * k : Nat) : Int) := by omega
        rw [this, ← Int.natCast_ediv]
      rw [e1] at hdv
      generalize c5 / (1 + k * k) = q at *
      have ha := hPa (q % 3) (Nat.mod_lt _ (by decide))
      rw [Int.natCast_emod] at ha
      have ha : atI [dS W, dS h, dS [111, 110, 101]] ((q : Int) % 3) = some (dS (P.getD (q % 3) [])) := ha
      generalize dS (P.getD (q % 3) []) = R0 at *
      generalize [dS W, dS h, dS [111, 110, 101]] = PL at *
      exact ⟨_, rfl, by simp [e_x__law_kinds_1, h5, mm, hdv, ha]⟩)
  refine ⟨(List.range N.length).map fun k => P.getD (c5 / (1 + k * k) % 3) [], ?_, by simp, fun l hl => ?_⟩
  · have e : ((List.range N.length).map fun k => P.getD (c5 / (1 + k * k) % 3) []).map dS = (List.range N.length).map fun k => dS (P.getD (c5 / (1 + k * k) % 3) []) := by rw [List.map_map]; rfl
    rw [e]
    generalize ((List.range N.length).map fun k => dS (P.getD (c5 / (1 + k * k) % 3) [])) = KD at *
    simp only [dS, ← w_any, ← w_one] at hcat hat0 hlc hw ⊢
    generalize N.map (fun l => D.str (S l)) = ND at *
    simp [e_m__law_kinds, e_b__law_kinds, h4, hs, hw, hcat, hat0, hlc, SZ]
  · obtain ⟨k, hk, rfl⟩ := List.mem_map.mp hl
    exact hPg _ (Nat.mod_lt _ (by decide))
theorem in_S (n : List Nat) (b : Bool) : ∀ N : List (List Nat), dInB (dS n) (b, N.map dS) = .ok (decide (n ∈ N)) := fun N => by
  have hf : (N.map dS).all flatD = true := by rw [List.all_map]; exact List.all_eq_true.mpr fun _ _ => rfl
  have hi : inF (dS n) (N.map dS) = decide (n ∈ N) := by
    unfold inF
    rw [List.any_map, Bool.eq_iff_iff, List.any_eq_true, decide_eq_true_eq]
    constructor
    · rintro ⟨l, hl, h⟩
      have h : (S l == S n) = true := h
      have := S_inj.mp (eq_of_beq h)
      exact this ▸ hl
    · intro h
      exact ⟨n, h, by show (S n == S n) = true; exact beq_self_eq_true _⟩
  unfold dInB
  rw [if_pos ⟨rfl, hf⟩, hi]
abbrev stN : Str := PySem.Str.ofString "Stock"
abbrev caN : Str := PySem.Str.ofString "called"
abbrev soN : Str := PySem.Str.ofString "sorts"
abbrev T (N K : List (List Nat)) : Sl := .tr (.ob stN [caN, soN] [tL (N.map dS), tL (K.map dS)])
abbrev stD (N K : List (List Nat)) : D := .obj stN [caN, soN] [.lst (N.map dS), .lst (K.map dS)]
theorem fr_T (N K : List (List Nat)) : frzD (.ob stN [caN, soN] [tL (N.map dS), tL (K.map dS)]) = stD N K := by
  rw [frzD_ob, frzDs_cons, frzDs_cons, frzDs_nil]
  show D.obj _ _ [frzD (tL _), frzD (tL _)] = _
  rw [frzD_tL, frzD_tL]
theorem nt_T (N K : List (List Nat)) : noT (.ob stN [caN, soN] [tL (N.map dS), tL (K.map dS)]) = true := by
  unfold noT
  exact noTs_all fun t ht => by
    rcases List.mem_cons.mp ht with e | e
    · rw [e]; exact noT_tL _
    · rw [List.mem_singleton.mp e]; exact noT_tL _
theorem ne_cs : ¬ caN = soN := by decide +kernel
theorem init_step {N K : List (List Nat)} {n k : List Nat} (hn : good n = true) (hk : good k = true) (hnot : n ∉ N) (hl : N.length ≤ 100) (hlk : K.length ≤ 100) :
    (∀ s1 : Sl, (x_J_Stock___init___1 [T N K, s1, .val (dS n), .val (dS k)] : Fl D) = .nx [T (N ++ [n]) (K ++ [k]), s1, .un, .un]) ∧ (x_Stock___init___1 [T N K, .un, .val (dS n), .val (dS k)] : Fl D) = .nx [T (N ++ [n]) (K ++ [k]), .un, .un, .un] := by
  have g1 := good_facts hn
  have g2 := good_facts hk
  have i1 := is_name_S n (by omega)
  have i2 := is_name_S k (by omega)
  rw [hn] at i1
  rw [hk] at i2
  have hin := in_S n true N
  rw [decide_eq_false hnot] at hin
  have hfr := fr_T N K
  have hnt := nt_T N K
  have f0 : fAt caN [caN, soN] = some 0 := by unfold fAt; rw [if_pos rfl]
  have f1 : fAt soN [caN, soN] = some 1 := by
    have e : ¬ soN = caN := fun z => ne_cs z.symm
    unfold fAt
    rw [if_neg e]
    unfold fAt
    rw [if_pos rfl]; rfl
  have d0 : ∀ x y : D, dFind caN [caN, soN] [x, y] = some x := fun x y => by unfold dFind; rw [if_pos rfl]
  have z1 : (N.map dS).length < 16777216 := by rw [List.length_map]; omega
  have z2 : (K.map dS).length < 16777216 := by rw [List.length_map]; omega
  have ea : ∀ (A : List (List Nat)) (a : List Nat), tL ((A ++ [a]).map dS) = .lst ((A.map dS).map .fz ++ [.fz (dS a)]) := fun A a => by
    show DT.lst (((A ++ [a]).map dS).map .fz) = _
    rw [List.map_append, List.map_append]; rfl
  have z3 : ((N.map dS).map DT.fz).length < 16777216 := by rw [List.length_map]; exact z1
  have z4 : ((K.map dS).map DT.fz).length < 16777216 := by rw [List.length_map]; exact z2
  have hst : stN ∈ [stN] := by simp
  simp only [T, stD, ea] at *
  have tl : ∀ A : List (List Nat), tL (A.map dS) = .lst ((A.map dS).map .fz) := fun _ => rfl
  simp only [tl] at *
  have hdn : dIn (dS n) (true, N.map dS) = .ok (.bl false) := by
    unfold dIn; rw [hin]; rfl
  generalize N.map dS = ND at *
  generalize K.map dS = KD at *
  generalize ND.map DT.fz = NF at *
  generalize KD.map DT.fz = KF at *
  generalize dS n = n0 at *
  generalize dS k = k0 at *
  exact ⟨fun s1 => by simp [e_x_J_Stock___init___1, i1, i2, hfr, hnt, hdn, f0, f1, d0, z3, z4, dFld, SZ], by simp [e_x_Stock___init___1, i1, i2, hfr, hnt, hdn, f0, f1, d0, z3, z4, dFld, SZ]⟩

/-! ## the stock's methods -/
theorem ne_sc : ¬ soN = caN := fun z => ne_cs z.symm
theorem dF_ca (x y : D) : dFind caN [caN, soN] [x, y] = some x := by unfold dFind; rw [if_pos rfl]
theorem dF_so (x y : D) : dFind soN [caN, soN] [x, y] = some y := by
  unfold dFind
  rw [if_neg ne_sc]
  unfold dFind
  rw [if_pos rfl]
abbrev dR (p : List Nat × List Nat) : D := .tup [dS p.1, dS p.2]
theorem init_loop : ∀ (R : List (List Nat × List Nat)) (N K : List (List Nat)), N.length + R.length ≤ 100 → K.length + R.length ≤ 100 → (∀ p ∈ R, good p.1 = true ∧ good p.2 = true) → (N ++ R.map (·.1)).Nodup →
    fLoop (α := D) (gTupD 2 (gsCons (gSet 2) (gsCons (gSet 3) gsNil))) x_Stock___init___1 (R.map dR) [T N K, .un, .un, .un] = .nx [T (N ++ R.map (·.1)) (K ++ R.map (·.2)), .un, .un, .un]
  | [], N, K, _, _, _, _ => by simp [fLoop_nil]
  | p :: R, N, K, h1, h2, h3, h4 => by
    obtain ⟨n, k⟩ := p
    rw [List.length_cons] at h1 h2
    obtain ⟨g1, g2⟩ := h3 (n, k) (by simp)
    have hnot : n ∉ N := fun z => by
      rw [List.map_cons] at h4
      exact (List.nodup_append.mp h4).2.2 n z n (by simp) rfl
    have hs := (init_step (N := N) (K := K) g1 g2 hnot (by omega) (by omega)).2
    have ih := init_loop R (N ++ [n]) (K ++ [k]) (by rw [List.length_append]; simp; omega) (by rw [List.length_append]; simp; omega) (fun p hp => h3 p (by simp [hp])) (by rw [List.append_assoc]; exact h4)
    rw [List.append_assoc, List.append_assoc] at ih
    rw [List.map_cons, fLoop_cons]
    have hg : gTupD 2 (gsCons (gSet 2) (gsCons (gSet 3) gsNil)) (dR (n, k)) [T N K, .un, .un, .un] = .ok [T N K, .un, .val (dS n), .val (dS k)] := by simp
    rw [hg, fG_ok, hs, fAft_nx, ih]
    rfl
theorem init_loopJ (d0 : List D) : ∀ (R : List (List Nat × List Nat)) (N K : List (List Nat)), N.length + R.length ≤ 100 → K.length + R.length ≤ 100 → (∀ p ∈ R, good p.1 = true ∧ good p.2 = true) → (N ++ R.map (·.1)).Nodup →
    fLoopO (α := D) 1 d0 (gTupD 2 (gsCons (gSet 2) (gsCons (gSet 3) gsNil))) x_J_Stock___init___1 (R.map dR) [T N K, .own (.lst d0), .un, .un] = .nx [T (N ++ R.map (·.1)) (K ++ R.map (·.2)), .own (.lst d0), .un, .un]
  | [], N, K, _, _, _, _ => by
    have hc : ([T N K, .own (.lst d0), .un, .un] : En)[1]? = some (.own (.lst d0)) := rfl
    rw [List.map_nil, fLoopO, if_pos hc]; simp
  | p :: R, N, K, h1, h2, h3, h4 => by
    obtain ⟨n, k⟩ := p
    rw [List.length_cons] at h1 h2
    obtain ⟨g1, g2⟩ := h3 (n, k) (by simp)
    have hnot : n ∉ N := fun z => by
      rw [List.map_cons] at h4
      exact (List.nodup_append.mp h4).2.2 n z n (by simp) rfl
    have hs := (init_step (N := N) (K := K) g1 g2 hnot (by omega) (by omega)).1 (.own (.lst d0))
    have ih := init_loopJ d0 R (N ++ [n]) (K ++ [k]) (by rw [List.length_append]; simp; omega) (by rw [List.length_append]; simp; omega) (fun p hp => h3 p (by simp [hp])) (by rw [List.append_assoc]; exact h4)
    rw [List.append_assoc, List.append_assoc] at ih
    have hc : ([T N K, .own (.lst d0), .un, .un] : En)[1]? = some (.own (.lst d0)) := rfl
    rw [List.map_cons, fLoopO, if_pos hc]
    have hg : gTupD 2 (gsCons (gSet 2) (gsCons (gSet 3) gsNil)) (dR (n, k)) [T N K, .own (.lst d0), .un, .un] = .ok [T N K, .own (.lst d0), .val (dS n), .val (dS k)] := by simp
    rw [hg, fG_ok, hs, fAft_nx, ih]
    rfl
theorem objAt_T (N K : List (List Nat)) (ρ : En) : objAt (T N K :: ρ) = .ok (stD N K) := by
  have hfr := fr_T N K
  have hnt := nt_T N K
  unfold objAt
  have e : (frzE 0 (T N K :: ρ) : List Sl)[0]? = some (.val (stD N K)) := by
    rw [frzE_ap]
    simp [hnt, hfr]
  rw [e]
theorem make_is (R : List (List Nat × List Nat)) (h6 : R.length ≤ 6) (hg : ∀ p ∈ R, good p.1 = true ∧ good p.2 = true) (hn : (R.map (·.1)).Nodup) :
    m_Stock___init__ stN [.lst (R.map dR)] = .ok (stD (R.map (·.1)) (R.map (·.2))) ∧ m_J_Stock___init__ stN (.lst (R.map dR)) = .ok (stD (R.map (·.1)) (R.map (·.2)), .lst (R.map dR)) := by
  have l1 := init_loop R [] [] (by simp; omega) (by simp; omega) hg hn
  have l2 := init_loopJ (R.map dR) R [] [] (by simp; omega) (by simp; omega) hg hn
  rw [List.nil_append, List.nil_append] at l1 l2
  have hle : ¬ (6 : Int) < ((R.map dR).length : Int) := by rw [List.length_map]; omega
  have hob := objAt_T (R.map (·.1)) (R.map (·.2))
  have t0 : T [] [] = .tr (.ob stN [caN, soN] [.lst [], .lst []]) := rfl
  have hst : stN ∈ [stN] := by simp
  have hne := ne_cs
  rw [t0] at l1 l2
  generalize T (R.map (·.1)) (R.map (·.2)) = TT at *
  generalize stD (R.map (·.1)) (R.map (·.2)) = SD at *
  generalize R.map dR = RD at *
  constructor
  · simp [e_m_Stock___init__, e_b_Stock___init__, e_c_Stock___init___1, e_c_Stock___init___2, e_c_Stock___init___3, startI, hle, hne, ne_sc, l1, hob, SZ]
  · have hf : fForO 1 [2, 3] (gTupD 2 (gsCons (gSet 2) (gsCons (gSet 3) gsNil))) x_J_Stock___init___1 [.tr (.ob stN [caN, soN] [.lst [], .lst []]), .own (.lst RD), .un, .un] = (.nx [TT, .own (.lst RD), .un, .un] : Fl D) := by
      unfold fForO
      exact l2
    simp [e_m_J_Stock___init__, e_b_J_Stock___init__, e_c_J_Stock___init___1, e_c_J_Stock___init___2, e_c_J_Stock___init___3, startJ, hle, hne, ne_sc, hf, hob, ownAt, SZ]
section
variable {N K : List (List Nat)}
theorem gnames_is (hN : N.length ≤ 1000) : m_G_names [stD N K] = .ok (.lst (N.map dS)) := by
  have hz : (N.map dS).length ≤ 16777216 := by rw [List.length_map]; omega
  rw [e_m_G_names_Stock]
  generalize N.map dS = ND at *
  simp [e_m_Stock_names, e_b_Stock_names, dF_ca, hz, SZ]
abbrev noN (d : D) : Exc := ⟨PySem.Str.ofString "NoName", [PySem.Str.ofString "name"], [d]⟩
theorem idxS_get : ∀ {N : List (List Nat)} {k : Nat} {l : List Nat}, N.Nodup → N[k]? = some l → idxS (S l) (N.map S) = some k
  | [], k, l, _, h => by simp at h
  | a :: N, 0, l, _, h => by
    rw [List.getElem?_cons_zero] at h; cases h
    rw [List.map_cons]; unfold idxS; rw [if_pos rfl]
  | a :: N, k + 1, l, hn, h => by
    rw [List.getElem?_cons_succ] at h
    have hne : ¬ S a = S l := fun z => (List.nodup_cons.mp hn).1 (by rw [S_inj.mp z]; exact List.mem_of_getElem? h)
    rw [List.map_cons]; unfold idxS
    rw [if_neg hne, idxS_get (List.nodup_cons.mp hn).2 h]; rfl
end
/-- the bundle of a kind -/
def fnd (K : List (List Nat)) (l : List Nat) : Nat → Nat
  | 0 => 0
  | i + 1 => if K.getD i [] = l then fnd K l i + 2 ^ i else fnd K l i
theorem fnd_lt (K : List (List Nat)) (l : List Nat) : ∀ i, fnd K l i < 2 ^ i
  | 0 => by unfold fnd; decide
  | i + 1 => by
    have := fnd_lt K l i
    unfold fnd
    rw [Nat.pow_succ]
    split <;> omega
theorem fnd_zero (K : List (List Nat)) (l : List Nat) : ∀ i, fnd K l i = 0 ↔ ∀ j, j < i → K.getD j [] ≠ l
  | 0 => ⟨fun _ j hj => absurd hj (Nat.not_lt_zero _), fun _ => rfl⟩
  | i + 1 => by
    have ih := fnd_zero K l i
    have hp : 0 < 2 ^ i := Nat.two_pow_pos i
    unfold fnd
    by_cases e : K.getD i [] = l
    · rw [if_pos e]
      exact ⟨fun z => by omega, fun z => absurd e (z i (by omega))⟩
    · rw [if_neg e, ih]
      exact ⟨fun z j hj => if h : j = i then h ▸ e else z j (by omega), fun z j hj => z j (by omega)⟩
theorem or_pow {f i : Nat} (h : f < 2 ^ i) : f ||| 2 ^ i = f + 2 ^ i := by
  have := Nat.two_pow_add_eq_or_of_lt h 1
  rw [Nat.mul_one] at this
  rw [Nat.or_comm, ← this, Nat.add_comm]

theorem eq_S (a b : List Nat) : dEq (dS a) (dS b) = .ok (.bl (decide (a = b))) := by
  rw [dEq_str]
  congr 2
  exact decide_eq_decide.mpr S_inj
section
variable {N K : List (List Nat)}
theorem pl_S (l : List (List Nat)) (h : ∀ x ∈ l, good x = true) : pl 1 (.lst (l.map dS)) = true := by
  show (l.map dS).all (pl 0) = true
  rw [List.all_map]
  refine List.all_eq_true.mpr fun x hx => ?_
  show (S x).cps.all (· < 0x110000) = true
  have g := (good_facts (h x hx)).2.2
  rw [Array.all_eq_true]
  intro i hi
  have hi' : i < x.length := by simpa using hi
  have := g x[i] (List.getElem_mem hi')
  simp
  omega
variable {m : Nat}
end


theorem eqK_S (l : List Nat) : dEqK (dS l) (dS l) = .ok (.bl true) := by
  show dEq (dS l) (dS l) = _
  rw [eq_S, decide_eq_true rfl]
theorem s_a : PySem.Str.ofString "a" = S [97] := by decide +kernel
theorem s_b : PySem.Str.ofString "b" = S [98] := by decide +kernel
theorem s_A : PySem.Str.ofString "A" = S [65] := by decide +kernel
theorem s_sp : PySem.Str.ofString " " = S [32] := by decide +kernel
theorem s_9 : PySem.Str.ofString "abcdefghi" = S [97, 98, 99, 100, 101, 102, 103, 104, 105] := by decide +kernel
theorem zip_is : ∀ N K : List (List Nat), dZipL (N.map dS) (K.map dS) = (N.zip K).map dR
  | [], _ => rfl
  | _ :: _, [] => rfl
  | n :: N, k :: K => by
    rw [List.map_cons, List.map_cons, List.zip_cons_cons, List.map_cons]
    unfold dZipL
    rw [zip_is N K]

/-! ## names that are none (k32) -/
inductive Th where
  | w (l : List Nat) | o (d : D)
def dTh : Th → D
  | .w l => dS l
  | .o d => d
structure OddD (d : D) : Prop where
  na : m_is_name [d] = .ok (.bl false)
  lg : m__law_good [d] = .ok (.bl false)
  bo : ∃ b, isK .bool d = .ok (.bl b)
  eq : dEqK d d = .ok (.bl true)
def OkTh : Th → Prop
  | .w l => good l = true
  | .o d => OddD d
def isW : Th → Bool
  | .w _ => true
  | .o _ => false
theorem th_name {t : Th} (h : OkTh t) : m_is_name [dTh t] = .ok (.bl (isW t)) := by
  cases t with
  | w l =>
    have h : good l = true := h
    have g := good_facts h
    have := is_name_S l (by omega)
    rw [h] at this; exact this
  | o d => exact OddD.na h
theorem law_good_S (l : List Nat) (h : l.length ≤ 1000) (hc : ∀ x ∈ l, x < 1114112) : m__law_good [dS l] = .ok (.bl (good l)) := by
  have hl := S_len l
  have hz : (S l).length ≤ 16777216 := by rw [hl]; omega
  have hlc := dLc_map (ρ := [.val (dS l), .un]) (vs := [1]) (mi := d1 dIt (dVar 0)) (gm := gSet 1) (tm := x__law_good_2) (em := x__law_good_1) (fun c : Nat => D.str ⟨#[c]⟩) (fun c => !decide (c ∈ lets)) (fun c => dS [c]) l
    (by simp [dIt]) (sz_nat (by omega)) (fun c _ => ⟨_, rfl, by simp only [e_x__law_good_2, lets_is]; simp [-List.mem_cons, dNotInS_sign], fun _ => by simp [e_x__law_good_1]⟩)
  have hb : bLen [dS l] = .ok (.int (l.length : Nat)) := by
    show (if (S l).length ≤ SZ then R.ok (D.int ((S l).length : Nat)) else .st) = _
    rw [if_pos (show (S l).length ≤ SZ from hz), hl]
  let B := l.filter fun c => !decide (c ∈ lets)
  have hpl : pl 1 (.lst (B.map fun c => dS [c])) = true := by
    show (B.map fun c => dS [c]).all (pl 0) = true
    rw [List.all_map]
    refine List.all_eq_true.mpr fun x hx => ?_
    show (S [x]).cps.all (· < 0x110000) = true
    have := hc x (List.mem_filter.mp hx).1
    simp
    omega
  obtain ⟨b, hbe, hiff⟩ := dEq_pl (n := 1) (x := .lst (B.map fun c => dS [c])) (z := .lst []) (by decide) hpl rfl
  have hb' : b = l.all fun c => decide (97 ≤ c ∧ c ≤ 122) := by
    rw [Bool.eq_iff_iff, hiff, List.all_eq_true]
    constructor
    · intro z x hx
      have zB : B = [] := by
        have : (B.map fun c => dS [c]) = [] := by injection z
        simpa using this
      rcases Classical.em (x ∈ lets) with y | y
      · exact decide_eq_true ((lets_mem x).mp y)
      · have : x ∈ B := List.mem_filter.mpr ⟨hx, by rw [decide_eq_false y]; rfl⟩
        rw [zB] at this; exact nomatch this
    · intro z
      have zB : B = [] := by
        rw [List.filter_eq_nil_iff]
        intro x hx
        have := of_decide_eq_true (z x hx)
        rw [decide_eq_true ((lets_mem x).mpr this)]; decide
      rw [zB]; rfl
  have hBB : (l.filter fun c => !decide (c ∈ lets)).map (fun c => dS [c]) = B.map fun c => dS [c] := rfl
  rw [hBB] at hlc
  subst hb'
  have hk : isK .str (dS l) = .ok (.bl true) := rfl
  unfold good
  generalize (l.all fun c => decide (97 ≤ c ∧ c ≤ 122)) = A at *
  generalize (B.map fun c => dS [c]) = BD at *
  generalize dS l = Y at *
  by_cases h1 : 1 ≤ l.length
  · have n0 : ¬ (l.length : Int) = 0 := by omega
    have n0' : ¬ l = [] := fun z => by rw [z] at h1; exact absurd h1 (by decide)
    by_cases h8 : l.length ≤ 8
    · have n8 : ¬ (8 : Int) < (l.length : Int) := by omega
      simp [e_m__law_good, e_b__law_good, hk, hb, n0, n0', n8, hlc, hbe, h1, h8]
    · have n8 : (8 : Int) < (l.length : Int) := by omega
      simp [e_m__law_good, e_b__law_good, hk, hb, n0, n0', n8, h1, h8]
  · have n1 : l = [] := by
      cases l with
      | nil => rfl
      | cons a r => exact absurd (by simp : 1 ≤ (a :: r).length) h1
    subst n1
    simp [e_m__law_good, e_b__law_good, hk, hb]
theorem law_good_no {d : D} (h : isK .str d = .ok (.bl false)) : m__law_good [d] = .ok (.bl false) := by
  simp [e_m__law_good, e_b__law_good, h]
theorem th_good {t : Th} (h : OkTh t) : m__law_good [dTh t] = .ok (.bl (isW t)) := by
  cases t with
  | w l =>
    have h : good l = true := h
    have g := good_facts h
    have := law_good_S l (by omega) fun x hx => by have := g.2.2 x hx; omega
    rw [h] at this; exact this
  | o d => exact OddD.lg h
theorem th_eq {t : Th} (h : OkTh t) : (∃ b, isK .bool (dTh t) = .ok (.bl b)) ∧ dEqK (dTh t) (dTh t) = .ok (.bl true) := by
  cases t with
  | w l => exact ⟨⟨false, rfl⟩, eqK_S l⟩
  | o d => exact ⟨OddD.bo h, OddD.eq h⟩
abbrev dRT (p : Th × Th) : D := .tup [dTh p.1, dTh p.2]
def fault (A : List (List Nat)) : List (Th × Th) → Option Th
  | [] => none
  | (.o d, _) :: _ => some (.o d)
  | (.w l, k) :: r => if l ∈ A then some (.w l) else match k with
    | .o d => some (.o d)
    | .w _ => fault (A ++ [l]) r
theorem fault_ok : ∀ {R : List (Th × Th)} {A : List (List Nat)} {t : Th}, (∀ p ∈ R, OkTh p.1 ∧ OkTh p.2) → fault A R = some t → OkTh t
  | [], A, t, _, h => by cases h
  | (.o d, k) :: r, A, t, ho, h => by
    cases h
    exact (ho (.o d, k) (by simp)).1
  | (.w l, k) :: r, A, t, ho, h => by
    unfold fault at h
    by_cases e : l ∈ A
    · rw [if_pos e] at h; cases h
      exact (ho (.w l, k) (by simp)).1
    · rw [if_neg e] at h
      cases k with
      | o d => cases h; exact (ho (.w l, .o d) (by simp)).2
      | w k => exact fault_ok (fun p hp => ho p (by simp [hp])) h
theorem fault_none : ∀ {R : List (Th × Th)} {A : List (List Nat)}, fault A R = none → ∀ i (h : i < R.length), (∃ l k, R[i] = (.w l, .w k) ∧ l ∉ A ∧ ∀ j (hj : j < i), (R[j]'(by omega)).1 ≠ .w l)
  | [], A, _, i, h => absurd h (Nat.not_lt_zero _)
  | (.o d, k) :: r, A, h, i, hi => by cases h
  | (.w l, k) :: r, A, h, i, hi => by
    unfold fault at h
    by_cases e : l ∈ A
    · rw [if_pos e] at h; cases h
    · rw [if_neg e] at h
      cases k with
      | o d => cases h
      | w k =>
        have h : fault (A ++ [l]) r = none := h
        cases i with
        | zero => exact ⟨l, k, rfl, e, fun j hj => absurd hj (Nat.not_lt_zero _)⟩
        | succ i =>
          obtain ⟨l', k', e1, e2, e3⟩ := fault_none h i (by simpa using hi)
          refine ⟨l', k', e1, fun z => e2 (by simp [z]), fun j hj => ?_⟩
          cases j with
          | zero =>
            intro z
            have z : l = l' := by
              have z : (Th.w l) = .w l' := z
              injection z
            exact e2 (by simp [z])
          | succ j => exact e3 j (by omega)
theorem law_fault_loop : ∀ (R : List (Th × Th)) (A : List (List Nat)) (t : Th), (∀ p ∈ R, OkTh p.1 ∧ OkTh p.2) → A.length + R.length ≤ 100 → fault A R = some t →
    fLoop (gTupD 2 (gsCons (gSet 2) (gsCons (gSet 3) gsNil))) x__law_fault_1 (R.map dRT) [.un, .own (.lst (A.map dS)), .un, .un] = .rt (.lst [dTh t]) [.un, .un, .un, .un]
  | [], A, t, _, _, h => by cases h
  | (x, k) :: r, A, t, ho, hl, h => by
    rw [List.length_cons] at hl
    obtain ⟨hx, hk⟩ := ho (x, k) (by simp)
    have gx := th_good hx
    have gk := th_good hk
    rw [List.map_cons, fLoop_cons]
    have hgt : gTupD 2 (gsCons (gSet 2) (gsCons (gSet 3) gsNil)) (dRT (x, k)) [.un, .own (.lst (A.map dS)), .un, .un] = .ok [.un, .own (.lst (A.map dS)), .val (dTh x), .val (dTh k)] := by simp
    rw [hgt, fG_ok]
    have hz : (A.map dS).length < 16777216 := by rw [List.length_map]; omega
    cases x with
    | o d =>
      cases h
      have hs : x__law_fault_1 [.un, .own (.lst (A.map dS)), .val (dTh (.o d)), .val (dTh k)] = .rt (.lst [dTh (.o d)]) [.un, .un, .un, .un] := by
        have gx : m__law_good [dTh (.o d)] = .ok (.bl false) := gx
        generalize A.map dS = AD at *
        generalize dTh (.o d) = x0 at *
        generalize dTh k = k0 at *
        simp [e_x__law_fault_1, gx, SZ]
      rw [hs]; rfl
    | w l =>
      have gx : m__law_good [dS l] = .ok (.bl true) := gx
      have hin := in_S l true A
      unfold fault at h
      by_cases e : l ∈ A
      · rw [if_pos e] at h; cases h
        have hdn : dIn (dS l) (true, A.map dS) = .ok (.bl true) := by unfold dIn; rw [hin, decide_eq_true e]; rfl
        have hs : x__law_fault_1 [.un, .own (.lst (A.map dS)), .val (dS l), .val (dTh k)] = .rt (.lst [dS l]) [.un, .un, .un, .un] := by
          generalize A.map dS = AD at *
          generalize dS l = x0 at *
          generalize dTh k = k0 at *
          simp [e_x__law_fault_1, gx, hdn, SZ]
        show fAft (x__law_fault_1 [.un, .own (.lst (A.map dS)), .val (dS l), .val (dTh k)]) _ = _
        rw [hs]; rfl
      · rw [if_neg e] at h
        have hdn : dIn (dS l) (true, A.map dS) = .ok (.bl false) := by unfold dIn; rw [hin, decide_eq_false e]; rfl
        cases k with
        | o d =>
          cases h
          have gk : m__law_good [dTh (.o d)] = .ok (.bl false) := gk
          have hs : x__law_fault_1 [.un, .own (.lst (A.map dS)), .val (dS l), .val (dTh (.o d))] = .rt (.lst [dTh (.o d)]) [.un, .un, .un, .un] := by
            generalize A.map dS = AD at *
            generalize dS l = x0 at *
            generalize dTh (.o d) = k0 at *
            simp [e_x__law_fault_1, gx, gk, hdn, SZ]
          show fAft (x__law_fault_1 [.un, .own (.lst (A.map dS)), .val (dS l), .val (dTh (.o d))]) _ = _
          rw [hs]; rfl
        | w k =>
          have gk : m__law_good [dTh (.w k)] = .ok (.bl true) := gk
          have h : fault (A ++ [l]) r = some t := h
          have ih := law_fault_loop r (A ++ [l]) t (fun p hp => ho p (by simp [hp])) (by rw [List.length_append]; simp; omega) h
          have hs : x__law_fault_1 [.un, .own (.lst (A.map dS)), .val (dS l), .val (dTh (.w k))] = .nx [.un, .own (.lst ((A ++ [l]).map dS)), .un, .un] := by
            rw [List.map_append, List.map_singleton]
            generalize A.map dS = AD at *
            generalize dS l = x0 at *
            generalize dTh (.w k) = k0 at *
            simp [e_x__law_fault_1, gx, gk, hdn, hz, SZ]
          show fAft (x__law_fault_1 [.un, .own (.lst (A.map dS)), .val (dS l), .val (dTh (.w k))]) _ = _
          rw [hs, fAft_nx]
          exact ih
theorem law_fault_is {R : List (Th × Th)} {t : Th} (ho : ∀ p ∈ R, OkTh p.1 ∧ OkTh p.2) (hl : R.length ≤ 100) (h : fault [] R = some t) : m__law_fault [.lst (R.map dRT)] = .ok (.lst [dTh t]) := by
  have := law_fault_loop R [] t ho (by simpa using hl) h
  generalize R.map dRT = RD at *
  have this : fLoop (gTupD 2 (gsCons (gSet 2) (gsCons (gSet 3) gsNil))) x__law_fault_1 RD [.un, .own (.lst []), .un, .un] = .rt (.lst [dTh t]) [.un, .un, .un, .un] := this
  simp [e_m__law_fault, e_b__law_fault, this]

/-! ## stocks refused, the law of k32 -/
abbrev tooM (n : Nat) : Exc := ⟨PySem.Str.ofString "TooMany", [PySem.Str.ofString "number"], [.int (n : Nat)]⟩
abbrev noN' (d : D) : Exc := ⟨PySem.Str.ofString "NoName", [PySem.Str.ofString "name"], [d]⟩
theorem init_fault : ∀ (R : List (Th × Th)) (N K : List (List Nat)) (t : Th), (∀ p ∈ R, OkTh p.1 ∧ OkTh p.2) → N.length + R.length ≤ 100 → K.length + R.length ≤ 100 → fault N R = some t →
    ∃ ρ, fLoop (α := D) (gTupD 2 (gsCons (gSet 2) (gsCons (gSet 3) gsNil))) x_Stock___init___1 (R.map dRT) [T N K, .un, .un, .un] = .er (noN' (dTh t)) ρ
  | [], N, K, t, _, _, _, h => by cases h
  | (x, k) :: r, N, K, t, ho, hl, hlk, h => by
    rw [List.length_cons] at hl hlk
    obtain ⟨hx, hk⟩ := ho (x, k) (by simp)
    have gx := th_name hx
    have gk := th_name hk
    rw [List.map_cons, fLoop_cons]
    have hgt : gTupD 2 (gsCons (gSet 2) (gsCons (gSet 3) gsNil)) (dRT (x, k)) [T N K, .un, .un, .un] = .ok [T N K, .un, .val (dTh x), .val (dTh k)] := by simp
    rw [hgt, fG_ok]
    have hfr := fr_T N K
    have hnt := nt_T N K
    cases x with
    | o d =>
      cases h
      have hs : ∃ ρ, (x_Stock___init___1 [T N K, .un, .val (dTh (.o d)), .val (dTh k)] : Fl D) = .er (noN' (dTh (.o d))) ρ := by
        have gx : m_is_name [dTh (.o d)] = .ok (.bl false) := gx
        simp only [T, stD] at *
        generalize dTh (.o d) = x0 at *
        generalize dTh k = k0 at *
        exact ⟨_, by simp [e_x_Stock___init___1, gx, SZ]; rfl⟩
      obtain ⟨ρ, hs⟩ := hs
      rw [hs]; exact ⟨_, rfl⟩
    | w l =>
      have gx : m_is_name [dS l] = .ok (.bl true) := gx
      have hin := in_S l true N
      unfold fault at h
      by_cases e : l ∈ N
      · rw [if_pos e] at h; cases h
        have hdn : dIn (dS l) (true, N.map dS) = .ok (.bl true) := by unfold dIn; rw [hin, decide_eq_true e]; rfl
        have hs : ∃ ρ, (x_Stock___init___1 [T N K, .un, .val (dS l), .val (dTh k)] : Fl D) = .er (noN' (dS l)) ρ := by
          simp only [T, stD] at *
          have tl : ∀ A : List (List Nat), tL (A.map dS) = .lst ((A.map dS).map .fz) := fun _ => rfl
          simp only [tl] at *
          generalize N.map dS = ND at *
          generalize K.map dS = KD at *
          generalize dS l = x0 at *
          generalize dTh k = k0 at *
          exact ⟨_, by simp [e_x_Stock___init___1, gx, hfr, hnt, hdn, dFld, dF_ca, SZ]; rfl⟩
        obtain ⟨ρ, hs⟩ := hs
        show ∃ ρ, fAft (x_Stock___init___1 [T N K, .un, .val (dS l), .val (dTh k)]) _ = _
        rw [hs]; exact ⟨_, rfl⟩
      · rw [if_neg e] at h
        have hdn : dIn (dS l) (true, N.map dS) = .ok (.bl false) := by unfold dIn; rw [hin, decide_eq_false e]; rfl
        cases k with
        | o d =>
          cases h
          have gk : m_is_name [dTh (.o d)] = .ok (.bl false) := gk
          have hs : ∃ ρ, (x_Stock___init___1 [T N K, .un, .val (dS l), .val (dTh (.o d))] : Fl D) = .er (noN' (dTh (.o d))) ρ := by
            simp only [T, stD] at *
            have tl : ∀ A : List (List Nat), tL (A.map dS) = .lst ((A.map dS).map .fz) := fun _ => rfl
            simp only [tl] at *
            generalize N.map dS = ND at *
            generalize K.map dS = KD at *
            generalize dS l = x0 at *
            generalize dTh (.o d) = k0 at *
            exact ⟨_, by simp [e_x_Stock___init___1, gx, gk, hfr, hnt, hdn, dFld, dF_ca, SZ]; rfl⟩
          obtain ⟨ρ, hs⟩ := hs
          show ∃ ρ, fAft (x_Stock___init___1 [T N K, .un, .val (dS l), .val (dTh (.o d))]) _ = _
          rw [hs]; exact ⟨_, rfl⟩
        | w k =>
          have h : fault (N ++ [l]) r = some t := h
          obtain ⟨ρ, ih⟩ := init_fault r (N ++ [l]) (K ++ [k]) t (fun p hp => ho p (by simp [hp])) (by rw [List.length_append]; simp; omega) (by rw [List.length_append]; simp; omega) h
          have hs := (init_step (N := N) (K := K) (n := l) (k := k) hx hk e (by omega) (by omega)).2
          show ∃ ρ, fAft (x_Stock___init___1 [T N K, .un, .val (dS l), .val (dS k)]) _ = _
          rw [hs, fAft_nx]
          exact ⟨ρ, ih⟩
theorem make_fault {R : List (Th × Th)} {t : Th} (ho : ∀ p ∈ R, OkTh p.1 ∧ OkTh p.2) (hl : R.length ≤ 6) (h : fault [] R = some t) : m_Stock___init__ stN [.lst (R.map dRT)] = .er (noN' (dTh t)) := by
  obtain ⟨ρ, l1⟩ := init_fault R [] [] t ho (by simp; omega) (by simp; omega) h
  have hle : ¬ (6 : Int) < ((R.map dRT).length : Int) := by rw [List.length_map]; omega
  have t0 : T [] [] = .tr (.ob stN [caN, soN] [.lst [], .lst []]) := rfl
  have hne := ne_cs
  rw [t0] at l1
  generalize R.map dRT = RD at *
  simp [e_m_Stock___init__, e_b_Stock___init__, e_c_Stock___init___1, e_c_Stock___init___2, e_c_Stock___init___3, startI, hle, hne, ne_sc, l1, SZ]
theorem make_many {L : List D} (h : 6 < L.length) : m_Stock___init__ stN [.lst L] = .er (tooM L.length) := by
  have hle : (6 : Int) < (L.length : Int) := by omega
  simp [e_m_Stock___init__, e_b_Stock___init__, startI, hle, SZ]
theorem refused32 {L : List D} {d : D} {b : Bool} (h : m_Stock___init__ stN [.lst L] = .er (noN' d)) (hb : isK .bool d = .ok (.bl b)) (he : dEqK d d = .ok (.bl true)) : m__law_refused [.lst L, d] = .ok (.bl true) ∧ m__law_by_base [.lst L] = .ok (.bl true) := by
  have hd : dFind (PySem.Str.ofString "name") [PySem.Str.ofString "name"] [d] = some d := by simp [dFind]
  have n1 : ¬ PySem.Str.ofString "NoName" = PySem.Str.ofString "TooMany" := by decide +kernel
  have n2 : ¬ PySem.Str.ofString "TooMany" = PySem.Str.ofString "NoName" := fun z => n1 z.symm
  have hbb : dEqK (.bl b) (.bl b) = .ok (.bl true) := by
    show dEq (.bl b) (.bl b) = _
    rw [dEq_bl, decide_eq_true rfl]
  simp only [noN'] at *
  exact ⟨by simp [e_m__law_refused, e_b__law_refused, fTry, h, clAt, fldE, n1, n2, hd, e_m_H__law_other, e_b_H__law_other, e_m_H__law_same, e_b_H__law_same, hb, hbb, he], by simp [e_m__law_by_base, e_b__law_by_base, fTryO, h, clAt, n1, n2]⟩
theorem many32 {L : List D} (h : 6 < L.length) : m__law_too_many [.lst L] = .ok (.bl true) ∧ m__law_by_base [.lst L] = .ok (.bl true) := by
  have h := make_many h
  have hd : dFind (PySem.Str.ofString "number") [PySem.Str.ofString "number"] [D.int (L.length : Nat)] = some (.int (L.length : Nat)) := by simp [dFind]
  have n1 : ¬ PySem.Str.ofString "NoName" = PySem.Str.ofString "TooMany" := by decide +kernel
  have n2 : ¬ PySem.Str.ofString "TooMany" = PySem.Str.ofString "NoName" := fun z => n1 z.symm
  have hbb : ∀ b : Bool, dEqK (.bl b) (.bl b) = .ok (.bl true) := fun b => by
    show dEq (.bl b) (.bl b) = _
    rw [dEq_bl, decide_eq_true rfl]
  have hii : dEqK (.int (L.length : Nat)) (.int (L.length : Nat)) = .ok (.bl true) := by
    show dEq (.int (L.length : Nat)) (.int (L.length : Nat)) = _
    rw [dEq_int, decide_eq_true rfl]
  simp only [tooM] at *
  exact ⟨by simp [e_m__law_too_many, e_b__law_too_many, fTry, h, clAt, fldE, n1, n2, hd, e_m_H__law_other, e_b_H__law_other, e_m_H__law_same, e_b_H__law_same, hbb, hii], by simp [e_m__law_by_base, e_b__law_by_base, fTryO, h, clAt, n1, n2]⟩
theorem mn_names32 : ¬ PySem.Str.ofString "names" = caN ∧ ¬ PySem.Str.ofString "names" = soN := by decide +kernel
theorem taken32 (R : List (List Nat × List Nat)) (h6 : R.length ≤ 6) (hg : ∀ p ∈ R, good p.1 = true ∧ good p.2 = true) (hn : (R.map (·.1)).Nodup) : m__law_taken [.lst (R.map dR), .lst ((R.map (·.1)).map dS)] = .ok (.bl true) := by
  have h1 := (make_is R h6 hg hn).1
  have h2 := gnames_is (N := R.map (·.1)) (K := R.map (·.2)) (by rw [List.length_map]; omega)
  have h3 := dEq_self (n := 1) (x := .lst ((R.map (·.1)).map dS)) (by decide) (pl_S (R.map (·.1)) fun x hx => by
    obtain ⟨p, hp, rfl⟩ := List.mem_map.mp hx
    exact (hg p hp).1)
  simp only [stD] at *
  generalize (R.map (·.1)).map dS = ND at *
  generalize (R.map (·.2)).map dS = KD at *
  generalize R.map dR = RD at *
  simp [e_m__law_taken, e_b__law_taken, h1, h2, h3, mn_names32]
theorem s_aB : PySem.Str.ofString "aB" = S [97, 66] := by decide +kernel
theorem s_a_b : PySem.Str.ofString "a b" = S [97, 32, 98] := by decide +kernel
theorem s_a1 : PySem.Str.ofString "a1" = S [97, 49] := by decide +kernel
theorem s_apb : PySem.Str.ofString "a+b" = S [97, 43, 98] := by decide +kernel
theorem s_eqa : PySem.Str.ofString "=a" = S [61, 97] := by decide +kernel
theorem s_an : PySem.Str.ofString "a\n" = S [97, 10] := by decide +kernel
theorem s_1 : PySem.Str.ofString "1" = S [49] := by decide +kernel
theorem s_8sp : PySem.Str.ofString "abcdefgh " = S [97, 98, 99, 100, 101, 102, 103, 104, 32] := by decide +kernel
theorem s_am : PySem.Str.ofString "a-" = S [97, 45] := by decide +kernel
theorem s_k : PySem.Str.ofString "k" = S [107] := by decide +kernel
theorem odd_bad {l : List Nat} (h1 : l.length ≤ 1000) (h2 : good l = false) (h3 : ∀ x ∈ l, x < 1114112) : OddD (dS l) :=
  ⟨by rw [is_name_S l h1, h2], by rw [law_good_S l h1 h3, h2], ⟨false, rfl⟩, eqK_S l⟩
theorem odd_no {d : D} (h1 : isK .str d = .ok (.bl false)) (h2 : ∃ b, isK .bool d = .ok (.bl b)) (h3 : dEqK d d = .ok (.bl true)) : OddD d := ⟨is_name_no h1, law_good_no h1, h2, h3⟩
theorem odd_ex (c : Nat) : ∃ d, m__law_odd [.int (c : Nat)] = .ok d ∧ OddD d := by
  have hm : dMulS (.str (PySem.Str.ofString "a")) (.int 60) = .ok (dS (List.replicate 60 97)) := by
    rw [s_a]
    show (if (2 : Int) ≤ 60 ∧ (60 : Int) ≤ 1000 ∧ 1 ≤ (S [97]).length ∧ (S [97]).length ≤ 1000 then R.ok (D.str (mulStr (S [97]) (60 : Int).toNat)) else .st) = _
    rw [if_pos ⟨by decide, by decide, by decide, by decide⟩]
    have : mulStr (S [97]) (60 : Int).toNat = S (List.replicate 60 97) := by decide +kernel
    rw [this]
  obtain ⟨i, hi, li⟩ : ∃ i : Nat, (c : Int) % 22 = (i : Int) ∧ i < 22 := ⟨c % 22, rfl, Nat.mod_lt _ (by decide)⟩
  have hcat : dAdd (.lst [dS [], dS [97, 98, 99, 100, 101, 102, 103, 104, 105], dS [65], dS [97, 66], dS [97, 32, 98], dS [97, 49], dS [97, 43, 98], dS [61, 97], dS [97, 10], dS [32], dS [49], dS [97, 98, 99, 100, 101, 102, 103, 104, 32], dS [97, 45], dS (List.replicate 60 97)])
      (.lst [.non, .int 5, .bl true, .lst [dS [97]], .tup [dS [97]], .dk [] [], .int 0, .bl false]) = .ok (.lst [dS [], dS [97, 98, 99, 100, 101, 102, 103, 104, 105], dS [65], dS [97, 66], dS [97, 32, 98], dS [97, 49], dS [97, 43, 98], dS [61, 97], dS [97, 10], dS [32], dS [49], dS [97, 98, 99, 100, 101, 102, 103, 104, 32], dS [97, 45], dS (List.replicate 60 97), .non, .int 5, .bl true, .lst [dS [97]], .tup [dS [97]], .dk [] [], .int 0, .bl false]) := rfl
  obtain ⟨d, hd, ho⟩ : ∃ d, atI [dS [], dS [97, 98, 99, 100, 101, 102, 103, 104, 105], dS [65], dS [97, 66], dS [97, 32, 98], dS [97, 49], dS [97, 43, 98], dS [61, 97], dS [97, 10], dS [32], dS [49], dS [97, 98, 99, 100, 101, 102, 103, 104, 32], dS [97, 45], dS (List.replicate 60 97), .non, .int 5, .bl true, .lst [dS [97]], .tup [dS [97]], .dk [] [], .int 0, .bl false] (i : Nat) = some d ∧ OddD d := by
    rcases (by omega : i = 0 ∨ i = 1 ∨ i = 2 ∨ i = 3 ∨ i = 4 ∨ i = 5 ∨ i = 6 ∨ i = 7 ∨ i = 8 ∨ i = 9 ∨ i = 10 ∨ i = 11 ∨ i = 12 ∨ i = 13 ∨ i = 14 ∨ i = 15 ∨ i = 16 ∨ i = 17 ∨ i = 18 ∨ i = 19 ∨ i = 20 ∨ i = 21) with rfl | rfl | rfl | rfl | rfl | rfl | rfl | rfl | rfl | rfl | rfl | rfl | rfl | rfl | rfl | rfl | rfl | rfl | rfl | rfl | rfl | rfl
    · exact ⟨_, atI_nat' _ 0, odd_bad (by decide) (by decide) (by decide)⟩
    · exact ⟨_, atI_nat' _ 1, odd_bad (by decide) (by decide) (by decide)⟩
    · exact ⟨_, atI_nat' _ 2, odd_bad (by decide) (by decide) (by decide)⟩
    · exact ⟨_, atI_nat' _ 3, odd_bad (by decide) (by decide) (by decide)⟩
    · exact ⟨_, atI_nat' _ 4, odd_bad (by decide) (by decide) (by decide)⟩
    · exact ⟨_, atI_nat' _ 5, odd_bad (by decide) (by decide) (by decide)⟩
    · exact ⟨_, atI_nat' _ 6, odd_bad (by decide) (by decide) (by decide)⟩
    · exact ⟨_, atI_nat' _ 7, odd_bad (by decide) (by decide) (by decide)⟩
    · exact ⟨_, atI_nat' _ 8, odd_bad (by decide) (by decide) (by decide)⟩
    · exact ⟨_, atI_nat' _ 9, odd_bad (by decide) (by decide) (by decide)⟩
    · exact ⟨_, atI_nat' _ 10, odd_bad (by decide) (by decide) (by decide)⟩
    · exact ⟨_, atI_nat' _ 11, odd_bad (by decide) (by decide) (by decide)⟩
    · exact ⟨_, atI_nat' _ 12, odd_bad (by decide) (by decide) (by decide)⟩
    · exact ⟨_, atI_nat' _ 13, odd_bad (by decide) (by decide) (by decide)⟩
    · exact ⟨_, atI_nat' _ 14, odd_no rfl ⟨_, rfl⟩ rfl⟩
    · exact ⟨_, atI_nat' _ 15, odd_no rfl ⟨_, rfl⟩ rfl⟩
    · exact ⟨_, atI_nat' _ 16, odd_no rfl ⟨_, rfl⟩ rfl⟩
    · refine ⟨_, atI_nat' _ 17, odd_no rfl ⟨_, rfl⟩ ?_⟩
      show dEq (.lst ([[97]].map dS)) (.lst ([[97]].map dS)) = _
      exact dEq_self (n := 1) (by decide) (pl_S [[97]] (by decide))
    · refine ⟨_, atI_nat' _ 18, odd_no rfl ⟨_, rfl⟩ ?_⟩
      show dEq (.tup [dS [97]]) (.tup [dS [97]]) = _
      exact dEq_self (n := 1) (by decide) (by decide +kernel)
    · exact ⟨_, atI_nat' _ 19, odd_no rfl ⟨_, rfl⟩ rfl⟩
    · exact ⟨_, atI_nat' _ 20, odd_no rfl ⟨_, rfl⟩ rfl⟩
    · exact ⟨_, atI_nat' _ 21, odd_no rfl ⟨_, rfl⟩ rfl⟩
  refine ⟨d, ?_, ho⟩
  simp only [dS, ← empty_is, ← s_9, ← s_A, ← s_aB, ← s_a_b, ← s_a1, ← s_apb, ← s_eqa, ← s_an, ← s_sp, ← s_1, ← s_8sp, ← s_am, ← s_a] at hm hd hcat ⊢
  generalize List.replicate 60 97 = A60 at *
  simp [e_m__law_odd, e_b__law_odd, hm, hcat, hi, hd, SZ]
theorem spoilt_ex {R : List (Th × Th)} (ho : ∀ p ∈ R, OkTh p.1 ∧ OkTh p.2) (hl : R.length ≤ 6) {j : Nat} (hj : j < R.length) (c : Nat) :
    ∃ R' : List (Th × Th), m__law_spoilt [.lst (R.map dRT), .int (j : Nat), .int (c : Nat)] = .ok (.lst (R'.map dRT)) ∧ R'.length = R.length ∧ (∀ p ∈ R', OkTh p.1 ∧ OkTh p.2) ∧ fault [] R' ≠ none := by
  obtain ⟨w, hw, lw⟩ : ∃ w : Nat, (c : Int) % 4 = (w : Int) ∧ w < 4 := ⟨c % 4, rfl, Nat.mod_lt _ (by decide)⟩
  have hq : (c : Int) / 4 = ((c / 4 : Nat) : Int) := rfl
  obtain ⟨d, hd, hod⟩ := odd_ex (c / 4)
  rw [← hq] at hd
  have hz : (R.map dRT).length ≤ 16777216 := by rw [List.length_map]; omega
  have hat : atI (R.map dRT) (j : Nat) = some (.tup [dTh R[j].1, dTh R[j].2]) := by rw [atI_nat', List.getElem?_map, List.getElem?_eq_getElem hj]; rfl
  have a2 : ∀ p q : D, atI [p, q] 0 = some p := fun p q => atI_nat' [p, q] 0
  have hjl : j < (R.map dRT).length := by rw [List.length_map]; exact hj
  obtain ⟨ox, ok⟩ := ho R[j] (List.getElem_mem hj)
  have hset : ∀ x k : Th, ((R.map dRT).set j (.tup [dTh x, dTh k])) = (R.set j (x, k)).map dRT := fun x k => by rw [List.map_set]
  have hok : ∀ x k : Th, OkTh x → OkTh k → ∀ p ∈ R.set j (x, k), OkTh p.1 ∧ OkTh p.2 := fun x k h1 h2 p hp => by
    rcases List.mem_or_eq_of_mem_set hp with e | e
    · exact ho p e
    · rw [e]; exact ⟨h1, h2⟩
  have hjs : ∀ x k : Th, j < (R.set j (x, k)).length := fun x k => by rw [List.length_set]; exact hj
  have hgs : ∀ (x k : Th), (R.set j (x, k))[j]'(hjs x k) = (x, k) := fun x k => List.getElem_set_self _
  by_cases e0 : w = 0
  · refine ⟨R.set j (R[j].1, .o d), ?_, by rw [List.length_set], hok _ _ ox hod, fun z => ?_⟩
    · rw [← hset]
      have hd' : dTh (.o d) = d := rfl
      rw [hd']
      generalize dTh R[j].1 = x0 at *
      generalize dTh R[j].2 = k0 at *
      generalize R.map dRT = RD at *
      subst e0
      simp [e_m__law_spoilt, e_b__law_spoilt, e_c__law_spoilt_1, e_c__law_spoilt_2, e_c__law_spoilt_3, e_c__law_spoilt_4, hz, hat, hw, hd, hjl, SZ]
    · obtain ⟨l, k, e1, _⟩ := fault_none z j (hjs _ _)
      rw [hgs] at e1
      injection e1 with e1 e2
      cases e2
  · have n0 : ¬ (w : Int) = 0 := by omega
    have oddcase : (∀ F, m__law_spoilt [.lst (R.map dRT), .int (j : Nat), .int (c : Nat)] = F → F = .ok (.lst ((R.map dRT).set j (.tup [d, dTh R[j].2])))) → ∃ R' : List (Th × Th), m__law_spoilt [.lst (R.map dRT), .int (j : Nat), .int (c : Nat)] = .ok (.lst (R'.map dRT)) ∧ R'.length = R.length ∧ (∀ p ∈ R', OkTh p.1 ∧ OkTh p.2) ∧ fault [] R' ≠ none := fun h => by
      refine ⟨R.set j (.o d, R[j].2), ?_, by rw [List.length_set], hok _ _ hod ok, fun z => ?_⟩
      · rw [← hset]; exact h _ rfl
      · obtain ⟨l, k, e1, _⟩ := fault_none z j (hjs _ _)
        rw [hgs] at e1
        injection e1 with e1 e2
        cases e1
    by_cases e1 : w = 1 ∧ 0 < j
    · obtain ⟨ew, hj0⟩ := e1
      subst ew
      have hmod := fmodS (i := (c : Int) / 4) (j := (j : Int)) (by omega)
      have em : (c : Int) / 4 % (j : Int) = ((c / 4 % j : Nat) : Int) := by rw [hq, Int.natCast_emod]
      rw [em] at hmod
      have hi : c / 4 % j < j := Nat.mod_lt _ hj0
      generalize c / 4 % j = i at *
      have hir : i < R.length := by omega
      have hati : atI (R.map dRT) (i : Nat) = some (.tup [dTh R[i].1, dTh R[i].2]) := by rw [atI_nat', List.getElem?_map, List.getElem?_eq_getElem hir]; rfl
      have hj0' : (0 : Int) < (j : Int) := by omega
      obtain ⟨oi, _⟩ := ho R[i] (List.getElem_mem hir)
      refine ⟨R.set j (R[i].1, R[j].2), ?_, by rw [List.length_set], hok _ _ oi ok, fun z => ?_⟩
      · rw [← hset]
        generalize dTh R[i].1 = xi at *
        generalize dTh R[i].2 = ki at *
        generalize dTh R[j].1 = x0 at *
        generalize dTh R[j].2 = k0 at *
        generalize R.map dRT = RD at *
        simp [e_m__law_spoilt, e_b__law_spoilt, e_c__law_spoilt_1, e_c__law_spoilt_2, e_c__law_spoilt_3, e_c__law_spoilt_4, hz, hat, hw, hmod, hati, a2, hj0', hj0, hjl, SZ]
      · obtain ⟨l, k, e1, _, e3⟩ := fault_none z j (hjs _ _)
        rw [hgs] at e1
        injection e1 with e1 e2
        have hg : ((R.set j (R[i].1, R[j].2))[i]'(by rw [List.length_set]; exact hir)) = R[i] := List.getElem_set_ne (by omega) _
        have := e3 i hi
        rw [hg] at this
        exact this e1
    · refine oddcase fun F hF => ?_
      subst hF
      have hd' : dTh (.o d) = d := rfl
      generalize dTh R[j].1 = x0 at *
      generalize dTh R[j].2 = k0 at *
      generalize R.map dRT = RD at *
      by_cases ew : w = 1
      · subst ew
        have j0 : j = 0 := by
          rcases Nat.eq_zero_or_pos j with z | z
          · exact z
          · exact absurd ⟨rfl, z⟩ e1
        subst j0
        have hat : atI RD 0 = some (.tup [x0, k0]) := hat
        simp [e_m__law_spoilt, e_b__law_spoilt, e_c__law_spoilt_1, e_c__law_spoilt_2, e_c__law_spoilt_3, e_c__law_spoilt_4, hz, hat, hw, hd, hjl, SZ]
      · have n1 : ¬ (w : Int) = 1 := by omega
        simp [e_m__law_spoilt, e_b__law_spoilt, e_c__law_spoilt_1, e_c__law_spoilt_2, e_c__law_spoilt_3, e_c__law_spoilt_4, hz, hat, hw, hd, hjl, e0, ew, n0, n1, SZ]
theorem plain (ns : List Int) (hl : ns.length ≤ 63) : m_law [.lst (ns.map .int)] = .ok (.bl true) := by
  have cel : ∀ k : Nat, k ≤ 1000 → ∃ c : Nat, m__law_cell [.lst (ns.map .int), .int (k : Nat)] = .ok (.int (c : Nat)) := fun k hk => cell_nat ns k hk
  obtain ⟨c0, h0⟩ := cel 0 (by decide)
  have h0 : m__law_cell [.lst (ns.map .int), .int 0] = .ok (.int (c0 : Nat)) := h0
  obtain ⟨m, hm, m1, m6⟩ : ∃ m : Nat, 1 + (c0 : Int) % 6 = (m : Int) ∧ 1 ≤ m ∧ m ≤ 6 := ⟨1 + c0 % 6, by omega, by omega, by omega⟩
  obtain ⟨c6, h6⟩ := cel 6 (by decide)
  have h6 : m__law_cell [.lst (ns.map .int), .int 6] = .ok (.int (c6 : Nat)) := h6
  obtain ⟨c7, h7⟩ := cel 7 (by decide)
  have h7 : m__law_cell [.lst (ns.map .int), .int 7] = .ok (.int (c7 : Nat)) := h7
  obtain ⟨c8, h8⟩ := cel 8 (by decide)
  have h8 : m__law_cell [.lst (ns.map .int), .int 8] = .ok (.int (c8 : Nat)) := h8
  obtain ⟨c9, h9⟩ := cel 9 (by decide)
  have h9 : m__law_cell [.lst (ns.map .int), .int 9] = .ok (.int (c9 : Nat)) := h9
  obtain ⟨c10, h10⟩ := cel 10 (by decide)
  have h10 : m__law_cell [.lst (ns.map .int), .int 10] = .ok (.int (c10 : Nat)) := h10
  obtain ⟨c11, h11⟩ := cel 11 (by decide)
  have h11 : m__law_cell [.lst (ns.map .int), .int 11] = .ok (.int (c11 : Nat)) := h11
  obtain ⟨c12, h12⟩ := cel 12 (by decide)
  have h12 : m__law_cell [.lst (ns.map .int), .int 12] = .ok (.int (c12 : Nat)) := h12
  obtain ⟨N, hn, hN⟩ := names_ex ns m m6
  obtain ⟨K, hk, hK⟩ := kinds_ex ns m6 hN
  have hnl := hN.ln
  have hkl := hK.ln
  let Z := N.zip K
  have hZ : Z = N.zip K := rfl
  have hz1 : Z.map (·.1) = N := List.map_fst_zip (by omega)
  have hzl : Z.length = m := by rw [hZ, List.length_zip]; omega
  have hgood : ∀ p ∈ Z, good p.1 = true ∧ good p.2 = true := fun p hp => by
    obtain ⟨a, b⟩ := p
    have := List.of_mem_zip hp
    exact ⟨hN.ok a this.1, hK.ok b this.2⟩
  have htk := taken32 Z (by omega) hgood (by rw [hz1]; exact hN.nd)
  rw [hz1] at htk
  have htk0 := taken32 [] (by decide) (fun p hp => nomatch hp) List.nodup_nil
  have htk0 : m__law_taken [.lst [], .lst []] = .ok (.bl true) := htk0
  have hlc := dLc_all (ρ := [.val (.lst (ns.map .int)), .val (.lst (N.map dS)), .un, .un, .un, .un, .un, .un, .un, .un, .un]) (vs := [9, 10]) (mi := (d1 dZip (dCons (dVar 1) (dCons (d1 dFz (d1 m__law_kinds (dCons (dVar 0) (dCons (dVar 1) dNil)))) dNil)))) (gm := (gTupD 2 (gsCons (gSet 9) (gsCons (gSet 10) gsNil)))) (em := x_law_1) dR dR Z
    (by
      have hzip : dZip [.lst (N.map dS), .lst (K.map dS)] = .ok (Z.map dR) := by
        show R.ok (dZipL (N.map dS) (K.map dS)) = _
        rw [zip_is]
      generalize N.map dS = ND at *
      generalize K.map dS = KD at *
      generalize ns.map D.int = NS at *
      simp [hk, hzip]) (sz_nat (by omega)) (fun p hp => by
      obtain ⟨a, b⟩ := p
      exact ⟨_, by simp; rfl, by simp [e_x_law_1, SZ]⟩)
  let R0 : List (Th × Th) := Z.map fun p => (.w p.1, .w p.2)
  have hR0 : R0.map dRT = Z.map dR := by rw [List.map_map]; rfl
  have hR0l : R0.length = m := by rw [List.length_map]; exact hzl
  have hR0o : ∀ p ∈ R0, OkTh p.1 ∧ OkTh p.2 := fun p hp => by
    obtain ⟨q, hq, rfl⟩ := List.mem_map.mp hp
    exact hgood q hq
  have modm : ∀ c : Nat, dMod (.int (c : Nat)) (.int (m : Nat)) = .ok (.int ((c % m : Nat) : Int)) := fun c => by
    have h := fmodS (i := (c : Int)) (j := (m : Int)) (by omega)
    rw [h, Int.natCast_emod]
  obtain ⟨R1, s1, l1, o1, f1⟩ := spoilt_ex hR0o (by omega) (j := c6 % m) (by rw [hR0l]; exact Nat.mod_lt _ (by omega)) c7
  obtain ⟨R2, s2, l2, o2, f2⟩ := spoilt_ex o1 (by omega) (j := c8 % m) (by rw [l1, hR0l]; exact Nat.mod_lt _ (by omega)) c9
  rw [hR0] at s1
  have hlenZ : ((Z.map dR).length : Int) = (m : Int) := by rw [List.length_map, hzl]
  have eqi : ∀ i j : Int, dEqN (.int i) (.int j) = .ok (.bl (decide (i = j))) := fun i j => rfl
  have eqn : ∀ d : D, dEqN (.lst [d]) (.lst []) = .ok (.bl false) := fun d => rfl
  -- the rest of the law, for any bad rows
  have rest : ∀ R : List (Th × Th), (∀ p ∈ R, OkTh p.1 ∧ OkTh p.2) → R.length ≤ 6 → fault [] R ≠ none → flV (c_law_4 [.val (.lst (ns.map .int)), .val (.lst (N.map dS)), .val (.lst (Z.map dR)), .val (.lst (R.map dRT)), .un, .un, .un, .un, .un, .un, .un]) = .ok (.bl true) := fun R ho hl6 hf => by
    obtain ⟨t, ht⟩ : ∃ t, fault [] R = some t := by
      cases h : fault [] R with
      | none => exact absurd h hf
      | some t => exact ⟨t, rfl⟩
    have hfl := law_fault_is ho (by omega) ht
    have hmk := make_fault ho hl6 ht
    obtain ⟨⟨b, hb⟩, he⟩ := th_eq (fault_ok ho ht)
    obtain ⟨q1, q2⟩ := refused32 hmk hb he
    have hz : (R.map dRT).length ≤ 16777216 := by rw [List.length_map]; omega
    obtain ⟨M, hM, M1, M2⟩ : ∃ M : Nat, 7 + (c10 : Int) % 54 = (M : Int) ∧ 7 ≤ M ∧ M ≤ 60 := ⟨7 + c10 % 54, by omega, by omega, by omega⟩
    have hr : M < 4611686018427387904 := by omega
    have hlm := fun s3 s4 s5 : Sl => dLc_all (ρ := [.val (.lst (ns.map .int)), .val (.lst (N.map dS)), .val (.lst (Z.map dR)), s3, s4, s5, .val (.int (M : Nat)), .un, .un, .un, .un]) (vs := [8]) (mi := d1 dRng1 (dCons (dVar 6) dNil)) (gm := gSet 8) (em := x_law_2) (fun k : Nat => D.int (k : Nat)) (fun k => D.tup [dS (wl (k * 31 + 7) 3), dS [107]]) (List.range M)
      (by simp [hr, dRange_eq]) (sz_nat (by simp; omega)) (fun k hk => by
        have hk := List.mem_range.mp hk
        have mm := mulS (i := (k : Int)) (j := 31) (Sm.of (n := 10) 100 (by omega) (by decide)) (Sm.of (n := 10) 31 (by decide) (by decide)) (by decide) (by decide) (by decide)
        have hw := word_is (k * 31 + 7) 3 (by decide)
        have ek : ((k * 31 + 7 : Nat) : Int) = (k : Int) * 31 + 7 := by omega
        rw [ek] at hw
        have hw : m__law_word [.int ((k : Int) * 31 + 7), .int 3] = .ok (dS (wl (k * 31 + 7) 3)) := hw
        refine ⟨_, rfl, ?_⟩
        simp only [dS, ← s_k] at hw ⊢
        generalize S (wl (k * 31 + 7) 3) = WW at *
        simp [e_x_law_2, mm, hw, SZ])
    have hLM : ((List.range M).map fun k => D.tup [dS (wl (k * 31 + 7) 3), dS [107]]).length = M := by simp
    generalize ((List.range M).map fun k => D.tup [dS (wl (k * 31 + 7) 3), dS [107]]) = LM at *
    have fin : ∀ (L : List D) (s3 s4 s5 s6 : Sl), L.length = M → flV (c_law_11 [.val (.lst (ns.map .int)), .val (.lst (N.map dS)), .val (.lst (Z.map dR)), s3, s4, s5, s6, .own (.lst L), .un, .un, .un]) = .ok (.bl true) := fun L s3 s4 s5 s6 hL => by
      obtain ⟨t1, t2⟩ := many32 (L := L) (by omega)
      have hcut : UP.cutD L none (some (0 : Int)) = [] := by
        unfold UP.cutD
        have : HT.sIx L.length L.length (some (0 : Int)) = 0 := sIx_at _ _ 0 (Nat.zero_le _)
        rw [this, HT.sIx_none]
        simp
      generalize ns.map D.int = NS at *
      generalize N.map dS = ND at *
      generalize Z.map dR = ZD at *
      simp [e_c_law_11, e_c_law_12, t1, t2, hcut, htk0, htk]
    have h2 : (c11 : Int) / 2 = ((c11 / 2 : Nat) : Int) := rfl
    obtain ⟨da, hda, _⟩ := odd_ex c12
    obtain ⟨db, hdb, _⟩ := odd_ex c9
    have hmd := fmodS (i := (c11 : Int) / 2) (j := (M : Int)) (by omega)
    have em : (c11 : Int) / 2 % (M : Int) = ((c11 / 2 % M : Nat) : Int) := by rw [h2, Int.natCast_emod]
    rw [em] at hmd
    have hi : c11 / 2 % M < LM.length := by rw [hLM]; exact Nat.mod_lt _ (by omega)
    generalize c11 / 2 % M = i at *
    have g1 := fun s3 s4 s5 s6 => fin LM s3 s4 s5 s6 hLM
    have g2 := fun s3 s4 s5 s6 => fin (LM.set i (.tup [da, db])) s3 s4 s5 s6 (by rw [List.length_set]; exact hLM)
    have hlR : (R.map dRT).length ≤ 16777216 := hz
    have hne : ∀ x : D, dNe (.int ((R.map dRT).length : Nat)) (.int ((R.map dRT).length : Nat)) = .ok (.bl false) := fun _ => by
      show UP.R.ok (D.bl (!decide _)) = _
      rw [decide_eq_true rfl]; rfl
    have hat : atI [dTh t] 0 = some (dTh t) := atI_nat' _ 0
    generalize ns.map D.int = NS at *
    generalize N.map dS = ND at *
    generalize Z.map dR = ZD at *
    generalize R.map dRT = RD at *
    generalize dTh t = T0 at *
    by_cases hp : (c11 : Int) % 2 = 0
    · simp [e_c_law_4, e_c_law_5, e_c_law_6, e_c_law_7, e_c_law_8, e_c_law_9, e_c_law_10, hfl, htk, eqi, eqn, hlR, hat, q1, q2, h10, hM, hlm, h11, hp, hmd, h12, h9, hda, hdb, hi, g2, SZ]
    · simp [e_c_law_4, e_c_law_5, e_c_law_6, e_c_law_7, e_c_law_8, e_c_law_9, e_c_law_10, hfl, htk, eqi, eqn, hlR, hat, q1, q2, h10, hM, hlm, h11, hp, g1, SZ]
  have k1 := rest R1 o1 (by rw [l1, hR0l]; exact m6) f1
  have k2 := rest R2 o2 (by rw [l2, l1, hR0l]; exact m6) f2
  have m6' := modm c6
  have m8' := modm c8
  generalize c6 % m = j1 at *
  generalize c8 % m = j2 at *
  generalize ns.map D.int = NS at *
  generalize N.map dS = ND at *
  generalize Z.map dR = ZD at *
  generalize R1.map dRT = RD1 at *
  generalize R2.map dRT = RD2 at *
  by_cases hp : (c6 : Int) / 6 % 3 = 0
  · simp [e_m_law, e_b_law, e_c_law_1, e_c_law_2, e_c_law_3, h0, hm, hn, hlc, h6, h7, hlenZ, m6', s1, eqi, hp, h8, h9, m8', s2, k2, SZ]
  · simp [e_m_law, e_b_law, e_c_law_1, e_c_law_2, e_c_law_3, h0, hm, hn, hlc, h6, h7, hlenZ, m6', s1, eqi, hp, k1, SZ]

end Lw
namespace Lw
open PySem L2 UP PyProof.Rows
/-! ## the text by places -/
def top (i : Nat) : Stmt := PySem.Challenge.pw_gavelhall_k32_names_refused.main.body.getD i (.Pass ⟨0, 0, 0, 0⟩)
abbrev s__law_cell : Stmt := top 20
abbrev s__law_word : Stmt := top 21
abbrev s__law_names : Stmt := top 22
abbrev s__law_odd : Stmt := top 29
abbrev s__law_spoilt : Stmt := top 32
abbrev s__law_good : Stmt := top 30
abbrev s__law_fault : Stmt := top 31
abbrev s_Stock_names : Stmt := inClass (top 18) 2
abbrev s_is_name : Stmt := top 17
abbrev s_Stock___init__ : Stmt := inClass (top 18) 0
abbrev s__law_taken : Stmt := top 33
abbrev s__law_same : Stmt := top 25
abbrev s__law_other : Stmt := top 24
abbrev s__law_refused : Stmt := top 26
abbrev s__law_by_base : Stmt := top 28
abbrev s__law_too_many : Stmt := top 27
abbrev s__law_kinds : Stmt := top 23
abbrev s_law : Stmt := top 34
abbrev s_NoName___init__ : Stmt := inClass (top 7) 0
abbrev s_TooMany___init__ : Stmt := inClass (top 10) 0
/-! ## each def does what its mirror does -/
section
variable {P : Program} {w : World} {K : PySem.W.Frag} {mg : Str → Option Value} {base : Heap} {cl : Str → Option Addr}
theorem sc__law_cell : FnScope [(PySem.Str.ofString "_law_script"), (PySem.Str.ofString "_law_k")] [(PySem.Str.ofString "_law_script"), (PySem.Str.ofString "_law_k")] (defScope s__law_cell) := ⟨rfl, rfl, rfl, by decide +kernel, rfl, by decide +kernel, by decide +kernel⟩
theorem ok__law_cell {f : Addr} {fd : FuncData} (F : Fun K (PySem.Str.ofString "_law_cell") (PySem.Str.ofString "_law_cell") s__law_cell f fd) (n_len : mg (PySem.Str.ofString "len") = none) : FnOk P w K mg base (L2N.CX P w) 1 f fd [(PySem.Str.ofString "_law_script"), (PySem.Str.ofString "_law_k")] (spV K cl 2 m__law_cell) :=
  have nd := (sc__law_cell).nd
  def_V F sc__law_cell (by decide) (fun cdv A outer s H E hr => ⟨_, ((uss_cons (us_if (ut_cm c_lt (ue_var (pv 1)) (ue_callBL call_len_seq ca_lenL n_len PySem.boot_len (ual (ul_var (pv 0))))) (uss_one (us_ret (ue_mod (ue_ix (ul_var (pv 0)) (ue_var (pv 1))) (ue_pow ue_int ue_int)))) uss_nil)
  (uss_cons (us_if (ut_cm (c_eq (cl := cl) hr.units) (ue_var (pv 0)) (UN.e (un_lst ua_nil))) (uss_one (us_ret (ue_add (ue_mul ue_int (ue_var (pv 1))) ue_int))) uss_nil)
  (uss_one (us_ret (ue_mod (ue_mul (ue_add (ue_mod (ue_ix (ul_var (pv 0)) (ue_mod (ue_var (pv 1)) (ue_callBL call_len_seq ca_lenL n_len PySem.boot_len (ual (ul_var (pv 0)))))) ue_int) (ue_mul ue_int (ue_var (pv 1)))) (ue_add ue_int (ue_mul ue_int (ue_var (pv 1))))) ue_int))))) : USs (cxOf (L2N.CX P w) P w K mg base [(PySem.Str.ofString "_law_script"), (PySem.Str.ofString "_law_k")] (PySem.Str.ofString "_law_cell") (defScope s__law_cell) f cdv A outer s H E) cl (WD E) [] _ _ _ b__law_cell)⟩)
theorem sc__law_word : FnScope [(PySem.Str.ofString "_law_cell_here"), (PySem.Str.ofString "_law_size"), (PySem.Str.ofString "_law_letters"), (PySem.Str.ofString "_law_word_here"), (PySem.Str.ofString "_law_k"), (PySem.Str.ofString "_law_at")] [(PySem.Str.ofString "_law_cell_here"), (PySem.Str.ofString "_law_size")] (defScope s__law_word) := ⟨rfl, rfl, rfl, by decide +kernel, rfl, by decide +kernel, by decide +kernel⟩
theorem ok__law_word {f : Addr} {fd : FuncData} (F : Fun K (PySem.Str.ofString "_law_word") (PySem.Str.ofString "_law_word") s__law_word f fd) (n_range : mg (PySem.Str.ofString "range") = none) (n_divmod : mg (PySem.Str.ofString "divmod") = none) : FnOk P w K mg base (L2N.CX P w) 1 f fd [(PySem.Str.ofString "_law_cell_here"), (PySem.Str.ofString "_law_size")] (spV K cl 2 m__law_word) :=
  have nd := (sc__law_word).nd
  def_V F sc__law_word (by decide) (fun cdv A outer s H E hr => ⟨_, ((uss_cons (us_set (i := 2) nd rfl (by first | exact Or.inl rfl | exact Or.inr rfl) ue_str (by decide))
  (uss_cons (us_set (i := 3) nd rfl (by first | exact Or.inl rfl | exact Or.inr rfl) ue_str (by decide))
  (uss_cons (us_for [1, 4, 5] po_cx calm_cx (ui_range1 n_range (ua_cons (ue_var (pv 1)) ua_nil)) (ug_name (pg_name (i := 4) nd rfl (by first | exact Or.inl rfl | exact Or.inr rfl))) (uss_W [1, 4, 5] (uss_cons (us_asg (ue_callB call_divmodW ca_divmod n_divmod (by decide +kernel) (ua_cons (ue_var (pv 0)) (ua_cons ue_int ua_nil))) (ug_tup calm_cx (ugs_cons (ug_name (pg_name (i := 0) nd rfl (by first | exact Or.inl rfl | exact Or.inr rfl))) (ugs_cons (ug_name (pg_name (i := 5) nd rfl (by first | exact Or.inl rfl | exact Or.inr rfl))) ugs_nil))) (by decide))
  (uss_one (us_set (i := 3) nd rfl (by first | exact Or.inl rfl | exact Or.inr rfl) (ue_add (ue_var (pv 3)) (ue_ixS (ue_var (pv 2)) (ue_var (pv 5)))) (by decide))))) (by decide))
  (uss_one (us_ret (ue_var (pv 3))))))) : USs (cxOf (L2N.CX P w) P w K mg base [(PySem.Str.ofString "_law_cell_here"), (PySem.Str.ofString "_law_size"), (PySem.Str.ofString "_law_letters"), (PySem.Str.ofString "_law_word_here"), (PySem.Str.ofString "_law_k"), (PySem.Str.ofString "_law_at")] (PySem.Str.ofString "_law_word") (defScope s__law_word) f cdv A outer s H E) cl (WD E) [] _ _ _ b__law_word)⟩)
theorem sc__law_names : FnScope [(PySem.Str.ofString "_law_script"), (PySem.Str.ofString "_law_many"), (PySem.Str.ofString "_law_way"), (PySem.Str.ofString "_law_cell_here"), (PySem.Str.ofString "_law_base"), (PySem.Str.ofString "_law_size"), (PySem.Str.ofString "_law_at"), (PySem.Str.ofString "_law_found"), (PySem.Str.ofString "_law_k"), (PySem.Str.ofString "_law_some"), (PySem.Str.ofString "_law_letter")] [(PySem.Str.ofString "_law_script"), (PySem.Str.ofString "_law_many")] (defScope s__law_names) := ⟨rfl, rfl, rfl, by decide +kernel, rfl, by decide +kernel, by decide +kernel⟩
theorem ok__law_names {f : Addr} {fd : FuncData} (F : Fun K (PySem.Str.ofString "_law_names") (PySem.Str.ofString "_law_names") s__law_names f fd) (c__law_cell : Cal P w K mg base 1 (PySem.Str.ofString "_law_cell") [(PySem.Str.ofString "_law_script"), (PySem.Str.ofString "_law_k")] (spV K cl 2 m__law_cell)) (c__law_word : Cal P w K mg base 1 (PySem.Str.ofString "_law_word") [(PySem.Str.ofString "_law_cell_here"), (PySem.Str.ofString "_law_size")] (spV K cl 2 m__law_word)) (n_range : mg (PySem.Str.ofString "range") = none) (n_list : mg (PySem.Str.ofString "list") = none) (n_reversed : mg (PySem.Str.ofString "reversed") = none) : FnOk P w K mg base (L2N.CX P w) 2 f fd [(PySem.Str.ofString "_law_script"), (PySem.Str.ofString "_law_many")] (spN K cl 2 m__law_names) :=
  have nd := (sc__law_names).nd
  def_N F sc__law_names (by decide) (fun cdv A outer s H E hr => ⟨_, ((uss_cons (us_set (i := 2) nd rfl (by first | exact Or.inl rfl | exact Or.inr rfl) (ue_mod (ue_call c__law_cell (hr.mono (by decide)) tk_cx rfl (ua_cons (ue_var (pv 0)) (ua_cons ue_int ua_nil)) (dCons_len (dCons_len dNil_len))) ue_int) (by decide))
  (uss_cons (us_set (i := 3) nd rfl (by first | exact Or.inl rfl | exact Or.inr rfl) (ue_call c__law_cell (hr.mono (by decide)) tk_cx rfl (ua_cons (ue_var (pv 0)) (ua_cons ue_int ua_nil)) (dCons_len (dCons_len dNil_len))) (by decide))
  (uss_cons (us_set (i := 4) nd rfl (by first | exact Or.inl rfl | exact Or.inr rfl) (ue_call c__law_word (hr.mono (by decide)) tk_cx rfl (ua_cons (ue_call c__law_cell (hr.mono (by decide)) tk_cx rfl (ua_cons (ue_var (pv 0)) (ua_cons ue_int ua_nil)) (dCons_len (dCons_len dNil_len))) (ua_cons ue_int ua_nil)) (dCons_len (dCons_len dNil_len))) (by decide))
  (uss_cons (us_if (ut_cm (c_eq (cl := cl) hr.units) (ue_var (pv 2)) ue_int) (uss_cons (us_setLc (i := 7) calm_cx nd rfl rfl (by decide) (sw_true rfl rfl rfl (by decide +kernel)) (UI.weak (ui_range1 n_range (ua_cons (ue_var (pv 1)) ua_nil))) (blkOk_by (own := [((PySem.Str.ofString "_law_k"), 8)]) (by kernel_rfl)) (by decide) (fun _ _ _ _ _ => ⟨_, (ug_name (pg_name (i := 8) nd rfl (by first | exact Or.inl rfl | exact Or.inr rfl)))⟩) (fun _ _ _ _ _ => ⟨_, uts_nil⟩) (fun _ _ _ _ _ => ⟨_, (ue_sliceS (ue_var (pv 4)) uo_none (uo_some (ue_add (ue_var (pv 8)) ue_int)))⟩) rfl)
  (uss_cons (us_if (ut_cm (c_eq (cl := cl) hr.units) (ue_mod (ue_var (pv 3)) ue_int) ue_int) (uss_one (us_setN (i := 7) nd rfl (by first | exact Or.inl rfl | exact Or.inr rfl) (un_listRev calm_cx n_list n_reversed (ul_var (pv 7))) (by decide))) uss_nil)
  (uss_one (us_retO (pv 7))))) uss_nil)
  (uss_cons (us_if (ut_cm (c_eq (cl := cl) hr.units) (ue_var (pv 2)) ue_int) (uss_cons (us_set (i := 9) nd rfl (by first | exact Or.inl rfl | exact Or.inr rfl) (UN.e (un_rep (un_lst (ua_cons ue_str (ua_cons ue_str (ua_cons ue_str (ua_cons ue_str (ua_cons ue_str (ua_cons ue_str (ua_cons ue_str (ua_cons ue_str ua_nil))))))))) ue_int)) (by decide))
  (uss_one (us_retN (un_slice (ul_var (pv 9)) (uo_some (ue_mod (ue_var (pv 3)) ue_int)) (uo_some (ue_add (ue_mod (ue_var (pv 3)) ue_int) (ue_var (pv 1)))))))) uss_nil)
  (uss_cons (us_set (i := 5) nd rfl (by first | exact Or.inl rfl | exact Or.inr rfl) (ue_add ue_int (ue_mod (ue_var (pv 3)) ue_int)) (by decide))
  (uss_cons (us_set (i := 6) nd rfl (by first | exact Or.inl rfl | exact Or.inr rfl) (ue_mod (ue_fdiv (ue_var (pv 3)) ue_int) (ue_var (pv 5))) (by decide))
  (uss_cons (us_setN (i := 7) nd rfl (by first | exact Or.inl rfl | exact Or.inr rfl) (un_lst ua_nil) (by decide))
  (uss_cons (us_for [0, 1, 2, 8, 9, 10] po_cx calm_cx (ui_range1 n_range (ua_cons (ue_var (pv 1)) ua_nil)) (ug_name (pg_name (i := 8) nd rfl (by first | exact Or.inl rfl | exact Or.inr rfl))) (uss_W [0, 1, 2, 8, 9, 10] (uss_cons (us_set (i := 10) nd rfl (by first | exact Or.inl rfl | exact Or.inr rfl) (ue_call c__law_word (hr.mono (by decide)) tk_cx rfl (ua_cons (ue_add (ue_mod (ue_fdiv (ue_var (pv 3)) ue_int) ue_int) (ue_mul (ue_var (pv 8)) (ue_add ue_int (ue_mod (ue_fdiv (ue_var (pv 3)) ue_int) ue_int)))) (ua_cons ue_int ua_nil)) (dCons_len (dCons_len dNil_len))) (by decide))
  (uss_one (us_append (pv 7) (UE.x (ue_add (ue_add (ue_sliceS (ue_var (pv 4)) uo_none (uo_some (ue_var (pv 6)))) (ue_var (pv 10))) (ue_sliceS (ue_var (pv 4)) (uo_some (ue_add (ue_var (pv 6)) ue_int)) (uo_some (ue_var (pv 5)))))) dX_same (pe_bm PySem.F.plainAttrs_list PySem.F.slot_list_append PySem.F.type_list_append mt_append (pv 7) (pa_cons (UX.pe (cl := cl) (UE.x (ue_add (ue_add (ue_sliceS (ue_var (pv 4)) uo_none (uo_some (ue_var (pv 6)))) (ue_var (pv 10))) (ue_sliceS (ue_var (pv 4)) (uo_some (ue_add (ue_var (pv 6)) ue_int)) (uo_some (ue_var (pv 5))))))) pa_nil)))))) (by decide))
  (uss_one (us_retO (pv 7)))))))))))) : USs (cxOf (L2N.CX P w) P w K mg base [(PySem.Str.ofString "_law_script"), (PySem.Str.ofString "_law_many"), (PySem.Str.ofString "_law_way"), (PySem.Str.ofString "_law_cell_here"), (PySem.Str.ofString "_law_base"), (PySem.Str.ofString "_law_size"), (PySem.Str.ofString "_law_at"), (PySem.Str.ofString "_law_found"), (PySem.Str.ofString "_law_k"), (PySem.Str.ofString "_law_some"), (PySem.Str.ofString "_law_letter")] (PySem.Str.ofString "_law_names") (defScope s__law_names) f cdv A outer s H E) cl (WD E) [] _ _ _ b__law_names)⟩)
theorem sc__law_odd : FnScope [(PySem.Str.ofString "_law_cell_here"), (PySem.Str.ofString "_law_some")] [(PySem.Str.ofString "_law_cell_here")] (defScope s__law_odd) := ⟨rfl, rfl, rfl, by decide +kernel, rfl, by decide +kernel, by decide +kernel⟩
theorem ok__law_odd {f : Addr} {fd : FuncData} (F : Fun K (PySem.Str.ofString "_law_odd") (PySem.Str.ofString "_law_odd") s__law_odd f fd)  : FnOk P w K mg base (L2N.CX P w) 1 f fd [(PySem.Str.ofString "_law_cell_here")] (spV K cl 1 m__law_odd) :=
  have nd := (sc__law_odd).nd
  def_V F sc__law_odd (by decide) (fun cdv A outer s H E hr => ⟨_, ((uss_cons (us_set (i := 1) nd rfl (by first | exact Or.inl rfl | exact Or.inr rfl) (UN.e (un_lst (ua_cons ue_str (ua_cons ue_str (ua_cons ue_str (ua_cons ue_str (ua_cons ue_str (ua_cons ue_str (ua_cons ue_str (ua_cons ue_str (ua_cons ue_str (ua_cons ue_str (ua_cons ue_str (ua_cons ue_str (ua_cons ue_str (ua_cons (ue_mulS ue_str ue_int) ua_nil)))))))))))))))) (by decide))
  (uss_cons (us_set (i := 1) nd rfl (by first | exact Or.inl rfl | exact Or.inr rfl) (ue_add (ue_var (pv 1)) (UN.e (un_lst (ua_cons ue_non (ua_cons ue_int (ua_cons ue_bl (ua_cons (UN.e (un_lst (ua_cons ue_str ua_nil))) (ua_cons (ue_tup (ua_cons ue_str ua_nil)) (ua_cons (UN.e un_dict0) (ua_cons ue_int (ua_cons ue_bl ua_nil))))))))))) (by decide))
  (uss_one (us_ret (ue_ix (ul_var (pv 1)) (ue_mod (ue_var (pv 0)) ue_int)))))) : USs (cxOf (L2N.CX P w) P w K mg base [(PySem.Str.ofString "_law_cell_here"), (PySem.Str.ofString "_law_some")] (PySem.Str.ofString "_law_odd") (defScope s__law_odd) f cdv A outer s H E) cl (WD E) [] _ _ _ b__law_odd)⟩)
theorem sc__law_spoilt : FnScope [(PySem.Str.ofString "_law_rows"), (PySem.Str.ofString "_law_at"), (PySem.Str.ofString "_law_cell_here"), (PySem.Str.ofString "_law_found"), (PySem.Str.ofString "_law_way"), (PySem.Str.ofString "_law_name"), (PySem.Str.ofString "_law_kind")] [(PySem.Str.ofString "_law_rows"), (PySem.Str.ofString "_law_at"), (PySem.Str.ofString "_law_cell_here")] (defScope s__law_spoilt) := ⟨rfl, rfl, rfl, by decide +kernel, rfl, by decide +kernel, by decide +kernel⟩
theorem ok__law_spoilt {f : Addr} {fd : FuncData} (F : Fun K (PySem.Str.ofString "_law_spoilt") (PySem.Str.ofString "_law_spoilt") s__law_spoilt f fd) (n_list : mg (PySem.Str.ofString "list") = none) (c__law_odd : Cal P w K mg base 1 (PySem.Str.ofString "_law_odd") [(PySem.Str.ofString "_law_cell_here")] (spV K cl 1 m__law_odd)) : FnOk P w K mg base (L2N.CX P w) 2 f fd [(PySem.Str.ofString "_law_rows"), (PySem.Str.ofString "_law_at"), (PySem.Str.ofString "_law_cell_here")] (spN K cl 3 m__law_spoilt) :=
  have nd := (sc__law_spoilt).nd
  def_N F sc__law_spoilt (by decide) (fun cdv A outer s H E hr => ⟨_, ((uss_cons (us_setN (i := 3) nd rfl (by first | exact Or.inl rfl | exact Or.inr rfl) (un_callTL call_list_of ca_listL n_list boot_list (ual (ul_var (pv 0)))) (by decide))
  (uss_cons (us_asg (ue_ix (ul_var (pv 3)) (ue_var (pv 1))) (ug_tup calm_cx (ugs_cons (ug_name (pg_name (i := 5) nd rfl (by first | exact Or.inl rfl | exact Or.inr rfl))) (ugs_cons (ug_name (pg_name (i := 6) nd rfl (by first | exact Or.inl rfl | exact Or.inr rfl))) ugs_nil))) (by decide))
  (uss_cons (us_set (i := 4) nd rfl (by first | exact Or.inl rfl | exact Or.inr rfl) (ue_mod (ue_var (pv 2)) ue_int) (by decide))
  (uss_cons (us_if (ut_cm (c_eq (cl := cl) hr.units) (ue_var (pv 4)) ue_int) (uss_one (us_setitem (pv 3) (ue_var (pv 1)) (ue_tup (ua_cons (ue_var (pv 5)) (ua_cons (ue_call c__law_odd (hr.mono (by decide)) tk_cx rfl (ua_cons (ue_fdiv (ue_var (pv 2)) ue_int) ua_nil) (dCons_len dNil_len)) ua_nil))) (ps_asg (UE.pe (cl := cl) (W := (WD E)) (ue_tup (ua_cons (ue_var (pv 5)) (ua_cons (ue_call c__law_odd (hr.mono (by decide)) tk_cx rfl (ua_cons (ue_fdiv (ue_var (pv 2)) ue_int) ua_nil) (dCons_len dNil_len)) ua_nil)))) (pg_sub (pv 3) (UE.pe (cl := cl) (W := (WD E)) (ue_var (pv 1))) set_list)))) (uss_one (us_if (UW.t (uw_and (ut_cm (c_eq (cl := cl) hr.units) (ue_var (pv 4)) ue_int) (uw_and1 (ut_cm c_gt (ue_var (pv 1)) ue_int)))) (uss_one (us_setitem (pv 3) (ue_var (pv 1)) (ue_tup (ua_cons (ue_ix (UE.l (ue_ix (ul_var (pv 3)) (ue_mod (ue_fdiv (ue_var (pv 2)) ue_int) (ue_var (pv 1))))) ue_int) (ua_cons (ue_var (pv 6)) ua_nil))) (ps_asg (UE.pe (cl := cl) (W := (WD E)) (ue_tup (ua_cons (ue_ix (UE.l (ue_ix (ul_var (pv 3)) (ue_mod (ue_fdiv (ue_var (pv 2)) ue_int) (ue_var (pv 1))))) ue_int) (ua_cons (ue_var (pv 6)) ua_nil)))) (pg_sub (pv 3) (UE.pe (cl := cl) (W := (WD E)) (ue_var (pv 1))) set_list)))) (uss_one (us_setitem (pv 3) (ue_var (pv 1)) (ue_tup (ua_cons (ue_call c__law_odd (hr.mono (by decide)) tk_cx rfl (ua_cons (ue_fdiv (ue_var (pv 2)) ue_int) ua_nil) (dCons_len dNil_len)) (ua_cons (ue_var (pv 6)) ua_nil))) (ps_asg (UE.pe (cl := cl) (W := (WD E)) (ue_tup (ua_cons (ue_call c__law_odd (hr.mono (by decide)) tk_cx rfl (ua_cons (ue_fdiv (ue_var (pv 2)) ue_int) ua_nil) (dCons_len dNil_len)) (ua_cons (ue_var (pv 6)) ua_nil)))) (pg_sub (pv 3) (UE.pe (cl := cl) (W := (WD E)) (ue_var (pv 1))) set_list)))))))
  (uss_one (us_retO (pv 3))))))) : USs (cxOf (L2N.CX P w) P w K mg base [(PySem.Str.ofString "_law_rows"), (PySem.Str.ofString "_law_at"), (PySem.Str.ofString "_law_cell_here"), (PySem.Str.ofString "_law_found"), (PySem.Str.ofString "_law_way"), (PySem.Str.ofString "_law_name"), (PySem.Str.ofString "_law_kind")] (PySem.Str.ofString "_law_spoilt") (defScope s__law_spoilt) f cdv A outer s H E) cl (WD E) [] _ _ _ b__law_spoilt)⟩)
theorem sc__law_good : FnScope [(PySem.Str.ofString "_law_thing"), (PySem.Str.ofString "_law_sign")] [(PySem.Str.ofString "_law_thing")] (defScope s__law_good) := ⟨rfl, rfl, rfl, by decide +kernel, rfl, by decide +kernel, by decide +kernel⟩
theorem ok__law_good {f : Addr} {fd : FuncData} (F : Fun K (PySem.Str.ofString "_law_good") (PySem.Str.ofString "_law_good") s__law_good f fd) (n_isinstance : mg (PySem.Str.ofString "isinstance") = none) (n_str : mg (PySem.Str.ofString "str") = none) (n_len : mg (PySem.Str.ofString "len") = none) : FnOk P w K mg base (L2N.CX P w) 1 f fd [(PySem.Str.ofString "_law_thing")] (spV K cl 1 m__law_good) :=
  have nd := (sc__law_good).nd
  def_V F sc__law_good (by decide) (fun cdv A outer s H E hr => ⟨_, ((uss_cons (us_if (UW.t (uw_or (ut_not (ut_val (ue_isi .str n_isinstance n_str (ue_var (pv 0))))) (uw_or (ut_cm (c_eq (cl := cl) hr.units) (ue_callB call_len ca_len n_len PySem.boot_len (ua_cons (ue_var (pv 0)) ua_nil)) ue_int) (uw_or1 (ut_cm c_gt (ue_callB call_len ca_len n_len PySem.boot_len (ua_cons (ue_var (pv 0)) ua_nil)) ue_int))))) (uss_one (us_ret ue_bl)) uss_nil)
  (uss_one (us_ret (ue_cm (c_eq (cl := cl) hr.units) (UN.e (un_lc calm_cx nd (UI.weak (ui_v (ue_var (pv 0)))) (blkOk_by (own := [((PySem.Str.ofString "_law_sign"), 1)]) (by kernel_rfl)) (by decide) (fun _ _ _ _ _ => ⟨_, (ug_name (pg_name (i := 1) nd rfl (by first | exact Or.inl rfl | exact Or.inr rfl)))⟩) (fun _ _ _ _ _ => ⟨_, (uts_one (ut_cm c_notInS (ue_var (pv 1)) ue_str))⟩) (fun _ _ _ _ _ => ⟨_, (ue_var (pv 1))⟩) rfl)) (UN.e (un_lst ua_nil)))))) : USs (cxOf (L2N.CX P w) P w K mg base [(PySem.Str.ofString "_law_thing"), (PySem.Str.ofString "_law_sign")] (PySem.Str.ofString "_law_good") (defScope s__law_good) f cdv A outer s H E) cl (WD E) [] _ _ _ b__law_good)⟩)
theorem sc__law_fault : FnScope [(PySem.Str.ofString "_law_rows"), (PySem.Str.ofString "_law_ahead"), (PySem.Str.ofString "_law_name"), (PySem.Str.ofString "_law_kind")] [(PySem.Str.ofString "_law_rows")] (defScope s__law_fault) := ⟨rfl, rfl, rfl, by decide +kernel, rfl, by decide +kernel, by decide +kernel⟩
theorem ok__law_fault {f : Addr} {fd : FuncData} (F : Fun K (PySem.Str.ofString "_law_fault") (PySem.Str.ofString "_law_fault") s__law_fault f fd) (c__law_good : Cal P w K mg base 1 (PySem.Str.ofString "_law_good") [(PySem.Str.ofString "_law_thing")] (spV K cl 1 m__law_good)) : FnOk P w K mg base (L2N.CX P w) 2 f fd [(PySem.Str.ofString "_law_rows")] (spN K cl 1 m__law_fault) :=
  have nd := (sc__law_fault).nd
  def_N F sc__law_fault (by decide) (fun cdv A outer s H E hr => ⟨_, ((uss_cons (us_setN (i := 1) nd rfl (by first | exact Or.inl rfl | exact Or.inr rfl) (un_lst ua_nil) (by decide))
  (uss_cons (us_for [0, 2, 3] po_cx calm_cx (ui_v (ue_var (pv 0))) (ug_tup calm_cx (ugs_cons (ug_name (pg_name (i := 2) nd rfl (by first | exact Or.inl rfl | exact Or.inr rfl))) (ugs_cons (ug_name (pg_name (i := 3) nd rfl (by first | exact Or.inl rfl | exact Or.inr rfl))) ugs_nil))) (uss_W [0, 2, 3] (uss_cons (us_if (UW.t (uw_or (ut_not (ut_val (ue_call c__law_good (hr.mono (by decide)) tk_cx rfl (ua_cons (ue_var (pv 2)) ua_nil) (dCons_len dNil_len)))) (uw_or1 (ut_in (ue_var (pv 2)) (ul_var (pv 1)))))) (uss_one (us_retN (un_lst (ua_cons (ue_var (pv 2)) ua_nil)))) uss_nil)
  (uss_cons (us_if (ut_not (ut_val (ue_call c__law_good (hr.mono (by decide)) tk_cx rfl (ua_cons (ue_var (pv 3)) ua_nil) (dCons_len dNil_len)))) (uss_one (us_retN (un_lst (ua_cons (ue_var (pv 3)) ua_nil)))) uss_nil)
  (uss_one (us_append (pv 1) (UE.x (ue_var (pv 2))) dX_same (pe_bm PySem.F.plainAttrs_list PySem.F.slot_list_append PySem.F.type_list_append mt_append (pv 1) (pa_cons (UX.pe (cl := cl) (UE.x (ue_var (pv 2)))) pa_nil))))))) (by decide))
  (uss_one (us_retN (un_lst ua_nil))))) : USs (cxOf (L2N.CX P w) P w K mg base [(PySem.Str.ofString "_law_rows"), (PySem.Str.ofString "_law_ahead"), (PySem.Str.ofString "_law_name"), (PySem.Str.ofString "_law_kind")] (PySem.Str.ofString "_law_fault") (defScope s__law_fault) f cdv A outer s H E) cl (WD E) [] _ _ _ b__law_fault)⟩)
theorem sc_Stock_names : FnScope [(PySem.Str.ofString "self")] [(PySem.Str.ofString "self")] (defScope s_Stock_names) := ⟨rfl, rfl, rfl, by decide +kernel, rfl, by decide +kernel, by decide +kernel⟩
theorem ok_Stock_names {f : Addr} {fd : FuncData} (F : Fun K (PySem.Str.ofString "names") (PySem.Str.ofString "Stock.names") s_Stock_names f fd) (hF_called : FldOk K cl [(PySem.Str.ofString "Stock")] (PySem.Str.ofString "called")) (n_list : mg (PySem.Str.ofString "list") = none) : FnOk P w K mg base (L2N.CX P w) 1 f fd [(PySem.Str.ofString "self")] (spN K cl 1 m_Stock_names) :=
  have nd := (sc_Stock_names).nd
  def_N F sc_Stock_names (by decide) (fun cdv A outer s H E hr => ⟨_, ((uss_one (us_retN (un_callTL call_list_of ca_listL n_list boot_list (ual (UE.l (ue_fld hF_called (ue_var (pv 0)))))))) : USs (cxOf (L2N.CX P w) P w K mg base [(PySem.Str.ofString "self")] (PySem.Str.ofString "Stock.names") (defScope s_Stock_names) f cdv A outer s H E) cl (WD E) [] _ _ _ b_Stock_names)⟩)
theorem sc_is_name : FnScope [(PySem.Str.ofString "thing"), (PySem.Str.ofString "sign")] [(PySem.Str.ofString "thing")] (defScope s_is_name) := ⟨rfl, rfl, rfl, by decide +kernel, rfl, by decide +kernel, by decide +kernel⟩
theorem ok_is_name {f : Addr} {fd : FuncData} (F : Fun K (PySem.Str.ofString "is_name") (PySem.Str.ofString "is_name") s_is_name f fd) (n_isinstance : mg (PySem.Str.ofString "isinstance") = none) (n_str : mg (PySem.Str.ofString "str") = none) (n_len : mg (PySem.Str.ofString "len") = none) (g_LONGEST : ∃ t, mg (PySem.Str.ofString "LONGEST") = some (.int 8 t)) (g_LETTERS : ∃ t, mg (PySem.Str.ofString "LETTERS") = some (.str (PySem.Str.ofString "abcdefghijklmnopqrstuvwxyz") t)) (n_all : mg (PySem.Str.ofString "all") = none) : FnOk P w K mg base (L2N.CX P w) 1 f fd [(PySem.Str.ofString "thing")] (spV K cl 1 m_is_name) :=
  have nd := (sc_is_name).nd
  def_V F sc_is_name (by decide) (fun cdv A outer s H E hr => ⟨_, ((uss_cons (us_if (UW.t (uw_or (ut_not (ut_val (ue_isi .str n_isinstance n_str (ue_var (pv 0))))) (uw_or (ut_cm c_lt (ue_callB call_len ca_len n_len PySem.boot_len (ua_cons (ue_var (pv 0)) ua_nil)) ue_int) (uw_or1 (ut_cm c_gt (ue_callB call_len ca_len n_len PySem.boot_len (ua_cons (ue_var (pv 0)) ua_nil)) (ue_gi g_LONGEST)))))) (uss_one (us_ret ue_bl)) uss_nil)
  (uss_one (us_ret (ue_callBL (cr_all rfl) ca_all n_all (by decide +kernel) (ual (UN.l (un_lc calm_cx nd (UI.weak (ui_v (ue_var (pv 0)))) (blkOk_by (own := [((PySem.Str.ofString "sign"), 1)]) (by kernel_rfl)) (by decide) (fun _ _ _ _ _ => ⟨_, (ug_name (pg_name (i := 1) nd rfl (by first | exact Or.inl rfl | exact Or.inr rfl)))⟩) (fun _ _ _ _ _ => ⟨_, uts_nil⟩) (fun _ _ _ _ _ => ⟨_, (ue_cm c_inS (ue_var (pv 1)) (ue_gs g_LETTERS))⟩) rfl))))))) : USs (cxOf (L2N.CX P w) P w K mg base [(PySem.Str.ofString "thing"), (PySem.Str.ofString "sign")] (PySem.Str.ofString "is_name") (defScope s_is_name) f cdv A outer s H E) cl (WD E) [] _ _ _ b_is_name)⟩)
theorem sc_Stock___init__ : FnScope [(PySem.Str.ofString "self"), (PySem.Str.ofString "rows"), (PySem.Str.ofString "name"), (PySem.Str.ofString "kind")] [(PySem.Str.ofString "self"), (PySem.Str.ofString "rows")] (defScope s_Stock___init__) := ⟨rfl, rfl, rfl, by decide +kernel, rfl, by decide +kernel, by decide +kernel⟩
theorem ok_Stock___init__ {f : Addr} {fd : FuncData} (F : Fun K (PySem.Str.ofString "__init__") (PySem.Str.ofString "Stock.__init__") s_Stock___init__ f fd) (n_len : mg (PySem.Str.ofString "len") = none) (g_MOST_THINGS : ∃ t, mg (PySem.Str.ofString "MOST_THINGS") = some (.int 6 t)) (hX_TooMany : CalXI P w K mg base cl 1 (PySem.Str.ofString "TooMany") (PySem.Str.ofString "number")) (hF_called : FldOk K cl [(PySem.Str.ofString "Stock")] (PySem.Str.ofString "called")) (hF_sorts : FldOk K cl [(PySem.Str.ofString "Stock")] (PySem.Str.ofString "sorts")) (c_is_name : Cal P w K mg base 1 (PySem.Str.ofString "is_name") [(PySem.Str.ofString "thing")] (spV K cl 1 m_is_name)) (hX_NoName : CalXI P w K mg base cl 1 (PySem.Str.ofString "NoName") (PySem.Str.ofString "name")) : FnOk P w K mg base (L2N.CX P w) 3 f fd [(PySem.Str.ofString "self"), (PySem.Str.ofString "rows")] (spI K cl 2 m_Stock___init__) :=
  have nd := (sc_Stock___init__).nd
  def_I F sc_Stock___init__ (by decide) (fun p cdv A outer s H E hr => ⟨_, ((uss_cons (us_if (ut_cm c_gt (ue_callBL call_len_seq ca_lenL n_len PySem.boot_len (ual (ul_var (pv 1)))) (ue_gi g_MOST_THINGS)) (uss_one (us_raiseI calm_cx tk_cx hX_TooMany (hr.mono (by decide)) (ua_cons (ue_callBL call_len_seq ca_lenL n_len PySem.boot_len (ual (ul_var (pv 1)))) ua_nil) (dCons_len1 dNil_len1))) uss_nil)
  (uss_cons (us_setFldQ hF_called (pv 0) (UN.q (un_lst ua_nil)))
  (uss_cons (us_setFldQ hF_sorts (pv 0) (UN.q (un_lst ua_nil)))
  (uss_one (us_for [1, 2, 3] po_cx calm_cx (ui_v (ue_var (pv 1))) (ug_tup calm_cx (ugs_cons (ug_name (pg_name (i := 2) nd rfl (by first | exact Or.inl rfl | exact Or.inr rfl))) (ugs_cons (ug_name (pg_name (i := 3) nd rfl (by first | exact Or.inl rfl | exact Or.inr rfl))) ugs_nil))) (uss_W [1, 2, 3] (uss_cons (us_if (UW.t (uw_or (ut_not (ut_val (ue_call c_is_name (hr.mono (by decide)) tk_cx rfl (ua_cons (ue_var (pv 2)) ua_nil) (dCons_len dNil_len)))) (uw_or1 (ut_pk [0] (ut_in (ue_var (pv 2)) (UE.l (ue_fld hF_called (ue_var (pv 0))))))))) (uss_one (us_raiseI calm_cx tk_cx hX_NoName (hr.mono (by decide)) (ua_cons (ue_var (pv 2)) ua_nil) (dCons_len1 dNil_len1))) uss_nil)
  (uss_cons (us_if (ut_not (ut_val (ue_call c_is_name (hr.mono (by decide)) tk_cx rfl (ua_cons (ue_var (pv 3)) ua_nil) (dCons_len dNil_len)))) (uss_one (us_raiseI calm_cx tk_cx hX_NoName (hr.mono (by decide)) (ua_cons (ue_var (pv 3)) ua_nil) (dCons_len1 dNil_len1))) uss_nil)
  (uss_cons (us_fldApp hF_called (ue_var (pv 2)) (pe_bm PySem.F.plainAttrs_list PySem.F.slot_list_append PySem.F.type_list_append mt_append (pe_fld (pv 0) rfl) (pa_cons (UE.pe (cl := cl) (W := WF) (ue_var (pv 2))) pa_nil)))
  (uss_one (us_fldApp hF_sorts (ue_var (pv 3)) (pe_bm PySem.F.plainAttrs_list PySem.F.slot_list_append PySem.F.type_list_append mt_append (pe_fld (pv 0) rfl) (pa_cons (UE.pe (cl := cl) (W := WF) (ue_var (pv 3))) pa_nil)))))))) (nps (by decide))))))) : USs (cxOf (L2N.CX P w) P w K mg base [(PySem.Str.ofString "self"), (PySem.Str.ofString "rows"), (PySem.Str.ofString "name"), (PySem.Str.ofString "kind")] (PySem.Str.ofString "Stock.__init__") (defScope s_Stock___init__) f cdv A outer s H E) cl (WD E) [(0, p)] _ _ _ b_Stock___init__)⟩)
theorem okJ_Stock___init__ {f : Addr} {fd : FuncData} (F : Fun K (PySem.Str.ofString "__init__") (PySem.Str.ofString "Stock.__init__") s_Stock___init__ f fd) (n_len : mg (PySem.Str.ofString "len") = none) (g_MOST_THINGS : ∃ t, mg (PySem.Str.ofString "MOST_THINGS") = some (.int 6 t)) (hX_TooMany : CalXI P w K mg base cl 1 (PySem.Str.ofString "TooMany") (PySem.Str.ofString "number")) (hF_called : FldOk K cl [(PySem.Str.ofString "Stock")] (PySem.Str.ofString "called")) (hF_sorts : FldOk K cl [(PySem.Str.ofString "Stock")] (PySem.Str.ofString "sorts")) (c_is_name : Cal P w K mg base 1 (PySem.Str.ofString "is_name") [(PySem.Str.ofString "thing")] (spV K cl 1 m_is_name)) (hX_NoName : CalXI P w K mg base cl 1 (PySem.Str.ofString "NoName") (PySem.Str.ofString "name")) : FnOk P w K mg base (L2N.CX P w) 3 f fd [(PySem.Str.ofString "self"), (PySem.Str.ofString "rows")] (spJ K cl m_J_Stock___init__) :=
  have nd := (sc_Stock___init__).nd
  def_J F sc_Stock___init__ (by decide) rfl (fun p q cdv A outer s H E hr => ⟨_, ((uss_cons (us_if (ut_cm c_gt (ue_callBL call_len_seq ca_lenL n_len PySem.boot_len (ual (ul_var (pv 1)))) (ue_gi g_MOST_THINGS)) (uss_one (us_raiseI calm_cx tk_cx hX_TooMany (hr.mono (by decide)) (ua_cons (ue_callBL call_len_seq ca_lenL n_len PySem.boot_len (ual (ul_var (pv 1)))) ua_nil) (dCons_len1 dNil_len1))) uss_nil)
  (uss_cons (us_setFldQ hF_called (pv 0) (UN.q (un_lst ua_nil)))
  (uss_cons (us_setFldQ hF_sorts (pv 0) (UN.q (un_lst ua_nil)))
  (uss_one (us_forO [2, 3] po_cx calm_cx (.tail _ (.head _)) (pv 1) (ug_tup calm_cx (ugs_cons (ug_name (pg_name (i := 2) nd rfl (by first | exact Or.inl rfl | exact Or.inr rfl))) (ugs_cons (ug_name (pg_name (i := 3) nd rfl (by first | exact Or.inl rfl | exact Or.inr rfl))) ugs_nil))) (uss_W [2, 3] (uss_cons (us_if (UW.t (uw_or (ut_not (ut_val (ue_call c_is_name (hr.mono (by decide)) tk_cx rfl (ua_cons (ue_var (pv 2)) ua_nil) (dCons_len dNil_len)))) (uw_or1 (ut_pk [0] (ut_in (ue_var (pv 2)) (UE.l (ue_fld hF_called (ue_var (pv 0))))))))) (uss_one (us_raiseI calm_cx tk_cx hX_NoName (hr.mono (by decide)) (ua_cons (ue_var (pv 2)) ua_nil) (dCons_len1 dNil_len1))) uss_nil)
  (uss_cons (us_if (ut_not (ut_val (ue_call c_is_name (hr.mono (by decide)) tk_cx rfl (ua_cons (ue_var (pv 3)) ua_nil) (dCons_len dNil_len)))) (uss_one (us_raiseI calm_cx tk_cx hX_NoName (hr.mono (by decide)) (ua_cons (ue_var (pv 3)) ua_nil) (dCons_len1 dNil_len1))) uss_nil)
  (uss_cons (us_fldApp hF_called (ue_var (pv 2)) (pe_bm PySem.F.plainAttrs_list PySem.F.slot_list_append PySem.F.type_list_append mt_append (pe_fld (pv 0) rfl) (pa_cons (UE.pe (cl := cl) (W := WF) (ue_var (pv 2))) pa_nil)))
  (uss_one (us_fldApp hF_sorts (ue_var (pv 3)) (pe_bm PySem.F.plainAttrs_list PySem.F.slot_list_append PySem.F.type_list_append mt_append (pe_fld (pv 0) rfl) (pa_cons (UE.pe (cl := cl) (W := WF) (ue_var (pv 3))) pa_nil)))))))) (nps2 (by decide))))))) : USs (cxOf (L2N.CX P w) P w K mg base [(PySem.Str.ofString "self"), (PySem.Str.ofString "rows"), (PySem.Str.ofString "name"), (PySem.Str.ofString "kind")] (PySem.Str.ofString "Stock.__init__") (defScope s_Stock___init__) f cdv A outer s H E) cl (WD E) [(0, p), (1, q)] _ _ _ b_J_Stock___init__)⟩)
theorem sc__law_taken : FnScope [(PySem.Str.ofString "_law_rows"), (PySem.Str.ofString "_law_names_here")] [(PySem.Str.ofString "_law_rows"), (PySem.Str.ofString "_law_names_here")] (defScope s__law_taken) := ⟨rfl, rfl, rfl, by decide +kernel, rfl, by decide +kernel, by decide +kernel⟩
theorem ok__law_taken {f : Addr} {fd : FuncData} (F : Fun K (PySem.Str.ofString "_law_taken") (PySem.Str.ofString "_law_taken") s__law_taken f fd) (hM_names : CalM P w K mg base cl 1 1 (PySem.Str.ofString "names") [(PySem.Str.ofString "Stock")] (fun c => spN K cl 1 (onC c m_G_names))) (hI_Stock : CalI P w K mg base cl 3 (PySem.Str.ofString "Stock") 2 (spI K cl 2 m_Stock___init__)) : FnOk P w K mg base (L2N.CX P w) 5 f fd [(PySem.Str.ofString "_law_rows"), (PySem.Str.ofString "_law_names_here")] (spV K cl 2 m__law_taken) :=
  have nd := (sc__law_taken).nd
  def_V F sc__law_taken (by decide) (fun cdv A outer s H E hr => ⟨_, ((uss_one (us_ret (ue_cm (c_eq (cl := cl) hr.units) (UN.e (un_meth0 hM_names (List.cons_ne_nil _ _) (hr.mono (by decide)) tk_cx (ue_make hI_Stock (hr.mono (by decide)) tk_cx (ua_cons (ue_var (pv 0)) ua_nil) (dCons_len1 dNil_len1)))) (ue_var (pv 1))))) : USs (cxOf (L2N.CX P w) P w K mg base [(PySem.Str.ofString "_law_rows"), (PySem.Str.ofString "_law_names_here")] (PySem.Str.ofString "_law_taken") (defScope s__law_taken) f cdv A outer s H E) cl (WD E) [] _ _ _ b__law_taken)⟩)
theorem sc__law_same : FnScope [(PySem.Str.ofString "_law_one"), (PySem.Str.ofString "_law_other_here")] [(PySem.Str.ofString "_law_one"), (PySem.Str.ofString "_law_other_here")] (defScope s__law_same) := ⟨rfl, rfl, rfl, by decide +kernel, rfl, by decide +kernel, by decide +kernel⟩
theorem okX__law_same {f : Addr} {fd : FuncData} (F : Fun K (PySem.Str.ofString "_law_same") (PySem.Str.ofString "_law_same") s__law_same f fd) (n_isinstance : mg (PySem.Str.ofString "isinstance") = none) (n_bool : mg (PySem.Str.ofString "bool") = none) : FnX P w K mg base (L2N.CX P w) 1 f fd [(PySem.Str.ofString "_law_one"), (PySem.Str.ofString "_law_other_here")] (spVX K cl 2 m_H__law_same) :=
  have nd := (sc__law_same).nd
  def_X F sc__law_same (by decide) (fun cdv A outer s H E z q x hr hx => ⟨_, ((uss_one (us_ret (ue_and (ue_cm (c_eqK (cl := cl) hr.units) (ue_isi .bool n_isinstance n_bool (ue_var (pv 0))) (ue_isi .bool n_isinstance n_bool (ue_var (pv 1)))) (ue_one (ue_cm (c_eqK (cl := cl) hr.units) (ue_var (pv 0)) (ue_var (pv 1))))))) : USs (L2H.cxH (L2N.CX P w) P w K mg base [(PySem.Str.ofString "_law_one"), (PySem.Str.ofString "_law_other_here")] (PySem.Str.ofString "_law_same") (defScope s__law_same) f cdv A outer s H E z) cl WF [] _ _ _ (b_H__law_same q x))⟩)
theorem sc__law_other : FnScope [(PySem.Str.ofString "_law_e")] [(PySem.Str.ofString "_law_e")] (defScope s__law_other) := ⟨rfl, rfl, rfl, by decide +kernel, rfl, by decide +kernel, by decide +kernel⟩
theorem okX__law_other {f : Addr} {fd : FuncData} (F : Fun K (PySem.Str.ofString "_law_other") (PySem.Str.ofString "_law_other") s__law_other f fd) (hTT_NoBid_NoBundle_NoNumber_NoPaper_NoRow : IsET K mg cl [(PySem.Str.ofString "NoBid"), (PySem.Str.ofString "NoBundle"), (PySem.Str.ofString "NoNumber"), (PySem.Str.ofString "NoPaper"), (PySem.Str.ofString "NoRow")] [((PySem.Str.ofString "NoName"), false), ((PySem.Str.ofString "TooMany"), false)]) (n_isinstance : mg (PySem.Str.ofString "isinstance") = none) (hTT_BadStep_NoText_TooLate : IsET K mg cl [(PySem.Str.ofString "BadStep"), (PySem.Str.ofString "NoText"), (PySem.Str.ofString "TooLate")] [((PySem.Str.ofString "NoName"), false), ((PySem.Str.ofString "TooMany"), false)]) : FnX P w K mg base (L2N.CX P w) 1 f fd [(PySem.Str.ofString "_law_e")] (spVX K cl 1 m_H__law_other) :=
  have nd := (sc__law_other).nd
  def_X F sc__law_other (by decide) (fun cdv A outer s H E z q x hr hx => ⟨_, ((uss_cons (us_if (ut_val (ue_isET hx n_isinstance hTT_NoBid_NoBundle_NoNumber_NoPaper_NoRow (ue_var (pv 0)) (cn_cons rfl (by decide) rfl (cn_cons rfl (by decide) rfl (cn_cons rfl (by decide) rfl (cn_cons rfl (by decide) rfl (cn_cons rfl (by decide) rfl cn_nil))))))) (uss_one (us_ret ue_bl)) uss_nil)
  (uss_one (us_ret (ue_isET hx n_isinstance hTT_BadStep_NoText_TooLate (ue_var (pv 0)) (cn_cons rfl (by decide) rfl (cn_cons rfl (by decide) rfl (cn_cons rfl (by decide) rfl cn_nil))))))) : USs (L2H.cxH (L2N.CX P w) P w K mg base [(PySem.Str.ofString "_law_e")] (PySem.Str.ofString "_law_other") (defScope s__law_other) f cdv A outer s H E z) cl WF [] _ _ _ (b_H__law_other q x))⟩)
theorem sc__law_refused : FnScope [(PySem.Str.ofString "_law_rows"), (PySem.Str.ofString "_law_fault_here"), (PySem.Str.ofString "_law_e"), (PySem.Str.ofString "_law_right")] [(PySem.Str.ofString "_law_rows"), (PySem.Str.ofString "_law_fault_here")] (defScope s__law_refused) := ⟨rfl, rfl, rfl, by decide +kernel, rfl, by decide +kernel, by decide +kernel⟩
theorem ok__law_refused {f : Addr} {fd : FuncData} (F : Fun K (PySem.Str.ofString "_law_refused") (PySem.Str.ofString "_law_refused") s__law_refused f fd) (hC_NoName : CatF K mg cl (PySem.Str.ofString "NoName") [((PySem.Str.ofString "NoName"), true), ((PySem.Str.ofString "TooMany"), false)]) (hI_Stock : CalI P w K mg base cl 3 (PySem.Str.ofString "Stock") 2 (spI K cl 2 m_Stock___init__)) (hT_HallError : IsE K mg cl (PySem.Str.ofString "HallError") [((PySem.Str.ofString "NoName"), true), ((PySem.Str.ofString "TooMany"), true)]) (n_isinstance : mg (PySem.Str.ofString "isinstance") = none) (hT_ValueError : IsE K mg cl (PySem.Str.ofString "ValueError") [((PySem.Str.ofString "NoName"), true), ((PySem.Str.ofString "TooMany"), true)]) (x__law_other : CalX P w K mg base cl 1 (PySem.Str.ofString "_law_other") [(PySem.Str.ofString "_law_e")] 1 m_H__law_other) (hT_TooMany : IsE K mg cl (PySem.Str.ofString "TooMany") [((PySem.Str.ofString "NoName"), false), ((PySem.Str.ofString "TooMany"), true)]) (x__law_same : CalX P w K mg base cl 1 (PySem.Str.ofString "_law_same") [(PySem.Str.ofString "_law_one"), (PySem.Str.ofString "_law_other_here")] 2 m_H__law_same) (hFX_name : FldX K cl [(PySem.Str.ofString "NoName")] (PySem.Str.ofString "name")) : FnOk P w K mg base (L2N.CX P w) 5 f fd [(PySem.Str.ofString "_law_rows"), (PySem.Str.ofString "_law_fault_here")] (spV K cl 2 m__law_refused) :=
  have nd := (sc__law_refused).nd
  def_V F sc__law_refused (by decide) (fun cdv A outer s H E hr => ⟨_, ((uss_cons (us_tryAs (i := 2) (RPa := fun z => RPV K cl [(2, z)]) rfl rfl nd rfl rfl hC_NoName tk_cx (by decide) (fun _ _ _ _ _ _ h => rpV_cons h) (fun _ _ _ tkT poT => ⟨_, (uss_one (us_expr (ue_make hI_Stock (hr.mono (by decide)) tkT (ua_cons (ue_var (pv 0)) ua_nil) (dCons_len1 dNil_len1))))⟩) (fun q x oe pn hx => ⟨_, (uss_cons (us_set (i := 3) nd rfl (by first | exact Or.inl rfl | exact Or.inr rfl) (ue_and (ue_isE hx n_isinstance hT_HallError (ue_var (pv 2))) (ue_and (ue_isE hx n_isinstance hT_ValueError (ue_var (pv 2))) (ue_one (ue_not (ue_callX hx x__law_other (roomX (hr.mono (by decide))) takesN0 rfl (ua_cons (ue_var (pv 2)) ua_nil) (dCons_len dNil_len)))))) (np (by decide)))
  (uss_one (us_ret (ue_and (ue_var (pv 3)) (ue_and (ue_not (ue_isE hx n_isinstance hT_TooMany (ue_var (pv 2)))) (ue_one (ue_callX hx x__law_same (roomX (hr.mono (by decide))) takesN0 rfl (ua_cons (ue_fldE hx hFX_name (ue_var (pv 2))) (ua_cons (ue_var (pv 1)) ua_nil)) (dCons_len (dCons_len dNil_len)))))))))⟩))
  (uss_one (us_ret ue_bl))) : USs (cxOf (L2N.CX P w) P w K mg base [(PySem.Str.ofString "_law_rows"), (PySem.Str.ofString "_law_fault_here"), (PySem.Str.ofString "_law_e"), (PySem.Str.ofString "_law_right")] (PySem.Str.ofString "_law_refused") (defScope s__law_refused) f cdv A outer s H E) cl (WD E) [] _ _ _ b__law_refused)⟩)
theorem sc__law_by_base : FnScope [(PySem.Str.ofString "_law_rows")] [(PySem.Str.ofString "_law_rows")] (defScope s__law_by_base) := ⟨rfl, rfl, rfl, by decide +kernel, rfl, by decide +kernel, by decide +kernel⟩
theorem ok__law_by_base {f : Addr} {fd : FuncData} (F : Fun K (PySem.Str.ofString "_law_by_base") (PySem.Str.ofString "_law_by_base") s__law_by_base f fd) (hC_HallError : CatF K mg cl (PySem.Str.ofString "HallError") [((PySem.Str.ofString "NoName"), true), ((PySem.Str.ofString "TooMany"), true)]) (hI_Stock : CalI P w K mg base cl 3 (PySem.Str.ofString "Stock") 2 (spI K cl 2 m_Stock___init__)) : FnOk P w K mg base (L2N.CX P w) 5 f fd [(PySem.Str.ofString "_law_rows")] (spV K cl 1 m__law_by_base) :=
  have nd := (sc__law_by_base).nd
  def_V F sc__law_by_base (by decide) (fun cdv A outer s H E hr => ⟨_, ((uss_cons (us_tryO rfl rfl hC_HallError tk_cx (fun _ _ _ tkT poT => ⟨_, (uss_one (us_expr (ue_make hI_Stock (hr.mono (by decide)) tkT (ua_cons (ue_var (pv 0)) ua_nil) (dCons_len1 dNil_len1))))⟩) (fun _ _ _ => ⟨_, (uss_one (us_ret ue_bl))⟩))
  (uss_one (us_ret ue_bl))) : USs (cxOf (L2N.CX P w) P w K mg base [(PySem.Str.ofString "_law_rows")] (PySem.Str.ofString "_law_by_base") (defScope s__law_by_base) f cdv A outer s H E) cl (WD E) [] _ _ _ b__law_by_base)⟩)
theorem sc__law_too_many : FnScope [(PySem.Str.ofString "_law_rows"), (PySem.Str.ofString "_law_e"), (PySem.Str.ofString "_law_right")] [(PySem.Str.ofString "_law_rows")] (defScope s__law_too_many) := ⟨rfl, rfl, rfl, by decide +kernel, rfl, by decide +kernel, by decide +kernel⟩
theorem ok__law_too_many {f : Addr} {fd : FuncData} (F : Fun K (PySem.Str.ofString "_law_too_many") (PySem.Str.ofString "_law_too_many") s__law_too_many f fd) (hC_TooMany : CatF K mg cl (PySem.Str.ofString "TooMany") [((PySem.Str.ofString "NoName"), false), ((PySem.Str.ofString "TooMany"), true)]) (hI_Stock : CalI P w K mg base cl 3 (PySem.Str.ofString "Stock") 2 (spI K cl 2 m_Stock___init__)) (hT_HallError : IsE K mg cl (PySem.Str.ofString "HallError") [((PySem.Str.ofString "NoName"), true), ((PySem.Str.ofString "TooMany"), true)]) (n_isinstance : mg (PySem.Str.ofString "isinstance") = none) (hT_ValueError : IsE K mg cl (PySem.Str.ofString "ValueError") [((PySem.Str.ofString "NoName"), true), ((PySem.Str.ofString "TooMany"), true)]) (x__law_other : CalX P w K mg base cl 1 (PySem.Str.ofString "_law_other") [(PySem.Str.ofString "_law_e")] 1 m_H__law_other) (hT_NoName : IsE K mg cl (PySem.Str.ofString "NoName") [((PySem.Str.ofString "NoName"), true), ((PySem.Str.ofString "TooMany"), false)]) (x__law_same : CalX P w K mg base cl 1 (PySem.Str.ofString "_law_same") [(PySem.Str.ofString "_law_one"), (PySem.Str.ofString "_law_other_here")] 2 m_H__law_same) (n_len : mg (PySem.Str.ofString "len") = none) (hFX_number : FldX K cl [(PySem.Str.ofString "TooMany")] (PySem.Str.ofString "number")) : FnOk P w K mg base (L2N.CX P w) 5 f fd [(PySem.Str.ofString "_law_rows")] (spV K cl 1 m__law_too_many) :=
  have nd := (sc__law_too_many).nd
  def_V F sc__law_too_many (by decide) (fun cdv A outer s H E hr => ⟨_, ((uss_cons (us_tryAs (i := 1) (RPa := fun z => RPV K cl [(1, z)]) rfl rfl nd rfl rfl hC_TooMany tk_cx (by decide) (fun _ _ _ _ _ _ h => rpV_cons h) (fun _ _ _ tkT poT => ⟨_, (uss_one (us_expr (ue_make hI_Stock (hr.mono (by decide)) tkT (ua_cons (ue_var (pv 0)) ua_nil) (dCons_len1 dNil_len1))))⟩) (fun q x oe pn hx => ⟨_, (uss_cons (us_set (i := 2) nd rfl (by first | exact Or.inl rfl | exact Or.inr rfl) (ue_and (ue_isE hx n_isinstance hT_HallError (ue_var (pv 1))) (ue_and (ue_isE hx n_isinstance hT_ValueError (ue_var (pv 1))) (ue_one (ue_not (ue_callX hx x__law_other (roomX (hr.mono (by decide))) takesN0 rfl (ua_cons (ue_var (pv 1)) ua_nil) (dCons_len dNil_len)))))) (np (by decide)))
  (uss_one (us_ret (ue_and (ue_var (pv 2)) (ue_and (ue_not (ue_isE hx n_isinstance hT_NoName (ue_var (pv 1)))) (ue_one (ue_callX hx x__law_same (roomX (hr.mono (by decide))) takesN0 rfl (ua_cons (ue_fldE hx hFX_number (ue_var (pv 1))) (ua_cons (ue_callBL call_len_seq ca_lenL n_len PySem.boot_len (ual (ul_var (pv 0)))) ua_nil)) (dCons_len (dCons_len dNil_len)))))))))⟩))
  (uss_one (us_ret ue_bl))) : USs (cxOf (L2N.CX P w) P w K mg base [(PySem.Str.ofString "_law_rows"), (PySem.Str.ofString "_law_e"), (PySem.Str.ofString "_law_right")] (PySem.Str.ofString "_law_too_many") (defScope s__law_too_many) f cdv A outer s H E) cl (WD E) [] _ _ _ b__law_too_many)⟩)
theorem sc__law_kinds : FnScope [(PySem.Str.ofString "_law_script"), (PySem.Str.ofString "_law_names_here"), (PySem.Str.ofString "_law_pool"), (PySem.Str.ofString "_law_k")] [(PySem.Str.ofString "_law_script"), (PySem.Str.ofString "_law_names_here")] (defScope s__law_kinds) := ⟨rfl, rfl, rfl, by decide +kernel, rfl, by decide +kernel, by decide +kernel⟩
theorem ok__law_kinds {f : Addr} {fd : FuncData} (F : Fun K (PySem.Str.ofString "_law_kinds") (PySem.Str.ofString "_law_kinds") s__law_kinds f fd) (c__law_word : Cal P w K mg base 1 (PySem.Str.ofString "_law_word") [(PySem.Str.ofString "_law_cell_here"), (PySem.Str.ofString "_law_size")] (spV K cl 2 m__law_word)) (c__law_cell : Cal P w K mg base 1 (PySem.Str.ofString "_law_cell") [(PySem.Str.ofString "_law_script"), (PySem.Str.ofString "_law_k")] (spV K cl 2 m__law_cell)) (n_len : mg (PySem.Str.ofString "len") = none) (n_range : mg (PySem.Str.ofString "range") = none) : FnOk P w K mg base (L2N.CX P w) 2 f fd [(PySem.Str.ofString "_law_script"), (PySem.Str.ofString "_law_names_here")] (spN K cl 2 m__law_kinds) :=
  have nd := (sc__law_kinds).nd
  def_N F sc__law_kinds (by decide) (fun cdv A outer s H E hr => ⟨_, ((uss_cons (us_set (i := 2) nd rfl (by first | exact Or.inl rfl | exact Or.inr rfl) (UN.e (un_lst (ua_cons (ue_call c__law_word (hr.mono (by decide)) tk_cx rfl (ua_cons (ue_call c__law_cell (hr.mono (by decide)) tk_cx rfl (ua_cons (ue_var (pv 0)) (ua_cons ue_int ua_nil)) (dCons_len (dCons_len dNil_len))) (ua_cons (ue_add ue_int (ue_mod (ue_call c__law_cell (hr.mono (by decide)) tk_cx rfl (ua_cons (ue_var (pv 0)) (ua_cons ue_int ua_nil)) (dCons_len (dCons_len dNil_len))) ue_int)) ua_nil)) (dCons_len (dCons_len dNil_len))) (ua_cons (ue_ix (UE.l (ue_add (ue_var (pv 1)) (UN.e (un_lst (ua_cons ue_str ua_nil))))) ue_int) (ua_cons ue_str ua_nil))))) (by decide))
  (uss_one (us_retN (un_lc calm_cx nd (UI.weak (ui_range1 n_range (ua_cons (ue_callBL call_len_seq ca_lenL n_len PySem.boot_len (ual (ul_var (pv 1)))) ua_nil))) (blkOk_by (own := [((PySem.Str.ofString "_law_k"), 3)]) (by kernel_rfl)) (by decide) (fun _ _ _ _ _ => ⟨_, (ug_name (pg_name (i := 3) nd rfl (by first | exact Or.inl rfl | exact Or.inr rfl)))⟩) (fun _ _ _ _ _ => ⟨_, uts_nil⟩) (fun _ _ _ _ _ => ⟨_, (ue_ix (ul_var (pv 2)) (ue_mod (ue_fdiv (ue_call c__law_cell (hr.mono (by decide)) takesN0 rfl (ua_cons (ue_var (pv 0)) (ua_cons ue_int ua_nil)) (dCons_len (dCons_len dNil_len))) (ue_add ue_int (ue_mul (ue_var (pv 3)) (ue_var (pv 3))))) ue_int))⟩) rfl)))) : USs (cxOf (L2N.CX P w) P w K mg base [(PySem.Str.ofString "_law_script"), (PySem.Str.ofString "_law_names_here"), (PySem.Str.ofString "_law_pool"), (PySem.Str.ofString "_law_k")] (PySem.Str.ofString "_law_kinds") (defScope s__law_kinds) f cdv A outer s H E) cl (WD E) [] _ _ _ b__law_kinds)⟩)
theorem sc_law : FnScope [(PySem.Str.ofString "_law_script"), (PySem.Str.ofString "_law_names_here"), (PySem.Str.ofString "_law_good_here"), (PySem.Str.ofString "_law_bad"), (PySem.Str.ofString "_law_fault_here"), (PySem.Str.ofString "_law_handed"), (PySem.Str.ofString "_law_many"), (PySem.Str.ofString "_law_rows"), (PySem.Str.ofString "_law_k"), (PySem.Str.ofString "_law_name"), (PySem.Str.ofString "_law_kind")] [(PySem.Str.ofString "_law_script")] (defScope s_law) := ⟨rfl, rfl, rfl, by decide +kernel, rfl, by decide +kernel, by decide +kernel⟩
theorem ok_law {f : Addr} {fd : FuncData} (F : Fun K (PySem.Str.ofString "law") (PySem.Str.ofString "law") s_law f fd) (c__law_names : Cal P w K mg base 2 (PySem.Str.ofString "_law_names") [(PySem.Str.ofString "_law_script"), (PySem.Str.ofString "_law_many")] (spN K cl 2 m__law_names)) (c__law_cell : Cal P w K mg base 1 (PySem.Str.ofString "_law_cell") [(PySem.Str.ofString "_law_script"), (PySem.Str.ofString "_law_k")] (spV K cl 2 m__law_cell)) (c__law_kinds : Cal P w K mg base 2 (PySem.Str.ofString "_law_kinds") [(PySem.Str.ofString "_law_script"), (PySem.Str.ofString "_law_names_here")] (spN K cl 2 m__law_kinds)) (n_zip : mg (PySem.Str.ofString "zip") = none) (c__law_spoilt : Cal P w K mg base 2 (PySem.Str.ofString "_law_spoilt") [(PySem.Str.ofString "_law_rows"), (PySem.Str.ofString "_law_at"), (PySem.Str.ofString "_law_cell_here")] (spN K cl 3 m__law_spoilt)) (n_len : mg (PySem.Str.ofString "len") = none) (c__law_fault : Cal P w K mg base 2 (PySem.Str.ofString "_law_fault") [(PySem.Str.ofString "_law_rows")] (spN K cl 1 m__law_fault)) (c__law_taken : Cal P w K mg base 5 (PySem.Str.ofString "_law_taken") [(PySem.Str.ofString "_law_rows"), (PySem.Str.ofString "_law_names_here")] (spV K cl 2 m__law_taken)) (n_list : mg (PySem.Str.ofString "list") = none) (c__law_refused : Cal P w K mg base 5 (PySem.Str.ofString "_law_refused") [(PySem.Str.ofString "_law_rows"), (PySem.Str.ofString "_law_fault_here")] (spV K cl 2 m__law_refused)) (c__law_by_base : Cal P w K mg base 5 (PySem.Str.ofString "_law_by_base") [(PySem.Str.ofString "_law_rows")] (spV K cl 1 m__law_by_base)) (n_range : mg (PySem.Str.ofString "range") = none) (c__law_word : Cal P w K mg base 1 (PySem.Str.ofString "_law_word") [(PySem.Str.ofString "_law_cell_here"), (PySem.Str.ofString "_law_size")] (spV K cl 2 m__law_word)) (c__law_odd : Cal P w K mg base 1 (PySem.Str.ofString "_law_odd") [(PySem.Str.ofString "_law_cell_here")] (spV K cl 1 m__law_odd)) (c__law_too_many : Cal P w K mg base 5 (PySem.Str.ofString "_law_too_many") [(PySem.Str.ofString "_law_rows")] (spV K cl 1 m__law_too_many)) : FnOk P w K mg base (L2N.CX P w) 6 f fd [(PySem.Str.ofString "_law_script")] (spV K cl 1 m_law) :=
  have nd := (sc_law).nd
  def_V F sc_law (by decide) (fun cdv A outer s H E hr => ⟨_, ((uss_cons (us_set (i := 1) nd rfl (by first | exact Or.inl rfl | exact Or.inr rfl) (UN.e (un_call c__law_names (hr.mono (by decide)) tk_cx rfl (ua_cons (ue_var (pv 0)) (ua_cons (ue_add ue_int (ue_mod (ue_call c__law_cell (hr.mono (by decide)) tk_cx rfl (ua_cons (ue_var (pv 0)) (ua_cons ue_int ua_nil)) (dCons_len (dCons_len dNil_len))) ue_int)) ua_nil)) (dCons_len (dCons_len dNil_len)))) (by decide))
  (uss_cons (us_setLcF (i := 2) calm_cx nd rfl rfl (by decide) (sw_true rfl rfl rfl (by decide +kernel)) (UI.weak (ui_zip n_zip (ua_cons (ue_var (pv 1)) (ua_cons (UN.e (un_call c__law_kinds (hr.mono (by decide)) tk_cx rfl (ua_cons (ue_var (pv 0)) (ua_cons (ue_var (pv 1)) ua_nil)) (dCons_len (dCons_len dNil_len)))) ua_nil)))) (blkOk_by (own := [((PySem.Str.ofString "_law_name"), 9), ((PySem.Str.ofString "_law_kind"), 10)]) (by kernel_rfl)) (by decide) (fun _ _ _ _ _ => ⟨_, (ug_tup rfl (ugs_cons (ug_name (pg_name (i := 9) nd rfl (by first | exact Or.inl rfl | exact Or.inr rfl))) (ugs_cons (ug_name (pg_name (i := 10) nd rfl (by first | exact Or.inl rfl | exact Or.inr rfl))) ugs_nil)))⟩) (fun _ _ _ _ _ => ⟨_, uts_nil⟩) (fun _ _ _ _ _ => ⟨_, (ue_tup (ua_cons (ue_var (pv 9)) (ua_cons (ue_var (pv 10)) ua_nil)))⟩) rfl)
  (uss_cons (us_set (i := 3) nd rfl (by first | exact Or.inl rfl | exact Or.inr rfl) (UN.e (un_call c__law_spoilt (hr.mono (by decide)) tk_cx rfl (ua_cons (ue_var (pv 2)) (ua_cons (ue_mod (ue_call c__law_cell (hr.mono (by decide)) tk_cx rfl (ua_cons (ue_var (pv 0)) (ua_cons ue_int ua_nil)) (dCons_len (dCons_len dNil_len))) (ue_callBL call_len_seq ca_lenL n_len PySem.boot_len (ual (ul_var (pv 2))))) (ua_cons (ue_call c__law_cell (hr.mono (by decide)) tk_cx rfl (ua_cons (ue_var (pv 0)) (ua_cons ue_int ua_nil)) (dCons_len (dCons_len dNil_len))) ua_nil))) (dCons_len (dCons_len (dCons_len dNil_len))))) (by decide))
  (uss_cons (us_if (ut_cm (c_eqN (cl := cl) hr.units) (ue_mod (ue_fdiv (ue_call c__law_cell (hr.mono (by decide)) tk_cx rfl (ua_cons (ue_var (pv 0)) (ua_cons ue_int ua_nil)) (dCons_len (dCons_len dNil_len))) ue_int) ue_int) ue_int) (uss_one (us_set (i := 3) nd rfl (by first | exact Or.inl rfl | exact Or.inr rfl) (UN.e (un_call c__law_spoilt (hr.mono (by decide)) tk_cx rfl (ua_cons (ue_var (pv 3)) (ua_cons (ue_mod (ue_call c__law_cell (hr.mono (by decide)) tk_cx rfl (ua_cons (ue_var (pv 0)) (ua_cons ue_int ua_nil)) (dCons_len (dCons_len dNil_len))) (ue_callBL call_len_seq ca_lenL n_len PySem.boot_len (ual (ul_var (pv 2))))) (ua_cons (ue_call c__law_cell (hr.mono (by decide)) tk_cx rfl (ua_cons (ue_var (pv 0)) (ua_cons ue_int ua_nil)) (dCons_len (dCons_len dNil_len))) ua_nil))) (dCons_len (dCons_len (dCons_len dNil_len))))) (by decide))) uss_nil)
  (uss_cons (us_set (i := 4) nd rfl (by first | exact Or.inl rfl | exact Or.inr rfl) (UN.e (un_call c__law_fault (hr.mono (by decide)) tk_cx rfl (ua_cons (ue_var (pv 3)) ua_nil) (dCons_len dNil_len))) (by decide))
  (uss_cons (us_if (UW.t (uw_or (ut_not (ut_val (ue_call c__law_taken (hr.mono (by decide)) tk_cx rfl (ua_cons (ue_var (pv 2)) (ua_cons (ue_var (pv 1)) ua_nil)) (dCons_len (dCons_len dNil_len))))) (uw_or1 (ut_cm (c_eqN (cl := cl) hr.units) (ue_var (pv 4)) (UN.e (un_lst ua_nil)))))) (uss_one (us_ret ue_bl)) uss_nil)
  (uss_cons (us_set (i := 5) nd rfl (by first | exact Or.inl rfl | exact Or.inr rfl) (UN.e (un_callTL call_list_of ca_listL n_list boot_list (ual (ul_var (pv 3))))) (by decide))
  (uss_cons (us_if (UW.t (uw_or (ut_not (ut_val (ue_call c__law_refused (hr.mono (by decide)) tk_cx rfl (ua_cons (ue_var (pv 5)) (ua_cons (ue_ix (ul_var (pv 4)) ue_int) ua_nil)) (dCons_len (dCons_len dNil_len))))) (uw_or (ut_not (ut_val (ue_call c__law_by_base (hr.mono (by decide)) tk_cx rfl (ua_cons (ue_var (pv 3)) ua_nil) (dCons_len dNil_len)))) (uw_or1 (ut_cm (c_ne (cl := cl) hr.units) (ue_callBL call_len_seq ca_lenL n_len PySem.boot_len (ual (ul_var (pv 5)))) (ue_callBL call_len_seq ca_lenL n_len PySem.boot_len (ual (ul_var (pv 3))))))))) (uss_one (us_ret ue_bl)) uss_nil)
  (uss_cons (us_set (i := 6) nd rfl (by first | exact Or.inl rfl | exact Or.inr rfl) (ue_add ue_int (ue_mod (ue_call c__law_cell (hr.mono (by decide)) tk_cx rfl (ua_cons (ue_var (pv 0)) (ua_cons ue_int ua_nil)) (dCons_len (dCons_len dNil_len))) ue_int)) (by decide))
  (uss_cons (us_setLc (i := 7) calm_cx nd rfl rfl (by decide) (sw_true rfl rfl rfl (by decide +kernel)) (UI.weak (ui_range1 n_range (ua_cons (ue_var (pv 6)) ua_nil))) (blkOk_by (own := [((PySem.Str.ofString "_law_k"), 8)]) (by kernel_rfl)) (by decide) (fun _ _ _ _ _ => ⟨_, (ug_name (pg_name (i := 8) nd rfl (by first | exact Or.inl rfl | exact Or.inr rfl)))⟩) (fun _ _ _ _ _ => ⟨_, uts_nil⟩) (fun _ _ _ _ _ => ⟨_, (ue_tup (ua_cons (ue_call c__law_word (hr.mono (by decide)) takesN0 rfl (ua_cons (ue_add (ue_mul (ue_var (pv 8)) ue_int) ue_int) (ua_cons ue_int ua_nil)) (dCons_len (dCons_len dNil_len))) (ua_cons ue_str ua_nil)))⟩) rfl)
  (uss_cons (us_if (ut_cm (c_eqN (cl := cl) hr.units) (ue_mod (ue_call c__law_cell (hr.mono (by decide)) tk_cx rfl (ua_cons (ue_var (pv 0)) (ua_cons ue_int ua_nil)) (dCons_len (dCons_len dNil_len))) ue_int) ue_int) (uss_one (us_setitem (pv 7) (ue_mod (ue_fdiv (ue_call c__law_cell (hr.mono (by decide)) tk_cx rfl (ua_cons (ue_var (pv 0)) (ua_cons ue_int ua_nil)) (dCons_len (dCons_len dNil_len))) ue_int) (ue_var (pv 6))) (ue_tup (ua_cons (ue_call c__law_odd (hr.mono (by decide)) tk_cx rfl (ua_cons (ue_call c__law_cell (hr.mono (by decide)) tk_cx rfl (ua_cons (ue_var (pv 0)) (ua_cons ue_int ua_nil)) (dCons_len (dCons_len dNil_len))) ua_nil) (dCons_len dNil_len)) (ua_cons (ue_call c__law_odd (hr.mono (by decide)) tk_cx rfl (ua_cons (ue_call c__law_cell (hr.mono (by decide)) tk_cx rfl (ua_cons (ue_var (pv 0)) (ua_cons ue_int ua_nil)) (dCons_len (dCons_len dNil_len))) ua_nil) (dCons_len dNil_len)) ua_nil))) (ps_asg (UE.pe (cl := cl) (W := (WD E)) (ue_tup (ua_cons (ue_call c__law_odd (hr.mono (by decide)) tk_cx rfl (ua_cons (ue_call c__law_cell (hr.mono (by decide)) tk_cx rfl (ua_cons (ue_var (pv 0)) (ua_cons ue_int ua_nil)) (dCons_len (dCons_len dNil_len))) ua_nil) (dCons_len dNil_len)) (ua_cons (ue_call c__law_odd (hr.mono (by decide)) tk_cx rfl (ua_cons (ue_call c__law_cell (hr.mono (by decide)) tk_cx rfl (ua_cons (ue_var (pv 0)) (ua_cons ue_int ua_nil)) (dCons_len (dCons_len dNil_len))) ua_nil) (dCons_len dNil_len)) ua_nil)))) (pg_sub (pv 7) (UE.pe (cl := cl) (W := (WD E)) (ue_mod (ue_fdiv (ue_call c__law_cell (hr.mono (by decide)) tk_cx rfl (ua_cons (ue_var (pv 0)) (ua_cons ue_int ua_nil)) (dCons_len (dCons_len dNil_len))) ue_int) (ue_var (pv 6)))) set_list)))) uss_nil)
  (uss_cons (us_frz 7 (us_if (UW.t (uw_or (ut_not (ut_val (ue_call c__law_too_many (hr.mono (by decide)) tk_cx rfl (ua_cons (ue_var (pv 7)) ua_nil) (dCons_len dNil_len)))) (uw_or1 (ut_not (ut_val (ue_call c__law_by_base (hr.mono (by decide)) tk_cx rfl (ua_cons (ue_var (pv 7)) ua_nil) (dCons_len dNil_len))))))) (uss_one (us_ret ue_bl)) uss_nil))
  (uss_one (us_ret (ue_and (ue_call c__law_taken (hr.mono (by decide)) tk_cx rfl (ua_cons (UN.e (un_slice (ul_var (pv 7)) uo_none (uo_some ue_int))) (ua_cons (UN.e (un_lst ua_nil)) ua_nil)) (dCons_len (dCons_len dNil_len))) (ue_one (ue_call c__law_taken (hr.mono (by decide)) tk_cx rfl (ua_cons (ue_var (pv 2)) (ua_cons (ue_var (pv 1)) ua_nil)) (dCons_len (dCons_len dNil_len))))))))))))))))))) : USs (cxOf (L2N.CX P w) P w K mg base [(PySem.Str.ofString "_law_script"), (PySem.Str.ofString "_law_names_here"), (PySem.Str.ofString "_law_good_here"), (PySem.Str.ofString "_law_bad"), (PySem.Str.ofString "_law_fault_here"), (PySem.Str.ofString "_law_handed"), (PySem.Str.ofString "_law_many"), (PySem.Str.ofString "_law_rows"), (PySem.Str.ofString "_law_k"), (PySem.Str.ofString "_law_name"), (PySem.Str.ofString "_law_kind")] (PySem.Str.ofString "law") (defScope s_law) f cdv A outer s H E) cl (WD E) [] _ _ _ b_law)⟩)
theorem sc_NoName___init__ : FnScope [(PySem.Str.ofString "self"), (PySem.Str.ofString "name")] [(PySem.Str.ofString "self"), (PySem.Str.ofString "name")] (defScope s_NoName___init__) := ⟨rfl, rfl, rfl, by decide +kernel, rfl, by decide +kernel, by decide +kernel⟩
theorem okXI_NoName___init__ {f : Addr} {fd : FuncData} (F : Fun K (PySem.Str.ofString "__init__") (PySem.Str.ofString "NoName.__init__") s_NoName___init__ f fd) (hH : IniH K mg (PySem.Str.ofString "HallError")) : FnOk P w K mg base (L2N.CX P w) 1 f fd [(PySem.Str.ofString "self"), (PySem.Str.ofString "name")] (spXv K (PySem.Str.ofString "name")) :=
  have nd := (sc_NoName___init__).nd
  def_XI F sc_NoName___init__ rfl (fun cdv A outer s H E => pss_cons (ps_expr (pe_clinit hH rfl (pa_cons (pv 0) (pa_cons pe_str pa_nil)))) (pss_one (ps_ost (pv 0) (pv 1))))
theorem sc_TooMany___init__ : FnScope [(PySem.Str.ofString "self"), (PySem.Str.ofString "number")] [(PySem.Str.ofString "self"), (PySem.Str.ofString "number")] (defScope s_TooMany___init__) := ⟨rfl, rfl, rfl, by decide +kernel, rfl, by decide +kernel, by decide +kernel⟩
theorem okXI_TooMany___init__ {f : Addr} {fd : FuncData} (F : Fun K (PySem.Str.ofString "__init__") (PySem.Str.ofString "TooMany.__init__") s_TooMany___init__ f fd) (hH : IniH K mg (PySem.Str.ofString "HallError")) : FnOk P w K mg base (L2N.CX P w) 1 f fd [(PySem.Str.ofString "self"), (PySem.Str.ofString "number")] (spXv K (PySem.Str.ofString "number")) :=
  have nd := (sc_TooMany___init__).nd
  def_XI F sc_TooMany___init__ rfl (fun cdv A outer s H E => pss_cons (ps_expr (pe_clinit hH rfl (pa_cons (pv 0) (pa_cons pe_str pa_nil)))) (pss_one (ps_ost (pv 0) (pv 1))))
end
/-! ## the end -/
set_option maxHeartbeats 0 in
theorem all_mk {P : Program} {w : World} {K : PySem.W.Frag} {h : Heap} {mg : Str → Option Value} {fa : Addr} (X : K.In h) (G : h.Ns mainGlobals mg) (hfa : mg (PySem.Str.ofString "law") = some (.ref fa))
  {C_Stock : Addr} (nC_Stock : PySem.W.nsIn K mainGlobals (PySem.Str.ofString "Stock") = some (some (.ref C_Stock)))
  {C_NoName : Addr} (nC_NoName : PySem.W.nsIn K mainGlobals (PySem.Str.ofString "NoName") = some (some (.ref C_NoName)))
  {C_TooMany : Addr} (nC_TooMany : PySem.W.nsIn K mainGlobals (PySem.Str.ofString "TooMany") = some (some (.ref C_TooMany)))
  {C_HallError : Addr} (nC_HallError : PySem.W.nsIn K mainGlobals (PySem.Str.ofString "HallError") = some (some (.ref C_HallError)))
  {C_BadStep : Addr} (nC_BadStep : PySem.W.nsIn K mainGlobals (PySem.Str.ofString "BadStep") = some (some (.ref C_BadStep)))
  {C_NoText : Addr} (nC_NoText : PySem.W.nsIn K mainGlobals (PySem.Str.ofString "NoText") = some (some (.ref C_NoText)))
  {C_TooLate : Addr} (nC_TooLate : PySem.W.nsIn K mainGlobals (PySem.Str.ofString "TooLate") = some (some (.ref C_TooLate)))
  {C_NoBid : Addr} (nC_NoBid : PySem.W.nsIn K mainGlobals (PySem.Str.ofString "NoBid") = some (some (.ref C_NoBid)))
  {C_NoBundle : Addr} (nC_NoBundle : PySem.W.nsIn K mainGlobals (PySem.Str.ofString "NoBundle") = some (some (.ref C_NoBundle)))
  {C_NoNumber : Addr} (nC_NoNumber : PySem.W.nsIn K mainGlobals (PySem.Str.ofString "NoNumber") = some (some (.ref C_NoNumber)))
  {C_NoPaper : Addr} (nC_NoPaper : PySem.W.nsIn K mainGlobals (PySem.Str.ofString "NoPaper") = some (some (.ref C_NoPaper)))
  {C_NoRow : Addr} (nC_NoRow : PySem.W.nsIn K mainGlobals (PySem.Str.ofString "NoRow") = some (some (.ref C_NoRow)))
  {f0 : Addr} {od0 an0 : Option Addr} {sl0 : Array (Option Value)} {oc0 kV0 dc0 pm0 cd0 ct0 : Value}
  (a0 : PySem.W.nsIn K mainGlobals (PySem.Str.ofString "_law_cell") = some (some (.ref f0)))
  (l0 : K.lookup f0 = some ⟨oc0, od0, .func (PySem.W.fnOf (PySem.Str.ofString "_law_cell") (PySem.Str.ofString "_law_cell") (defArgs s__law_cell) (defBody s__law_cell) (defScope s__law_cell) .none kV0 dc0 pm0 an0 cd0 ct0), sl0⟩)
  (c0 : PySem.W.codeIn K cd0 (PySem.Str.ofString "_law_cell") = true) (k0 : PySem.W.keepIn K (.ref f0) = true)
  {f1 : Addr} {od1 an1 : Option Addr} {sl1 : Array (Option Value)} {oc1 kV1 dc1 pm1 cd1 ct1 : Value}
  (a1 : PySem.W.nsIn K mainGlobals (PySem.Str.ofString "_law_word") = some (some (.ref f1)))
  (l1 : K.lookup f1 = some ⟨oc1, od1, .func (PySem.W.fnOf (PySem.Str.ofString "_law_word") (PySem.Str.ofString "_law_word") (defArgs s__law_word) (defBody s__law_word) (defScope s__law_word) .none kV1 dc1 pm1 an1 cd1 ct1), sl1⟩)
  (c1 : PySem.W.codeIn K cd1 (PySem.Str.ofString "_law_word") = true) (k1 : PySem.W.keepIn K (.ref f1) = true)
  {f2 : Addr} {od2 an2 : Option Addr} {sl2 : Array (Option Value)} {oc2 kV2 dc2 pm2 cd2 ct2 : Value}
  (a2 : PySem.W.nsIn K mainGlobals (PySem.Str.ofString "_law_names") = some (some (.ref f2)))
  (l2 : K.lookup f2 = some ⟨oc2, od2, .func (PySem.W.fnOf (PySem.Str.ofString "_law_names") (PySem.Str.ofString "_law_names") (defArgs s__law_names) (defBody s__law_names) (defScope s__law_names) .none kV2 dc2 pm2 an2 cd2 ct2), sl2⟩)
  (c2 : PySem.W.codeIn K cd2 (PySem.Str.ofString "_law_names") = true) (k2 : PySem.W.keepIn K (.ref f2) = true)
  {f3 : Addr} {od3 an3 : Option Addr} {sl3 : Array (Option Value)} {oc3 kV3 dc3 pm3 cd3 ct3 : Value}
  (a3 : PySem.W.nsIn K mainGlobals (PySem.Str.ofString "_law_odd") = some (some (.ref f3)))
  (l3 : K.lookup f3 = some ⟨oc3, od3, .func (PySem.W.fnOf (PySem.Str.ofString "_law_odd") (PySem.Str.ofString "_law_odd") (defArgs s__law_odd) (defBody s__law_odd) (defScope s__law_odd) .none kV3 dc3 pm3 an3 cd3 ct3), sl3⟩)
  (c3 : PySem.W.codeIn K cd3 (PySem.Str.ofString "_law_odd") = true) (k3 : PySem.W.keepIn K (.ref f3) = true)
  {f4 : Addr} {od4 an4 : Option Addr} {sl4 : Array (Option Value)} {oc4 kV4 dc4 pm4 cd4 ct4 : Value}
  (a4 : PySem.W.nsIn K mainGlobals (PySem.Str.ofString "_law_spoilt") = some (some (.ref f4)))
  (l4 : K.lookup f4 = some ⟨oc4, od4, .func (PySem.W.fnOf (PySem.Str.ofString "_law_spoilt") (PySem.Str.ofString "_law_spoilt") (defArgs s__law_spoilt) (defBody s__law_spoilt) (defScope s__law_spoilt) .none kV4 dc4 pm4 an4 cd4 ct4), sl4⟩)
  (c4 : PySem.W.codeIn K cd4 (PySem.Str.ofString "_law_spoilt") = true) (k4 : PySem.W.keepIn K (.ref f4) = true)
  {f5 : Addr} {od5 an5 : Option Addr} {sl5 : Array (Option Value)} {oc5 kV5 dc5 pm5 cd5 ct5 : Value}
  (a5 : PySem.W.nsIn K mainGlobals (PySem.Str.ofString "_law_good") = some (some (.ref f5)))
  (l5 : K.lookup f5 = some ⟨oc5, od5, .func (PySem.W.fnOf (PySem.Str.ofString "_law_good") (PySem.Str.ofString "_law_good") (defArgs s__law_good) (defBody s__law_good) (defScope s__law_good) .none kV5 dc5 pm5 an5 cd5 ct5), sl5⟩)
  (c5 : PySem.W.codeIn K cd5 (PySem.Str.ofString "_law_good") = true) (k5 : PySem.W.keepIn K (.ref f5) = true)
  {f6 : Addr} {od6 an6 : Option Addr} {sl6 : Array (Option Value)} {oc6 kV6 dc6 pm6 cd6 ct6 : Value}
  (a6 : PySem.W.nsIn K mainGlobals (PySem.Str.ofString "_law_fault") = some (some (.ref f6)))
  (l6 : K.lookup f6 = some ⟨oc6, od6, .func (PySem.W.fnOf (PySem.Str.ofString "_law_fault") (PySem.Str.ofString "_law_fault") (defArgs s__law_fault) (defBody s__law_fault) (defScope s__law_fault) .none kV6 dc6 pm6 an6 cd6 ct6), sl6⟩)
  (c6 : PySem.W.codeIn K cd6 (PySem.Str.ofString "_law_fault") = true) (k6 : PySem.W.keepIn K (.ref f6) = true)
  {f7 : Addr} {od7 an7 : Option Addr} {sl7 : Array (Option Value)} {oc7 kV7 dc7 pm7 cd7 ct7 : Value}
  (me_Stock_7 : PySem.W.findIn K (.ref C_Stock) (PySem.Str.ofString "names") = some (some (.ref f7)))
  (fn7 : PySem.W.isFn K (.ref f7) = true)
  (l7 : K.lookup f7 = some ⟨oc7, od7, .func (PySem.W.fnOf (PySem.Str.ofString "names") (PySem.Str.ofString "Stock.names") (defArgs s_Stock_names) (defBody s_Stock_names) (defScope s_Stock_names) .none kV7 dc7 pm7 an7 cd7 ct7), sl7⟩)
  (c7 : PySem.W.codeIn K cd7 (PySem.Str.ofString "Stock.names") = true) (k7 : PySem.W.keepIn K (.ref f7) = true)
  {f8 : Addr} {od8 an8 : Option Addr} {sl8 : Array (Option Value)} {oc8 kV8 dc8 pm8 cd8 ct8 : Value}
  (a8 : PySem.W.nsIn K mainGlobals (PySem.Str.ofString "is_name") = some (some (.ref f8)))
  (l8 : K.lookup f8 = some ⟨oc8, od8, .func (PySem.W.fnOf (PySem.Str.ofString "is_name") (PySem.Str.ofString "is_name") (defArgs s_is_name) (defBody s_is_name) (defScope s_is_name) .none kV8 dc8 pm8 an8 cd8 ct8), sl8⟩)
  (c8 : PySem.W.codeIn K cd8 (PySem.Str.ofString "is_name") = true) (k8 : PySem.W.keepIn K (.ref f8) = true)
  {f9 : Addr} {od9 an9 : Option Addr} {sl9 : Array (Option Value)} {oc9 kV9 dc9 pm9 cd9 ct9 : Value}
  (me_Stock_9 : PySem.W.findIn K (.ref C_Stock) (PySem.Str.ofString "__init__") = some (some (.ref f9)))
  (fn9 : PySem.W.isFn K (.ref f9) = true)
  (l9 : K.lookup f9 = some ⟨oc9, od9, .func (PySem.W.fnOf (PySem.Str.ofString "__init__") (PySem.Str.ofString "Stock.__init__") (defArgs s_Stock___init__) (defBody s_Stock___init__) (defScope s_Stock___init__) .none kV9 dc9 pm9 an9 cd9 ct9), sl9⟩)
  (c9 : PySem.W.codeIn K cd9 (PySem.Str.ofString "Stock.__init__") = true) (k9 : PySem.W.keepIn K (.ref f9) = true)
  {f10 : Addr} {od10 an10 : Option Addr} {sl10 : Array (Option Value)} {oc10 kV10 dc10 pm10 cd10 ct10 : Value}
  (a10 : PySem.W.nsIn K mainGlobals (PySem.Str.ofString "_law_taken") = some (some (.ref f10)))
  (l10 : K.lookup f10 = some ⟨oc10, od10, .func (PySem.W.fnOf (PySem.Str.ofString "_law_taken") (PySem.Str.ofString "_law_taken") (defArgs s__law_taken) (defBody s__law_taken) (defScope s__law_taken) .none kV10 dc10 pm10 an10 cd10 ct10), sl10⟩)
  (c10 : PySem.W.codeIn K cd10 (PySem.Str.ofString "_law_taken") = true) (k10 : PySem.W.keepIn K (.ref f10) = true)
  {f11 : Addr} {od11 an11 : Option Addr} {sl11 : Array (Option Value)} {oc11 kV11 dc11 pm11 cd11 ct11 : Value}
  (a11 : PySem.W.nsIn K mainGlobals (PySem.Str.ofString "_law_same") = some (some (.ref f11)))
  (l11 : K.lookup f11 = some ⟨oc11, od11, .func (PySem.W.fnOf (PySem.Str.ofString "_law_same") (PySem.Str.ofString "_law_same") (defArgs s__law_same) (defBody s__law_same) (defScope s__law_same) .none kV11 dc11 pm11 an11 cd11 ct11), sl11⟩)
  (c11 : PySem.W.codeIn K cd11 (PySem.Str.ofString "_law_same") = true) (k11 : PySem.W.keepIn K (.ref f11) = true)
  {f12 : Addr} {od12 an12 : Option Addr} {sl12 : Array (Option Value)} {oc12 kV12 dc12 pm12 cd12 ct12 : Value}
  (a12 : PySem.W.nsIn K mainGlobals (PySem.Str.ofString "_law_other") = some (some (.ref f12)))
  (l12 : K.lookup f12 = some ⟨oc12, od12, .func (PySem.W.fnOf (PySem.Str.ofString "_law_other") (PySem.Str.ofString "_law_other") (defArgs s__law_other) (defBody s__law_other) (defScope s__law_other) .none kV12 dc12 pm12 an12 cd12 ct12), sl12⟩)
  (c12 : PySem.W.codeIn K cd12 (PySem.Str.ofString "_law_other") = true) (k12 : PySem.W.keepIn K (.ref f12) = true)
  {f13 : Addr} {od13 an13 : Option Addr} {sl13 : Array (Option Value)} {oc13 kV13 dc13 pm13 cd13 ct13 : Value}
  (a13 : PySem.W.nsIn K mainGlobals (PySem.Str.ofString "_law_refused") = some (some (.ref f13)))
  (l13 : K.lookup f13 = some ⟨oc13, od13, .func (PySem.W.fnOf (PySem.Str.ofString "_law_refused") (PySem.Str.ofString "_law_refused") (defArgs s__law_refused) (defBody s__law_refused) (defScope s__law_refused) .none kV13 dc13 pm13 an13 cd13 ct13), sl13⟩)
  (c13 : PySem.W.codeIn K cd13 (PySem.Str.ofString "_law_refused") = true) (k13 : PySem.W.keepIn K (.ref f13) = true)
  {f14 : Addr} {od14 an14 : Option Addr} {sl14 : Array (Option Value)} {oc14 kV14 dc14 pm14 cd14 ct14 : Value}
  (a14 : PySem.W.nsIn K mainGlobals (PySem.Str.ofString "_law_by_base") = some (some (.ref f14)))
  (l14 : K.lookup f14 = some ⟨oc14, od14, .func (PySem.W.fnOf (PySem.Str.ofString "_law_by_base") (PySem.Str.ofString "_law_by_base") (defArgs s__law_by_base) (defBody s__law_by_base) (defScope s__law_by_base) .none kV14 dc14 pm14 an14 cd14 ct14), sl14⟩)
  (c14 : PySem.W.codeIn K cd14 (PySem.Str.ofString "_law_by_base") = true) (k14 : PySem.W.keepIn K (.ref f14) = true)
  {f15 : Addr} {od15 an15 : Option Addr} {sl15 : Array (Option Value)} {oc15 kV15 dc15 pm15 cd15 ct15 : Value}
  (a15 : PySem.W.nsIn K mainGlobals (PySem.Str.ofString "_law_too_many") = some (some (.ref f15)))
  (l15 : K.lookup f15 = some ⟨oc15, od15, .func (PySem.W.fnOf (PySem.Str.ofString "_law_too_many") (PySem.Str.ofString "_law_too_many") (defArgs s__law_too_many) (defBody s__law_too_many) (defScope s__law_too_many) .none kV15 dc15 pm15 an15 cd15 ct15), sl15⟩)
  (c15 : PySem.W.codeIn K cd15 (PySem.Str.ofString "_law_too_many") = true) (k15 : PySem.W.keepIn K (.ref f15) = true)
  {f16 : Addr} {od16 an16 : Option Addr} {sl16 : Array (Option Value)} {oc16 kV16 dc16 pm16 cd16 ct16 : Value}
  (a16 : PySem.W.nsIn K mainGlobals (PySem.Str.ofString "_law_kinds") = some (some (.ref f16)))
  (l16 : K.lookup f16 = some ⟨oc16, od16, .func (PySem.W.fnOf (PySem.Str.ofString "_law_kinds") (PySem.Str.ofString "_law_kinds") (defArgs s__law_kinds) (defBody s__law_kinds) (defScope s__law_kinds) .none kV16 dc16 pm16 an16 cd16 ct16), sl16⟩)
  (c16 : PySem.W.codeIn K cd16 (PySem.Str.ofString "_law_kinds") = true) (k16 : PySem.W.keepIn K (.ref f16) = true)
  {f17 : Addr} {od17 an17 : Option Addr} {sl17 : Array (Option Value)} {oc17 kV17 dc17 pm17 cd17 ct17 : Value}
  (a17 : PySem.W.nsIn K mainGlobals (PySem.Str.ofString "law") = some (some (.ref f17)))
  (l17 : K.lookup f17 = some ⟨oc17, od17, .func (PySem.W.fnOf (PySem.Str.ofString "law") (PySem.Str.ofString "law") (defArgs s_law) (defBody s_law) (defScope s_law) .none kV17 dc17 pm17 an17 cd17 ct17), sl17⟩)
  (c17 : PySem.W.codeIn K cd17 (PySem.Str.ofString "law") = true) (k17 : PySem.W.keepIn K (.ref f17) = true)
  (rd_HallError : PySem.W.readsIn K C_HallError (.type "type") = true) (fi_HallError : PySem.W.findCls K (.ref C_HallError) (.type "type") "__init__" = some (.val (.builtin "ValueError.__init__"))) (sp_HallError : PySem.W.specialIn K (.ref C_HallError) "__getattribute__" = some (some (.builtin "type.__getattribute__")))
  {nm_NoName q_NoName : Str} {N_NoName : Addr} {bs_NoName bm_NoName sub_NoName : List Value} {sn_NoName : List Str} {ab_NoName : Bool} {col_NoName : Option Bool} {dd_NoName : Option Addr} {k0_NoName k1_NoName k2_NoName k3_NoName k5_NoName : Option Value}
  (lx_NoName : K.lookup C_NoName = some (excClassObj nm_NoName q_NoName C_NoName N_NoName bs_NoName bm_NoName true sn_NoName sub_NoName ab_NoName col_NoName dd_NoName k0_NoName k1_NoName k2_NoName k3_NoName k5_NoName "ValueError.__new__")) (rv_NoName : PySem.HandSPX.refsVE bm_NoName = true)
  (xs_NoName : PySem.W.findIn K (.ref C_NoName) "__setattr__" = some (some (.builtin "object.__setattr__"))) (xf_NoName : PySem.W.findIn K (.ref C_NoName) (PySem.Str.ofString "name") = some none)
  {f18 : Addr} {od18 an18 : Option Addr} {sl18 : Array (Option Value)} {oc18 kV18 dc18 pm18 cd18 ct18 : Value}
  (me_NoName_18 : PySem.W.findIn K (.ref C_NoName) "__init__" = some (some (.ref f18))) (tf18 : PySem.W.typeIn K (.ref f18) = some (.type "function"))
  (l18 : K.lookup f18 = some ⟨oc18, od18, .func (PySem.W.fnOf (PySem.Str.ofString "__init__") (PySem.Str.ofString "NoName.__init__") (defArgs s_NoName___init__) (defBody s_NoName___init__) (defScope s_NoName___init__) .none kV18 dc18 pm18 an18 cd18 ct18), sl18⟩)
  (c18 : PySem.W.codeIn K cd18 (PySem.Str.ofString "NoName.__init__") = true) (k18 : PySem.W.keepIn K (.ref f18) = true)
  {nm_TooMany q_TooMany : Str} {N_TooMany : Addr} {bs_TooMany bm_TooMany sub_TooMany : List Value} {sn_TooMany : List Str} {ab_TooMany : Bool} {col_TooMany : Option Bool} {dd_TooMany : Option Addr} {k0_TooMany k1_TooMany k2_TooMany k3_TooMany k5_TooMany : Option Value}
  (lx_TooMany : K.lookup C_TooMany = some (excClassObj nm_TooMany q_TooMany C_TooMany N_TooMany bs_TooMany bm_TooMany true sn_TooMany sub_TooMany ab_TooMany col_TooMany dd_TooMany k0_TooMany k1_TooMany k2_TooMany k3_TooMany k5_TooMany "ValueError.__new__")) (rv_TooMany : PySem.HandSPX.refsVE bm_TooMany = true)
  (xs_TooMany : PySem.W.findIn K (.ref C_TooMany) "__setattr__" = some (some (.builtin "object.__setattr__"))) (xf_TooMany : PySem.W.findIn K (.ref C_TooMany) (PySem.Str.ofString "number") = some none)
  {f19 : Addr} {od19 an19 : Option Addr} {sl19 : Array (Option Value)} {oc19 kV19 dc19 pm19 cd19 ct19 : Value}
  (me_TooMany_19 : PySem.W.findIn K (.ref C_TooMany) "__init__" = some (some (.ref f19))) (tf19 : PySem.W.typeIn K (.ref f19) = some (.type "function"))
  (l19 : K.lookup f19 = some ⟨oc19, od19, .func (PySem.W.fnOf (PySem.Str.ofString "__init__") (PySem.Str.ofString "TooMany.__init__") (defArgs s_TooMany___init__) (defBody s_TooMany___init__) (defScope s_TooMany___init__) .none kV19 dc19 pm19 an19 cd19 ct19), sl19⟩)
  (c19 : PySem.W.codeIn K cd19 (PySem.Str.ofString "TooMany.__init__") = true) (k19 : PySem.W.keepIn K (.ref f19) = true)
  (pg_Stock : PySem.W.plainGet K C_Stock Str.empty = true) (hd_Stock : PySem.W.hasDictIn K C_Stock = true) (po_Stock : PySem.W.plainOver K C_Stock = true) (sa_Stock : PySem.W.findIn K (.ref C_Stock) "__setattr__" = some (some (.builtin "object.__setattr__"))) (mk_Stock : PySem.W.makesIn K C_Stock = true) (kc_Stock : PySem.W.keepIn K (.ref C_Stock) = true)
  (nf_Stock_called : PySem.W.findIn K (.ref C_Stock) (PySem.Str.ofString "called") = some none)
  (nf_Stock_sorts : PySem.W.findIn K (.ref C_Stock) (PySem.Str.ofString "sorts") = some none)
  (eg_NoName : PySem.W.findIn K (.ref C_NoName) "__getattribute__" = some (some (.builtin "BaseException.__getattribute__"))) (eh_NoName : PySem.W.findIn K (.ref C_NoName) "__getattr__" = some none) (ea_NoName : PySem.W.findIn K (.ref C_NoName) "__class__" = some (some (.builtin "object.__class__"))) (em_NoName : PySem.W.mroIn K C_NoName (.type "object") = some true) (kpe_NoName : PySem.W.keepIn K (.ref C_NoName) = true)
  (eg_TooMany : PySem.W.findIn K (.ref C_TooMany) "__getattribute__" = some (some (.builtin "BaseException.__getattribute__"))) (eh_TooMany : PySem.W.findIn K (.ref C_TooMany) "__getattr__" = some none) (ea_TooMany : PySem.W.findIn K (.ref C_TooMany) "__class__" = some (some (.builtin "object.__class__"))) (em_TooMany : PySem.W.mroIn K C_TooMany (.type "object") = some true) (kpe_TooMany : PySem.W.keepIn K (.ref C_TooMany) = true)
  (sb_NoName : PySem.W.subIn K (.ref C_NoName) (.type "BaseException") = some true) (hd_NoName : PySem.W.hasDictIn K C_NoName = true) (ty_NoName : PySem.W.typeIn K (.ref C_NoName) = some (.type "type"))
  (sb_TooMany : PySem.W.subIn K (.ref C_TooMany) (.type "BaseException") = some true) (hd_TooMany : PySem.W.hasDictIn K C_TooMany = true) (ty_TooMany : PySem.W.typeIn K (.ref C_TooMany) = some (.type "type"))
  (sb_HallError : PySem.W.subIn K (.ref C_HallError) (.type "BaseException") = some true) (hd_HallError : PySem.W.hasDictIn K C_HallError = true) (ty_HallError : PySem.W.typeIn K (.ref C_HallError) = some (.type "type"))
  (su_HallError_NoName : PySem.W.subIn K (.ref C_NoName) (.ref C_HallError) = some true)
  (su_HallError_TooMany : PySem.W.subIn K (.ref C_TooMany) (.ref C_HallError) = some true)
  (su_NoName_NoName : PySem.W.subIn K (.ref C_NoName) (.ref C_NoName) = some true)
  (su_NoName_TooMany : PySem.W.subIn K (.ref C_TooMany) (.ref C_NoName) = some false)
  (su_TooMany_NoName : PySem.W.subIn K (.ref C_NoName) (.ref C_TooMany) = some false)
  (su_TooMany_TooMany : PySem.W.subIn K (.ref C_TooMany) (.ref C_TooMany) = some true)
  (ko_HallError_NoName : PySem.W.kitOne K (.ref C_NoName) (.ref C_HallError) = some true)
  (ko_HallError_TooMany : PySem.W.kitOne K (.ref C_TooMany) (.ref C_HallError) = some true)
  (ko_NoName_NoName : PySem.W.kitOne K (.ref C_NoName) (.ref C_NoName) = some true)
  (ko_NoName_TooMany : PySem.W.kitOne K (.ref C_TooMany) (.ref C_NoName) = some false)
  (ko_TooMany_NoName : PySem.W.kitOne K (.ref C_NoName) (.ref C_TooMany) = some false)
  (ko_TooMany_TooMany : PySem.W.kitOne K (.ref C_TooMany) (.ref C_TooMany) = some true)
  (kb_ValueError_NoName : PySem.W.kitOne K (.ref C_NoName) (.type "ValueError") = some true)
  (kb_ValueError_TooMany : PySem.W.kitOne K (.ref C_TooMany) (.type "ValueError") = some true)
  (ko_BadStep_NoName : PySem.W.kitOne K (.ref C_NoName) (.ref C_BadStep) = some false)
  (ko_BadStep_TooMany : PySem.W.kitOne K (.ref C_TooMany) (.ref C_BadStep) = some false)
  (ko_NoText_NoName : PySem.W.kitOne K (.ref C_NoName) (.ref C_NoText) = some false)
  (ko_NoText_TooMany : PySem.W.kitOne K (.ref C_TooMany) (.ref C_NoText) = some false)
  (ko_TooLate_NoName : PySem.W.kitOne K (.ref C_NoName) (.ref C_TooLate) = some false)
  (ko_TooLate_TooMany : PySem.W.kitOne K (.ref C_TooMany) (.ref C_TooLate) = some false)
  (ko_NoBid_NoName : PySem.W.kitOne K (.ref C_NoName) (.ref C_NoBid) = some false)
  (ko_NoBid_TooMany : PySem.W.kitOne K (.ref C_TooMany) (.ref C_NoBid) = some false)
  (ko_NoBundle_NoName : PySem.W.kitOne K (.ref C_NoName) (.ref C_NoBundle) = some false)
  (ko_NoBundle_TooMany : PySem.W.kitOne K (.ref C_TooMany) (.ref C_NoBundle) = some false)
  (ko_NoNumber_NoName : PySem.W.kitOne K (.ref C_NoName) (.ref C_NoNumber) = some false)
  (ko_NoNumber_TooMany : PySem.W.kitOne K (.ref C_TooMany) (.ref C_NoNumber) = some false)
  (ko_NoPaper_NoName : PySem.W.kitOne K (.ref C_NoName) (.ref C_NoPaper) = some false)
  (ko_NoPaper_TooMany : PySem.W.kitOne K (.ref C_TooMany) (.ref C_NoPaper) = some false)
  (ko_NoRow_NoName : PySem.W.kitOne K (.ref C_NoName) (.ref C_NoRow) = some false)
  (ko_NoRow_TooMany : PySem.W.kitOne K (.ref C_TooMany) (.ref C_NoRow) = some false)
  (nf_NoName_name : PySem.W.findIn K (.ref C_NoName) (PySem.Str.ofString "name") = some none)
  (nf_TooMany_number : PySem.W.findIn K (.ref C_TooMany) (PySem.Str.ofString "number") = some none)
  (oc_n : PySem.W.specialIn K (.builtin "object.__class__") "__get__" = some (some (.builtin "getset_descriptor.__get__"))) (oc_t : PySem.W.takesIn K (.builtin "object.__class__") = some true)
  (n_len : PySem.W.nsIn K mainGlobals (PySem.Str.ofString "len") = some none)
  (n_range : PySem.W.nsIn K mainGlobals (PySem.Str.ofString "range") = some none)
  (n_divmod : PySem.W.nsIn K mainGlobals (PySem.Str.ofString "divmod") = some none)
  (n_list : PySem.W.nsIn K mainGlobals (PySem.Str.ofString "list") = some none)
  (n_reversed : PySem.W.nsIn K mainGlobals (PySem.Str.ofString "reversed") = some none)
  (n_isinstance : PySem.W.nsIn K mainGlobals (PySem.Str.ofString "isinstance") = some none)
  (n_str : PySem.W.nsIn K mainGlobals (PySem.Str.ofString "str") = some none)
  {t_g_LONGEST : Tok} (g_LONGEST : PySem.W.nsIn K mainGlobals (PySem.Str.ofString "LONGEST") = some (some (.int 8 t_g_LONGEST)))
  {t_g_LETTERS : Tok} (g_LETTERS : PySem.W.nsIn K mainGlobals (PySem.Str.ofString "LETTERS") = some (some (.str (PySem.Str.ofString "abcdefghijklmnopqrstuvwxyz") t_g_LETTERS)))
  (n_all : PySem.W.nsIn K mainGlobals (PySem.Str.ofString "all") = some none)
  {t_g_MOST_THINGS : Tok} (g_MOST_THINGS : PySem.W.nsIn K mainGlobals (PySem.Str.ofString "MOST_THINGS") = some (some (.int 6 t_g_MOST_THINGS)))
  (n_zip : PySem.W.nsIn K mainGlobals (PySem.Str.ofString "zip") = some none)
  (n_bool : PySem.W.nsIn K mainGlobals (PySem.Str.ofString "bool") = some none)
  (n_ValueError : PySem.W.nsIn K mainGlobals (PySem.Str.ofString "ValueError") = some none) :
    ∃ fd : FuncData, (∀ (s : Shared) (v : Value), BindsTo s fd ⟨[v], []⟩ [((PySem.Str.ofString "_law_script"), v)]) ∧ ∀ base : Heap, K.In base → base.Ns mainGlobals mg → FnOk P w K mg base (L2N.CX P w) 6 fa fd [(PySem.Str.ofString "_law_script")] (spLw K m_law) := by
  have e := hfa.symm.trans (PySem.W.mg_of X G a17)
  cases e
  have F0 := fun_mk (st := s__law_cell) l0 c0 k0
  have F1 := fun_mk (st := s__law_word) l1 c1 k1
  have F2 := fun_mk (st := s__law_names) l2 c2 k2
  have F3 := fun_mk (st := s__law_odd) l3 c3 k3
  have F4 := fun_mk (st := s__law_spoilt) l4 c4 k4
  have F5 := fun_mk (st := s__law_good) l5 c5 k5
  have F6 := fun_mk (st := s__law_fault) l6 c6 k6
  have F7 := fun_mk (st := s_Stock_names) l7 c7 k7
  have F8 := fun_mk (st := s_is_name) l8 c8 k8
  have F9 := fun_mk (st := s_Stock___init__) l9 c9 k9
  have F10 := fun_mk (st := s__law_taken) l10 c10 k10
  have F11 := fun_mk (st := s__law_same) l11 c11 k11
  have F12 := fun_mk (st := s__law_other) l12 c12 k12
  have F13 := fun_mk (st := s__law_refused) l13 c13 k13
  have F14 := fun_mk (st := s__law_by_base) l14 c14 k14
  have F15 := fun_mk (st := s__law_too_many) l15 c15 k15
  have F16 := fun_mk (st := s__law_kinds) l16 c16 k16
  have F17 := fun_mk (st := s_law) l17 c17 k17
  have n_len := PySem.W.mg_none_of X G n_len
  have n_range := PySem.W.mg_none_of X G n_range
  have n_divmod := PySem.W.mg_none_of X G n_divmod
  have n_list := PySem.W.mg_none_of X G n_list
  have n_reversed := PySem.W.mg_none_of X G n_reversed
  have n_isinstance := PySem.W.mg_none_of X G n_isinstance
  have n_str := PySem.W.mg_none_of X G n_str
  have g_LONGEST := PySem.W.mg_of X G g_LONGEST
  have g_LETTERS := PySem.W.mg_of X G g_LETTERS
  have n_all := PySem.W.mg_none_of X G n_all
  have g_MOST_THINGS := PySem.W.mg_of X G g_MOST_THINGS
  have n_zip := PySem.W.mg_none_of X G n_zip
  have n_bool := PySem.W.mg_none_of X G n_bool
  have n_ValueError := PySem.W.mg_none_of X G n_ValueError
  have h1_Stock : (clOf [((PySem.Str.ofString "Stock"), C_Stock), ((PySem.Str.ofString "NoName"), C_NoName), ((PySem.Str.ofString "TooMany"), C_TooMany)]) (PySem.Str.ofString "Stock") = some C_Stock := dispAt_eq
  have h2_Stock : Cls K C_Stock := ⟨pg_Stock, hd_Stock, po_Stock, sa_Stock⟩
  have hF_called : FldOk K (clOf [((PySem.Str.ofString "Stock"), C_Stock), ((PySem.Str.ofString "NoName"), C_NoName), ((PySem.Str.ofString "TooMany"), C_TooMany)]) [(PySem.Str.ofString "Stock")] (PySem.Str.ofString "called") := (fldOk_cons h1_Stock h2_Stock nf_Stock_called fldOk_nil)
  have hF_sorts : FldOk K (clOf [((PySem.Str.ofString "Stock"), C_Stock), ((PySem.Str.ofString "NoName"), C_NoName), ((PySem.Str.ofString "TooMany"), C_TooMany)]) [(PySem.Str.ofString "Stock")] (PySem.Str.ofString "sorts") := (fldOk_cons h1_Stock h2_Stock nf_Stock_sorts fldOk_nil)
  have h1_NoName : (clOf [((PySem.Str.ofString "Stock"), C_Stock), ((PySem.Str.ofString "NoName"), C_NoName), ((PySem.Str.ofString "TooMany"), C_TooMany)]) (PySem.Str.ofString "NoName") = some C_NoName := (dispAt_ne (by decide +kernel) dispAt_eq)
  have ex_NoName : ExcC K C_NoName := ⟨eg_NoName, eh_NoName, sb_NoName, hd_NoName, ea_NoName, oc_n, oc_t, em_NoName⟩
  have h1_TooMany : (clOf [((PySem.Str.ofString "Stock"), C_Stock), ((PySem.Str.ofString "NoName"), C_NoName), ((PySem.Str.ofString "TooMany"), C_TooMany)]) (PySem.Str.ofString "TooMany") = some C_TooMany := (dispAt_ne (by decide +kernel) (dispAt_ne (by decide +kernel) dispAt_eq))
  have ex_TooMany : ExcC K C_TooMany := ⟨eg_TooMany, eh_TooMany, sb_TooMany, hd_TooMany, ea_TooMany, oc_n, oc_t, em_TooMany⟩
  have hC_NoName : CatF K mg (clOf [((PySem.Str.ofString "Stock"), C_Stock), ((PySem.Str.ofString "NoName"), C_NoName), ((PySem.Str.ofString "TooMany"), C_TooMany)]) (PySem.Str.ofString "NoName") [((PySem.Str.ofString "NoName"), true), ((PySem.Str.ofString "TooMany"), false)] := catF_own (PySem.W.mg_of X G nC_NoName) sb_NoName hd_NoName ty_NoName (fun p hp => match p, hp with | _, .head _ => ⟨C_NoName, h1_NoName, su_NoName_NoName⟩ | _, .tail _ (.head _) => ⟨C_TooMany, h1_TooMany, su_NoName_TooMany⟩ | _, .tail _ (.tail _ hz) => (nomatch hz))
  have hT_HallError : IsE K mg (clOf [((PySem.Str.ofString "Stock"), C_Stock), ((PySem.Str.ofString "NoName"), C_NoName), ((PySem.Str.ofString "TooMany"), C_TooMany)]) (PySem.Str.ofString "HallError") [((PySem.Str.ofString "NoName"), true), ((PySem.Str.ofString "TooMany"), true)] := ⟨.ref C_HallError, .ref C_HallError, .inl ⟨C_HallError, rfl, rfl, PySem.W.mg_of X G nC_HallError⟩, fun p hp => match p, hp with | _, .head _ => ⟨C_NoName, h1_NoName, ex_NoName, ko_HallError_NoName⟩ | _, .tail _ (.head _) => ⟨C_TooMany, h1_TooMany, ex_TooMany, ko_HallError_TooMany⟩ | _, .tail _ (.tail _ hz) => (nomatch hz)⟩
  have hT_ValueError : IsE K mg (clOf [((PySem.Str.ofString "Stock"), C_Stock), ((PySem.Str.ofString "NoName"), C_NoName), ((PySem.Str.ofString "TooMany"), C_TooMany)]) (PySem.Str.ofString "ValueError") [((PySem.Str.ofString "NoName"), true), ((PySem.Str.ofString "TooMany"), true)] := ⟨.ty "ValueError", .type "ValueError", .inr ⟨"ValueError", rfl, rfl, n_ValueError, boot_ValueError, by decide⟩, fun p hp => match p, hp with | _, .head _ => ⟨C_NoName, h1_NoName, ex_NoName, kb_ValueError_NoName⟩ | _, .tail _ (.head _) => ⟨C_TooMany, h1_TooMany, ex_TooMany, kb_ValueError_TooMany⟩ | _, .tail _ (.tail _ hz) => (nomatch hz)⟩
  have hT_TooMany : IsE K mg (clOf [((PySem.Str.ofString "Stock"), C_Stock), ((PySem.Str.ofString "NoName"), C_NoName), ((PySem.Str.ofString "TooMany"), C_TooMany)]) (PySem.Str.ofString "TooMany") [((PySem.Str.ofString "NoName"), false), ((PySem.Str.ofString "TooMany"), true)] := ⟨.ref C_TooMany, .ref C_TooMany, .inl ⟨C_TooMany, rfl, rfl, PySem.W.mg_of X G nC_TooMany⟩, fun p hp => match p, hp with | _, .head _ => ⟨C_NoName, h1_NoName, ex_NoName, ko_TooMany_NoName⟩ | _, .tail _ (.head _) => ⟨C_TooMany, h1_TooMany, ex_TooMany, ko_TooMany_TooMany⟩ | _, .tail _ (.tail _ hz) => (nomatch hz)⟩
  have hFX_name : FldX K (clOf [((PySem.Str.ofString "Stock"), C_Stock), ((PySem.Str.ofString "NoName"), C_NoName), ((PySem.Str.ofString "TooMany"), C_TooMany)]) [(PySem.Str.ofString "NoName")] (PySem.Str.ofString "name") := fun d hd => match d, hd with | _, .head _ => ⟨C_NoName, h1_NoName, ex_NoName, nf_NoName_name⟩ | _, .tail _ hz => (nomatch hz)
  have hC_HallError : CatF K mg (clOf [((PySem.Str.ofString "Stock"), C_Stock), ((PySem.Str.ofString "NoName"), C_NoName), ((PySem.Str.ofString "TooMany"), C_TooMany)]) (PySem.Str.ofString "HallError") [((PySem.Str.ofString "NoName"), true), ((PySem.Str.ofString "TooMany"), true)] := catF_own (PySem.W.mg_of X G nC_HallError) sb_HallError hd_HallError ty_HallError (fun p hp => match p, hp with | _, .head _ => ⟨C_NoName, h1_NoName, su_HallError_NoName⟩ | _, .tail _ (.head _) => ⟨C_TooMany, h1_TooMany, su_HallError_TooMany⟩ | _, .tail _ (.tail _ hz) => (nomatch hz))
  have hC_TooMany : CatF K mg (clOf [((PySem.Str.ofString "Stock"), C_Stock), ((PySem.Str.ofString "NoName"), C_NoName), ((PySem.Str.ofString "TooMany"), C_TooMany)]) (PySem.Str.ofString "TooMany") [((PySem.Str.ofString "NoName"), false), ((PySem.Str.ofString "TooMany"), true)] := catF_own (PySem.W.mg_of X G nC_TooMany) sb_TooMany hd_TooMany ty_TooMany (fun p hp => match p, hp with | _, .head _ => ⟨C_NoName, h1_NoName, su_TooMany_NoName⟩ | _, .tail _ (.head _) => ⟨C_TooMany, h1_TooMany, su_TooMany_TooMany⟩ | _, .tail _ (.tail _ hz) => (nomatch hz))
  have hT_NoName : IsE K mg (clOf [((PySem.Str.ofString "Stock"), C_Stock), ((PySem.Str.ofString "NoName"), C_NoName), ((PySem.Str.ofString "TooMany"), C_TooMany)]) (PySem.Str.ofString "NoName") [((PySem.Str.ofString "NoName"), true), ((PySem.Str.ofString "TooMany"), false)] := ⟨.ref C_NoName, .ref C_NoName, .inl ⟨C_NoName, rfl, rfl, PySem.W.mg_of X G nC_NoName⟩, fun p hp => match p, hp with | _, .head _ => ⟨C_NoName, h1_NoName, ex_NoName, ko_NoName_NoName⟩ | _, .tail _ (.head _) => ⟨C_TooMany, h1_TooMany, ex_TooMany, ko_NoName_TooMany⟩ | _, .tail _ (.tail _ hz) => (nomatch hz)⟩
  have hFX_number : FldX K (clOf [((PySem.Str.ofString "Stock"), C_Stock), ((PySem.Str.ofString "NoName"), C_NoName), ((PySem.Str.ofString "TooMany"), C_TooMany)]) [(PySem.Str.ofString "TooMany")] (PySem.Str.ofString "number") := fun d hd => match d, hd with | _, .head _ => ⟨C_TooMany, h1_TooMany, ex_TooMany, nf_TooMany_number⟩ | _, .tail _ hz => (nomatch hz)
  have hTT_NoBid_NoBundle_NoNumber_NoPaper_NoRow : IsET K mg (clOf [((PySem.Str.ofString "Stock"), C_Stock), ((PySem.Str.ofString "NoName"), C_NoName), ((PySem.Str.ofString "TooMany"), C_TooMany)]) [(PySem.Str.ofString "NoBid"), (PySem.Str.ofString "NoBundle"), (PySem.Str.ofString "NoNumber"), (PySem.Str.ofString "NoPaper"), (PySem.Str.ofString "NoRow")] [((PySem.Str.ofString "NoName"), false), ((PySem.Str.ofString "TooMany"), false)] := ⟨[.ref C_NoBid, .ref C_NoBundle, .ref C_NoNumber, .ref C_NoPaper, .ref C_NoRow], [.ref C_NoBid, .ref C_NoBundle, .ref C_NoNumber, .ref C_NoPaper, .ref C_NoRow], ⟨_, _, _, _, rfl, rfl, .inl ⟨C_NoBid, rfl, rfl, PySem.W.mg_of X G nC_NoBid⟩, ⟨_, _, _, _, rfl, rfl, .inl ⟨C_NoBundle, rfl, rfl, PySem.W.mg_of X G nC_NoBundle⟩, ⟨_, _, _, _, rfl, rfl, .inl ⟨C_NoNumber, rfl, rfl, PySem.W.mg_of X G nC_NoNumber⟩, ⟨_, _, _, _, rfl, rfl, .inl ⟨C_NoPaper, rfl, rfl, PySem.W.mg_of X G nC_NoPaper⟩, ⟨_, _, _, _, rfl, rfl, .inl ⟨C_NoRow, rfl, rfl, PySem.W.mg_of X G nC_NoRow⟩, ⟨rfl, rfl⟩⟩⟩⟩⟩⟩, fun p hp => match p, hp with | _, .head _ => ⟨C_NoName, h1_NoName, ex_NoName, (kitAny_cons ko_NoBid_NoName (fun _ => (kitAny_cons ko_NoBundle_NoName (fun _ => (kitAny_cons ko_NoNumber_NoName (fun _ => (kitAny_cons ko_NoPaper_NoName (fun _ => (kitAny_cons ko_NoRow_NoName (fun _ => kitAny_nil) (fun h => Bool.noConfusion h))) (fun h => Bool.noConfusion h))) (fun h => Bool.noConfusion h))) (fun h => Bool.noConfusion h))) (fun h => Bool.noConfusion h))⟩ | _, .tail _ (.head _) => ⟨C_TooMany, h1_TooMany, ex_TooMany, (kitAny_cons ko_NoBid_TooMany (fun _ => (kitAny_cons ko_NoBundle_TooMany (fun _ => (kitAny_cons ko_NoNumber_TooMany (fun _ => (kitAny_cons ko_NoPaper_TooMany (fun _ => (kitAny_cons ko_NoRow_TooMany (fun _ => kitAny_nil) (fun h => Bool.noConfusion h))) (fun h => Bool.noConfusion h))) (fun h => Bool.noConfusion h))) (fun h => Bool.noConfusion h))) (fun h => Bool.noConfusion h))⟩ | _, .tail _ (.tail _ hz) => (nomatch hz)⟩
  have hTT_BadStep_NoText_TooLate : IsET K mg (clOf [((PySem.Str.ofString "Stock"), C_Stock), ((PySem.Str.ofString "NoName"), C_NoName), ((PySem.Str.ofString "TooMany"), C_TooMany)]) [(PySem.Str.ofString "BadStep"), (PySem.Str.ofString "NoText"), (PySem.Str.ofString "TooLate")] [((PySem.Str.ofString "NoName"), false), ((PySem.Str.ofString "TooMany"), false)] := ⟨[.ref C_BadStep, .ref C_NoText, .ref C_TooLate], [.ref C_BadStep, .ref C_NoText, .ref C_TooLate], ⟨_, _, _, _, rfl, rfl, .inl ⟨C_BadStep, rfl, rfl, PySem.W.mg_of X G nC_BadStep⟩, ⟨_, _, _, _, rfl, rfl, .inl ⟨C_NoText, rfl, rfl, PySem.W.mg_of X G nC_NoText⟩, ⟨_, _, _, _, rfl, rfl, .inl ⟨C_TooLate, rfl, rfl, PySem.W.mg_of X G nC_TooLate⟩, ⟨rfl, rfl⟩⟩⟩⟩, fun p hp => match p, hp with | _, .head _ => ⟨C_NoName, h1_NoName, ex_NoName, (kitAny_cons ko_BadStep_NoName (fun _ => (kitAny_cons ko_NoText_NoName (fun _ => (kitAny_cons ko_TooLate_NoName (fun _ => kitAny_nil) (fun h => Bool.noConfusion h))) (fun h => Bool.noConfusion h))) (fun h => Bool.noConfusion h))⟩ | _, .tail _ (.head _) => ⟨C_TooMany, h1_TooMany, ex_TooMany, (kitAny_cons ko_BadStep_TooMany (fun _ => (kitAny_cons ko_NoText_TooMany (fun _ => (kitAny_cons ko_TooLate_TooMany (fun _ => kitAny_nil) (fun h => Bool.noConfusion h))) (fun h => Bool.noConfusion h))) (fun h => Bool.noConfusion h))⟩ | _, .tail _ (.tail _ hz) => (nomatch hz)⟩
  refine ⟨PySem.W.fnOf (PySem.Str.ofString "law") (PySem.Str.ofString "law") (defArgs s_law) (defBody s_law) (defScope s_law) .none kV17 dc17 pm17 an17 cd17 ct17, fun s v => .of_eq rfl, fun base _ _ => ?_⟩
  have F18 := fun_mk (st := s_NoName___init__) l18 c18 k18
  have o18 : FnOk P w K mg base (L2N.CX P w) 1 f18 _ [(PySem.Str.ofString "self"), (PySem.Str.ofString "name")] (spXv K (PySem.Str.ofString "name")) := okXI_NoName___init__ F18 ⟨C_HallError, PySem.W.mg_of X G nC_HallError, rd_HallError, fi_HallError, sp_HallError⟩
  have hX_NoName : CalXI P w K mg base (clOf [((PySem.Str.ofString "Stock"), C_Stock), ((PySem.Str.ofString "NoName"), C_NoName), ((PySem.Str.ofString "TooMany"), C_TooMany)]) 1 (PySem.Str.ofString "NoName") (PySem.Str.ofString "name") := ⟨C_NoName, f18, _, _, h1_NoName, PySem.W.mg_of X G nC_NoName, ⟨⟨nm_NoName, q_NoName, N_NoName, bs_NoName, bm_NoName, sn_NoName, sub_NoName, ab_NoName, col_NoName, dd_NoName, k0_NoName, k1_NoName, k2_NoName, k3_NoName, k5_NoName, lx_NoName, rv_NoName⟩, xs_NoName, sb_NoName, ty_NoName, kpe_NoName⟩, me_NoName_18, tf18, o18, (F18.binds (ps := [(PySem.Str.ofString "self"), (PySem.Str.ofString "name")]) fun _ _ _ _ _ _ us hl => match us, hl with | [_, _], _ => rfl), xf_NoName⟩
  have F19 := fun_mk (st := s_TooMany___init__) l19 c19 k19
  have o19 : FnOk P w K mg base (L2N.CX P w) 1 f19 _ [(PySem.Str.ofString "self"), (PySem.Str.ofString "number")] (spXv K (PySem.Str.ofString "number")) := okXI_TooMany___init__ F19 ⟨C_HallError, PySem.W.mg_of X G nC_HallError, rd_HallError, fi_HallError, sp_HallError⟩
  have hX_TooMany : CalXI P w K mg base (clOf [((PySem.Str.ofString "Stock"), C_Stock), ((PySem.Str.ofString "NoName"), C_NoName), ((PySem.Str.ofString "TooMany"), C_TooMany)]) 1 (PySem.Str.ofString "TooMany") (PySem.Str.ofString "number") := ⟨C_TooMany, f19, _, _, h1_TooMany, PySem.W.mg_of X G nC_TooMany, ⟨⟨nm_TooMany, q_TooMany, N_TooMany, bs_TooMany, bm_TooMany, sn_TooMany, sub_TooMany, ab_TooMany, col_TooMany, dd_TooMany, k0_TooMany, k1_TooMany, k2_TooMany, k3_TooMany, k5_TooMany, lx_TooMany, rv_TooMany⟩, xs_TooMany, sb_TooMany, ty_TooMany, kpe_TooMany⟩, me_TooMany_19, tf19, o19, (F19.binds (ps := [(PySem.Str.ofString "self"), (PySem.Str.ofString "number")]) fun _ _ _ _ _ _ us hl => match us, hl with | [_, _], _ => rfl), xf_TooMany⟩
  have o0 : FnOk P w K mg base (L2N.CX P w) 1 f0 _ [(PySem.Str.ofString "_law_script"), (PySem.Str.ofString "_law_k")] (spV K (clOf [((PySem.Str.ofString "Stock"), C_Stock), ((PySem.Str.ofString "NoName"), C_NoName), ((PySem.Str.ofString "TooMany"), C_TooMany)]) 2 m__law_cell) := ok__law_cell F0 n_len
  have c__law_cell : Cal P w K mg base 1 (PySem.Str.ofString "_law_cell") [(PySem.Str.ofString "_law_script"), (PySem.Str.ofString "_law_k")] (spV K (clOf [((PySem.Str.ofString "Stock"), C_Stock), ((PySem.Str.ofString "NoName"), C_NoName), ((PySem.Str.ofString "TooMany"), C_TooMany)]) 2 m__law_cell) := ⟨f0, _, o0, PySem.W.mg_of X G a0, k0, F0.binds (ps := [(PySem.Str.ofString "_law_script"), (PySem.Str.ofString "_law_k")]) fun _ _ _ _ _ _ us hl => match us, hl with | [_, _], _ => rfl⟩
  have o1 : FnOk P w K mg base (L2N.CX P w) 1 f1 _ [(PySem.Str.ofString "_law_cell_here"), (PySem.Str.ofString "_law_size")] (spV K (clOf [((PySem.Str.ofString "Stock"), C_Stock), ((PySem.Str.ofString "NoName"), C_NoName), ((PySem.Str.ofString "TooMany"), C_TooMany)]) 2 m__law_word) := ok__law_word F1 n_range n_divmod
  have c__law_word : Cal P w K mg base 1 (PySem.Str.ofString "_law_word") [(PySem.Str.ofString "_law_cell_here"), (PySem.Str.ofString "_law_size")] (spV K (clOf [((PySem.Str.ofString "Stock"), C_Stock), ((PySem.Str.ofString "NoName"), C_NoName), ((PySem.Str.ofString "TooMany"), C_TooMany)]) 2 m__law_word) := ⟨f1, _, o1, PySem.W.mg_of X G a1, k1, F1.binds (ps := [(PySem.Str.ofString "_law_cell_here"), (PySem.Str.ofString "_law_size")]) fun _ _ _ _ _ _ us hl => match us, hl with | [_, _], _ => rfl⟩
  have o2 : FnOk P w K mg base (L2N.CX P w) 2 f2 _ [(PySem.Str.ofString "_law_script"), (PySem.Str.ofString "_law_many")] (spN K (clOf [((PySem.Str.ofString "Stock"), C_Stock), ((PySem.Str.ofString "NoName"), C_NoName), ((PySem.Str.ofString "TooMany"), C_TooMany)]) 2 m__law_names) := ok__law_names F2 c__law_cell c__law_word n_range n_list n_reversed
  have c__law_names : Cal P w K mg base 2 (PySem.Str.ofString "_law_names") [(PySem.Str.ofString "_law_script"), (PySem.Str.ofString "_law_many")] (spN K (clOf [((PySem.Str.ofString "Stock"), C_Stock), ((PySem.Str.ofString "NoName"), C_NoName), ((PySem.Str.ofString "TooMany"), C_TooMany)]) 2 m__law_names) := ⟨f2, _, o2, PySem.W.mg_of X G a2, k2, F2.binds (ps := [(PySem.Str.ofString "_law_script"), (PySem.Str.ofString "_law_many")]) fun _ _ _ _ _ _ us hl => match us, hl with | [_, _], _ => rfl⟩
  have o3 : FnOk P w K mg base (L2N.CX P w) 1 f3 _ [(PySem.Str.ofString "_law_cell_here")] (spV K (clOf [((PySem.Str.ofString "Stock"), C_Stock), ((PySem.Str.ofString "NoName"), C_NoName), ((PySem.Str.ofString "TooMany"), C_TooMany)]) 1 m__law_odd) := ok__law_odd F3 
  have c__law_odd : Cal P w K mg base 1 (PySem.Str.ofString "_law_odd") [(PySem.Str.ofString "_law_cell_here")] (spV K (clOf [((PySem.Str.ofString "Stock"), C_Stock), ((PySem.Str.ofString "NoName"), C_NoName), ((PySem.Str.ofString "TooMany"), C_TooMany)]) 1 m__law_odd) := ⟨f3, _, o3, PySem.W.mg_of X G a3, k3, F3.binds (ps := [(PySem.Str.ofString "_law_cell_here")]) fun _ _ _ _ _ _ us hl => match us, hl with | [_], _ => rfl⟩
  have o4 : FnOk P w K mg base (L2N.CX P w) 2 f4 _ [(PySem.Str.ofString "_law_rows"), (PySem.Str.ofString "_law_at"), (PySem.Str.ofString "_law_cell_here")] (spN K (clOf [((PySem.Str.ofString "Stock"), C_Stock), ((PySem.Str.ofString "NoName"), C_NoName), ((PySem.Str.ofString "TooMany"), C_TooMany)]) 3 m__law_spoilt) := ok__law_spoilt F4 n_list c__law_odd
  have c__law_spoilt : Cal P w K mg base 2 (PySem.Str.ofString "_law_spoilt") [(PySem.Str.ofString "_law_rows"), (PySem.Str.ofString "_law_at"), (PySem.Str.ofString "_law_cell_here")] (spN K (clOf [((PySem.Str.ofString "Stock"), C_Stock), ((PySem.Str.ofString "NoName"), C_NoName), ((PySem.Str.ofString "TooMany"), C_TooMany)]) 3 m__law_spoilt) := ⟨f4, _, o4, PySem.W.mg_of X G a4, k4, F4.binds (ps := [(PySem.Str.ofString "_law_rows"), (PySem.Str.ofString "_law_at"), (PySem.Str.ofString "_law_cell_here")]) fun _ _ _ _ _ _ us hl => match us, hl with | [_, _, _], _ => rfl⟩
  have o5 : FnOk P w K mg base (L2N.CX P w) 1 f5 _ [(PySem.Str.ofString "_law_thing")] (spV K (clOf [((PySem.Str.ofString "Stock"), C_Stock), ((PySem.Str.ofString "NoName"), C_NoName), ((PySem.Str.ofString "TooMany"), C_TooMany)]) 1 m__law_good) := ok__law_good F5 n_isinstance n_str n_len
  have c__law_good : Cal P w K mg base 1 (PySem.Str.ofString "_law_good") [(PySem.Str.ofString "_law_thing")] (spV K (clOf [((PySem.Str.ofString "Stock"), C_Stock), ((PySem.Str.ofString "NoName"), C_NoName), ((PySem.Str.ofString "TooMany"), C_TooMany)]) 1 m__law_good) := ⟨f5, _, o5, PySem.W.mg_of X G a5, k5, F5.binds (ps := [(PySem.Str.ofString "_law_thing")]) fun _ _ _ _ _ _ us hl => match us, hl with | [_], _ => rfl⟩
  have o6 : FnOk P w K mg base (L2N.CX P w) 2 f6 _ [(PySem.Str.ofString "_law_rows")] (spN K (clOf [((PySem.Str.ofString "Stock"), C_Stock), ((PySem.Str.ofString "NoName"), C_NoName), ((PySem.Str.ofString "TooMany"), C_TooMany)]) 1 m__law_fault) := ok__law_fault F6 c__law_good
  have c__law_fault : Cal P w K mg base 2 (PySem.Str.ofString "_law_fault") [(PySem.Str.ofString "_law_rows")] (spN K (clOf [((PySem.Str.ofString "Stock"), C_Stock), ((PySem.Str.ofString "NoName"), C_NoName), ((PySem.Str.ofString "TooMany"), C_TooMany)]) 1 m__law_fault) := ⟨f6, _, o6, PySem.W.mg_of X G a6, k6, F6.binds (ps := [(PySem.Str.ofString "_law_rows")]) fun _ _ _ _ _ _ us hl => match us, hl with | [_], _ => rfl⟩
  have o7 : FnOk P w K mg base (L2N.CX P w) 1 f7 _ [(PySem.Str.ofString "self")] (spN K (clOf [((PySem.Str.ofString "Stock"), C_Stock), ((PySem.Str.ofString "NoName"), C_NoName), ((PySem.Str.ofString "TooMany"), C_TooMany)]) 1 m_Stock_names) := ok_Stock_names F7 hF_called n_list
  have hM_names : CalM P w K mg base (clOf [((PySem.Str.ofString "Stock"), C_Stock), ((PySem.Str.ofString "NoName"), C_NoName), ((PySem.Str.ofString "TooMany"), C_TooMany)]) 1 1 (PySem.Str.ofString "names") [(PySem.Str.ofString "Stock")] (fun c => spN K (clOf [((PySem.Str.ofString "Stock"), C_Stock), ((PySem.Str.ofString "NoName"), C_NoName), ((PySem.Str.ofString "TooMany"), C_TooMany)]) 1 (onC c m_G_names)) := (calM_cons h1_Stock h2_Stock ⟨me_Stock_7, fn7, k7⟩ (fnok_mono (FnOk.mono o7 (by decide)) (spN_onC fun ns xs r => e_m_G_names_Stock ns xs r)) (F7.binds (ps := [(PySem.Str.ofString "self")]) fun _ _ _ _ _ _ us hl => match us, hl with | [_], _ => rfl) rfl
    calM_nil)
  have o8 : FnOk P w K mg base (L2N.CX P w) 1 f8 _ [(PySem.Str.ofString "thing")] (spV K (clOf [((PySem.Str.ofString "Stock"), C_Stock), ((PySem.Str.ofString "NoName"), C_NoName), ((PySem.Str.ofString "TooMany"), C_TooMany)]) 1 m_is_name) := ok_is_name F8 n_isinstance n_str n_len ⟨_, g_LONGEST⟩ ⟨_, g_LETTERS⟩ n_all
  have c_is_name : Cal P w K mg base 1 (PySem.Str.ofString "is_name") [(PySem.Str.ofString "thing")] (spV K (clOf [((PySem.Str.ofString "Stock"), C_Stock), ((PySem.Str.ofString "NoName"), C_NoName), ((PySem.Str.ofString "TooMany"), C_TooMany)]) 1 m_is_name) := ⟨f8, _, o8, PySem.W.mg_of X G a8, k8, F8.binds (ps := [(PySem.Str.ofString "thing")]) fun _ _ _ _ _ _ us hl => match us, hl with | [_], _ => rfl⟩
  have o9 : FnOk P w K mg base (L2N.CX P w) 3 f9 _ [(PySem.Str.ofString "self"), (PySem.Str.ofString "rows")] (spI K (clOf [((PySem.Str.ofString "Stock"), C_Stock), ((PySem.Str.ofString "NoName"), C_NoName), ((PySem.Str.ofString "TooMany"), C_TooMany)]) 2 m_Stock___init__) := ok_Stock___init__ F9 n_len ⟨_, g_MOST_THINGS⟩ hX_TooMany hF_called hF_sorts c_is_name hX_NoName
  have oJ9 : FnOk P w K mg base (L2N.CX P w) 3 f9 _ [(PySem.Str.ofString "self"), (PySem.Str.ofString "rows")] (spJ K (clOf [((PySem.Str.ofString "Stock"), C_Stock), ((PySem.Str.ofString "NoName"), C_NoName), ((PySem.Str.ofString "TooMany"), C_TooMany)]) m_J_Stock___init__) := okJ_Stock___init__ F9 n_len ⟨_, g_MOST_THINGS⟩ hX_TooMany hF_called hF_sorts c_is_name hX_NoName
  have hJ_Stock : CalI P w K mg base (clOf [((PySem.Str.ofString "Stock"), C_Stock), ((PySem.Str.ofString "NoName"), C_NoName), ((PySem.Str.ofString "TooMany"), C_TooMany)]) 3 (PySem.Str.ofString "Stock") 2 (spJ K (clOf [((PySem.Str.ofString "Stock"), C_Stock), ((PySem.Str.ofString "NoName"), C_NoName), ((PySem.Str.ofString "TooMany"), C_TooMany)]) m_J_Stock___init__) := ⟨C_Stock, f9, _, _, h1_Stock, PySem.W.mg_of X G nC_Stock, ⟨mk_Stock, me_Stock_9, fn9, kc_Stock⟩, oJ9, (F9.binds (ps := [(PySem.Str.ofString "self"), (PySem.Str.ofString "rows")]) fun _ _ _ _ _ _ us hl => match us, hl with | [_, _], _ => rfl), rfl⟩
  have hI_Stock : CalI P w K mg base (clOf [((PySem.Str.ofString "Stock"), C_Stock), ((PySem.Str.ofString "NoName"), C_NoName), ((PySem.Str.ofString "TooMany"), C_TooMany)]) 3 (PySem.Str.ofString "Stock") 2 (spI K (clOf [((PySem.Str.ofString "Stock"), C_Stock), ((PySem.Str.ofString "NoName"), C_NoName), ((PySem.Str.ofString "TooMany"), C_TooMany)]) 2 m_Stock___init__) := ⟨C_Stock, f9, _, _, h1_Stock, PySem.W.mg_of X G nC_Stock, ⟨mk_Stock, me_Stock_9, fn9, kc_Stock⟩, o9, (F9.binds (ps := [(PySem.Str.ofString "self"), (PySem.Str.ofString "rows")]) fun _ _ _ _ _ _ us hl => match us, hl with | [_, _], _ => rfl), rfl⟩
  have o10 : FnOk P w K mg base (L2N.CX P w) 5 f10 _ [(PySem.Str.ofString "_law_rows"), (PySem.Str.ofString "_law_names_here")] (spV K (clOf [((PySem.Str.ofString "Stock"), C_Stock), ((PySem.Str.ofString "NoName"), C_NoName), ((PySem.Str.ofString "TooMany"), C_TooMany)]) 2 m__law_taken) := ok__law_taken F10 hM_names hI_Stock
  have c__law_taken : Cal P w K mg base 5 (PySem.Str.ofString "_law_taken") [(PySem.Str.ofString "_law_rows"), (PySem.Str.ofString "_law_names_here")] (spV K (clOf [((PySem.Str.ofString "Stock"), C_Stock), ((PySem.Str.ofString "NoName"), C_NoName), ((PySem.Str.ofString "TooMany"), C_TooMany)]) 2 m__law_taken) := ⟨f10, _, o10, PySem.W.mg_of X G a10, k10, F10.binds (ps := [(PySem.Str.ofString "_law_rows"), (PySem.Str.ofString "_law_names_here")]) fun _ _ _ _ _ _ us hl => match us, hl with | [_, _], _ => rfl⟩
  have x__law_same : CalX P w K mg base (clOf [((PySem.Str.ofString "Stock"), C_Stock), ((PySem.Str.ofString "NoName"), C_NoName), ((PySem.Str.ofString "TooMany"), C_TooMany)]) 1 (PySem.Str.ofString "_law_same") [(PySem.Str.ofString "_law_one"), (PySem.Str.ofString "_law_other_here")] 2 m_H__law_same := ⟨f11, _, okX__law_same F11 n_isinstance n_bool, PySem.W.mg_of X G a11, k11, (F11.binds (ps := [(PySem.Str.ofString "_law_one"), (PySem.Str.ofString "_law_other_here")]) fun _ _ _ _ _ _ us hl => match us, hl with | [_, _], _ => rfl)⟩
  have x__law_other : CalX P w K mg base (clOf [((PySem.Str.ofString "Stock"), C_Stock), ((PySem.Str.ofString "NoName"), C_NoName), ((PySem.Str.ofString "TooMany"), C_TooMany)]) 1 (PySem.Str.ofString "_law_other") [(PySem.Str.ofString "_law_e")] 1 m_H__law_other := ⟨f12, _, okX__law_other F12 hTT_NoBid_NoBundle_NoNumber_NoPaper_NoRow n_isinstance hTT_BadStep_NoText_TooLate, PySem.W.mg_of X G a12, k12, (F12.binds (ps := [(PySem.Str.ofString "_law_e")]) fun _ _ _ _ _ _ us hl => match us, hl with | [_], _ => rfl)⟩
  have o13 : FnOk P w K mg base (L2N.CX P w) 5 f13 _ [(PySem.Str.ofString "_law_rows"), (PySem.Str.ofString "_law_fault_here")] (spV K (clOf [((PySem.Str.ofString "Stock"), C_Stock), ((PySem.Str.ofString "NoName"), C_NoName), ((PySem.Str.ofString "TooMany"), C_TooMany)]) 2 m__law_refused) := ok__law_refused F13 hC_NoName hI_Stock hT_HallError n_isinstance hT_ValueError x__law_other hT_TooMany x__law_same hFX_name
  have c__law_refused : Cal P w K mg base 5 (PySem.Str.ofString "_law_refused") [(PySem.Str.ofString "_law_rows"), (PySem.Str.ofString "_law_fault_here")] (spV K (clOf [((PySem.Str.ofString "Stock"), C_Stock), ((PySem.Str.ofString "NoName"), C_NoName), ((PySem.Str.ofString "TooMany"), C_TooMany)]) 2 m__law_refused) := ⟨f13, _, o13, PySem.W.mg_of X G a13, k13, F13.binds (ps := [(PySem.Str.ofString "_law_rows"), (PySem.Str.ofString "_law_fault_here")]) fun _ _ _ _ _ _ us hl => match us, hl with | [_, _], _ => rfl⟩
  have o14 : FnOk P w K mg base (L2N.CX P w) 5 f14 _ [(PySem.Str.ofString "_law_rows")] (spV K (clOf [((PySem.Str.ofString "Stock"), C_Stock), ((PySem.Str.ofString "NoName"), C_NoName), ((PySem.Str.ofString "TooMany"), C_TooMany)]) 1 m__law_by_base) := ok__law_by_base F14 hC_HallError hI_Stock
  have c__law_by_base : Cal P w K mg base 5 (PySem.Str.ofString "_law_by_base") [(PySem.Str.ofString "_law_rows")] (spV K (clOf [((PySem.Str.ofString "Stock"), C_Stock), ((PySem.Str.ofString "NoName"), C_NoName), ((PySem.Str.ofString "TooMany"), C_TooMany)]) 1 m__law_by_base) := ⟨f14, _, o14, PySem.W.mg_of X G a14, k14, F14.binds (ps := [(PySem.Str.ofString "_law_rows")]) fun _ _ _ _ _ _ us hl => match us, hl with | [_], _ => rfl⟩
  have o15 : FnOk P w K mg base (L2N.CX P w) 5 f15 _ [(PySem.Str.ofString "_law_rows")] (spV K (clOf [((PySem.Str.ofString "Stock"), C_Stock), ((PySem.Str.ofString "NoName"), C_NoName), ((PySem.Str.ofString "TooMany"), C_TooMany)]) 1 m__law_too_many) := ok__law_too_many F15 hC_TooMany hI_Stock hT_HallError n_isinstance hT_ValueError x__law_other hT_NoName x__law_same n_len hFX_number
  have c__law_too_many : Cal P w K mg base 5 (PySem.Str.ofString "_law_too_many") [(PySem.Str.ofString "_law_rows")] (spV K (clOf [((PySem.Str.ofString "Stock"), C_Stock), ((PySem.Str.ofString "NoName"), C_NoName), ((PySem.Str.ofString "TooMany"), C_TooMany)]) 1 m__law_too_many) := ⟨f15, _, o15, PySem.W.mg_of X G a15, k15, F15.binds (ps := [(PySem.Str.ofString "_law_rows")]) fun _ _ _ _ _ _ us hl => match us, hl with | [_], _ => rfl⟩
  have o16 : FnOk P w K mg base (L2N.CX P w) 2 f16 _ [(PySem.Str.ofString "_law_script"), (PySem.Str.ofString "_law_names_here")] (spN K (clOf [((PySem.Str.ofString "Stock"), C_Stock), ((PySem.Str.ofString "NoName"), C_NoName), ((PySem.Str.ofString "TooMany"), C_TooMany)]) 2 m__law_kinds) := ok__law_kinds F16 c__law_word c__law_cell n_len n_range
  have c__law_kinds : Cal P w K mg base 2 (PySem.Str.ofString "_law_kinds") [(PySem.Str.ofString "_law_script"), (PySem.Str.ofString "_law_names_here")] (spN K (clOf [((PySem.Str.ofString "Stock"), C_Stock), ((PySem.Str.ofString "NoName"), C_NoName), ((PySem.Str.ofString "TooMany"), C_TooMany)]) 2 m__law_kinds) := ⟨f16, _, o16, PySem.W.mg_of X G a16, k16, F16.binds (ps := [(PySem.Str.ofString "_law_script"), (PySem.Str.ofString "_law_names_here")]) fun _ _ _ _ _ _ us hl => match us, hl with | [_, _], _ => rfl⟩
  have o17 : FnOk P w K mg base (L2N.CX P w) 6 fa _ [(PySem.Str.ofString "_law_script")] (spV K (clOf [((PySem.Str.ofString "Stock"), C_Stock), ((PySem.Str.ofString "NoName"), C_NoName), ((PySem.Str.ofString "TooMany"), C_TooMany)]) 1 m_law) := ok_law F17 c__law_names c__law_cell c__law_kinds n_zip c__law_spoilt n_len c__law_fault c__law_taken n_list c__law_refused c__law_by_base n_range c__law_word c__law_odd c__law_too_many
  exact fnok_mono o17 fun _ _ _ _ hz => hz _
theorem walk {l : PySem.W.OpenLaw} {q : Program} {loose : List Str} {XP : (Str → Option Value) → Heap → Prop} {YP : World → Heap → Prop} {d : DefRec} {K : Params → PySem.W.Frag} (hn : l.most = some 63) (hdf : d.params.defaults = [])
    (hY : ∀ (w : World) (h : Heap), YP w h → (K w.params).In h) (hm : ∀ ns : List Int, ns.length ≤ 63 → m_law [.lst (ns.map .int)] = .ok (.bl true))
    (F : ∀ (w : World) (mg : Str → Option Value) (fa : Addr) (h : Heap), (K w.params).In h → h.Ns mainGlobals mg → mg d.name = some (.ref fa) →
      ∃ fd : FuncData, (∀ (s : Shared) (u : Value), BindsTo s fd ⟨[u], []⟩ [((PySem.Str.ofString "_law_script"), u)]) ∧ ∀ base : Heap, (K w.params).In base → base.Ns mainGlobals mg → FnOk l.prog w (K w.params) mg base (L2N.CX l.prog w) 6 fa fd [(PySem.Str.ofString "_law_script")] (spLw (K w.params) m_law)) :
    PySem.W.WalkO q loose XP YP l.row.toRowW d [] (fun f vs => PySem.call f vs) :=
  L2.walk_of (n := 63) (k := 6) (x := (PySem.Str.ofString "_law_script")) (CX := fun w => L2N.CX l.prog w) (sp := fun w => spLw (K w.params) m_law) hn (by decide) hdf ⟨rfl, by decide, by decide⟩ hY F (fun _ H a ns hl _ hS cl => law_sp (cl := cl) hm H a ns hl hS) fun _ _ _ _ _ z => no_ex z
end Lw
open PySem PySem.W PyProof.Rows
set_option maxRecDepth 100000 in
set_option maxHeartbeats 0 in
theorem PySem.Challenge.cw_gavelhall_k32_names_refused_holds : PySem.Challenge.rw_gavelhall_k32_names_refused.Holds := by
  w_on; o_law; k_head; (case hw => w_witness2)
  k_fill
  refine Lw.walk (l := PySem.Challenge.rw_gavelhall_k32_names_refused) rfl rfl (fun w h Y => PySem.W.kIn_of Y) Lw.plain ?F
  case F =>
    intro w mg fa h KX G hmg
    refine' Lw.all_mk KX G hmg ?nC_Stock ?nC_NoName ?nC_TooMany ?nC_HallError ?nC_BadStep ?nC_NoText ?nC_TooLate ?nC_NoBid ?nC_NoBundle ?nC_NoNumber ?nC_NoPaper ?nC_NoRow ?a0 ?l0 ?c0 ?k0 ?a1 ?l1 ?c1 ?k1 ?a2 ?l2 ?c2 ?k2 ?a3 ?l3 ?c3 ?k3 ?a4 ?l4 ?c4 ?k4 ?a5 ?l5 ?c5 ?k5 ?a6 ?l6 ?c6 ?k6 ?me_Stock_7 ?fn7 ?l7 ?c7 ?k7 ?a8 ?l8 ?c8 ?k8 ?me_Stock_9 ?fn9 ?l9 ?c9 ?k9 ?a10 ?l10 ?c10 ?k10 ?a11 ?l11 ?c11 ?k11 ?a12 ?l12 ?c12 ?k12 ?a13 ?l13 ?c13 ?k13 ?a14 ?l14 ?c14 ?k14 ?a15 ?l15 ?c15 ?k15 ?a16 ?l16 ?c16 ?k16 ?a17 ?l17 ?c17 ?k17 ?rd_HallError ?fi_HallError ?sp_HallError ?lx_NoName ?rv_NoName ?xs_NoName ?xf_NoName ?me_NoName_18 ?tf18 ?l18 ?c18 ?k18 ?lx_TooMany ?rv_TooMany ?xs_TooMany ?xf_TooMany ?me_TooMany_19 ?tf19 ?l19 ?c19 ?k19 ?pg_Stock ?hd_Stock ?po_Stock ?sa_Stock ?mk_Stock ?kc_Stock ?nf_Stock_called ?nf_Stock_sorts ?eg_NoName ?eh_NoName ?ea_NoName ?em_NoName ?kpe_NoName ?eg_TooMany ?eh_TooMany ?ea_TooMany ?em_TooMany ?kpe_TooMany ?sb_NoName ?hd_NoName ?ty_NoName ?sb_TooMany ?hd_TooMany ?ty_TooMany ?sb_HallError ?hd_HallError ?ty_HallError ?su_HallError_NoName ?su_HallError_TooMany ?su_NoName_NoName ?su_NoName_TooMany ?su_TooMany_NoName ?su_TooMany_TooMany ?ko_HallError_NoName ?ko_HallError_TooMany ?ko_NoName_NoName ?ko_NoName_TooMany ?ko_TooMany_NoName ?ko_TooMany_TooMany ?kb_ValueError_NoName ?kb_ValueError_TooMany ?ko_BadStep_NoName ?ko_BadStep_TooMany ?ko_NoText_NoName ?ko_NoText_TooMany ?ko_TooLate_NoName ?ko_TooLate_TooMany ?ko_NoBid_NoName ?ko_NoBid_TooMany ?ko_NoBundle_NoName ?ko_NoBundle_TooMany ?ko_NoNumber_NoName ?ko_NoNumber_TooMany ?ko_NoPaper_NoName ?ko_NoPaper_TooMany ?ko_NoRow_NoName ?ko_NoRow_TooMany ?nf_NoName_name ?nf_TooMany_number ?oc_n ?oc_t ?n_len ?n_range ?n_divmod ?n_list ?n_reversed ?n_isinstance ?n_str ?g_LONGEST ?g_LETTERS ?n_all ?g_MOST_THINGS ?n_zip ?n_bool ?n_ValueError
    (case nC_Stock => k_is)
    (case nC_NoName => k_is)
    (case nC_TooMany => k_is)
    (case nC_HallError => k_is)
    (case nC_BadStep => k_is)
    (case nC_NoText => k_is)
    (case nC_TooLate => k_is)
    (case nC_NoBid => k_is)
    (case nC_NoBundle => k_is)
    (case nC_NoNumber => k_is)
    (case nC_NoPaper => k_is)
    (case nC_NoRow => k_is)
    (case a0 => k_is)
    (case l0 => k_is)
    (case c0 => k_is)
    (case k0 => k_is)
    (case a1 => k_is)
    (case l1 => k_is)
    (case c1 => k_is)
    (case k1 => k_is)
    (case a2 => k_is)
    (case l2 => k_is)
    (case c2 => k_is)
    (case k2 => k_is)
    (case a3 => k_is)
    (case l3 => k_is)
    (case c3 => k_is)
    (case k3 => k_is)
    (case a4 => k_is)
    (case l4 => k_is)
    (case c4 => k_is)
    (case k4 => k_is)
    (case a5 => k_is)
    (case l5 => k_is)
    (case c5 => k_is)
    (case k5 => k_is)
    (case a6 => k_is)
    (case l6 => k_is)
    (case c6 => k_is)
    (case k6 => k_is)
    (case me_Stock_7 => k_is)
    (case fn7 => k_is)
    (case l7 => k_is)
    (case c7 => k_is)
    (case k7 => k_is)
    (case a8 => k_is)
    (case l8 => k_is)
    (case c8 => k_is)
    (case k8 => k_is)
    (case me_Stock_9 => k_is)
    (case fn9 => k_is)
    (case l9 => k_is)
    (case c9 => k_is)
    (case k9 => k_is)
    (case a10 => k_is)
    (case l10 => k_is)
    (case c10 => k_is)
    (case k10 => k_is)
    (case a11 => k_is)
    (case l11 => k_is)
    (case c11 => k_is)
    (case k11 => k_is)
    (case a12 => k_is)
    (case l12 => k_is)
    (case c12 => k_is)
    (case k12 => k_is)
    (case a13 => k_is)
    (case l13 => k_is)
    (case c13 => k_is)
    (case k13 => k_is)
    (case a14 => k_is)
    (case l14 => k_is)
    (case c14 => k_is)
    (case k14 => k_is)
    (case a15 => k_is)
    (case l15 => k_is)
    (case c15 => k_is)
    (case k15 => k_is)
    (case a16 => k_is)
    (case l16 => k_is)
    (case c16 => k_is)
    (case k16 => k_is)
    (case a17 => k_is)
    (case l17 => k_is)
    (case c17 => k_is)
    (case k17 => k_is)
    (case rd_HallError => k_is)
    (case fi_HallError => k_is)
    (case sp_HallError => k_is)
    (case lx_NoName => k_is)
    (case rv_NoName => decide +kernel)
    (case xs_NoName => k_is)
    (case xf_NoName => k_is)
    (case me_NoName_18 => k_is)
    (case tf18 => k_is)
    (case l18 => k_is)
    (case c18 => k_is)
    (case k18 => k_is)
    (case lx_TooMany => k_is)
    (case rv_TooMany => decide +kernel)
    (case xs_TooMany => k_is)
    (case xf_TooMany => k_is)
    (case me_TooMany_19 => k_is)
    (case tf19 => k_is)
    (case l19 => k_is)
    (case c19 => k_is)
    (case k19 => k_is)
    (case pg_Stock => k_is)
    (case hd_Stock => k_is)
    (case po_Stock => k_is)
    (case sa_Stock => k_is)
    (case mk_Stock => k_is)
    (case kc_Stock => k_is)
    (case nf_Stock_called => k_is)
    (case nf_Stock_sorts => k_is)
    (case eg_NoName => k_is)
    (case eh_NoName => k_is)
    (case ea_NoName => k_is)
    (case em_NoName => k_is)
    (case kpe_NoName => k_is)
    (case eg_TooMany => k_is)
    (case eh_TooMany => k_is)
    (case ea_TooMany => k_is)
    (case em_TooMany => k_is)
    (case kpe_TooMany => k_is)
    (case sb_NoName => k_is)
    (case hd_NoName => k_is)
    (case ty_NoName => k_is)
    (case sb_TooMany => k_is)
    (case hd_TooMany => k_is)
    (case ty_TooMany => k_is)
    (case sb_HallError => k_is)
    (case hd_HallError => k_is)
    (case ty_HallError => k_is)
    (case su_HallError_NoName => k_is)
    (case su_HallError_TooMany => k_is)
    (case su_NoName_NoName => k_is)
    (case su_NoName_TooMany => k_is)
    (case su_TooMany_NoName => k_is)
    (case su_TooMany_TooMany => k_is)
    (case ko_HallError_NoName => kit_is)
    (case ko_HallError_TooMany => kit_is)
    (case ko_NoName_NoName => kit_is)
    (case ko_NoName_TooMany => kit_is)
    (case ko_TooMany_NoName => kit_is)
    (case ko_TooMany_TooMany => kit_is)
    (case kb_ValueError_NoName => kit_is)
    (case kb_ValueError_TooMany => kit_is)
    (case ko_BadStep_NoName => kit_is)
    (case ko_BadStep_TooMany => kit_is)
    (case ko_NoText_NoName => kit_is)
    (case ko_NoText_TooMany => kit_is)
    (case ko_TooLate_NoName => kit_is)
    (case ko_TooLate_TooMany => kit_is)
    (case ko_NoBid_NoName => kit_is)
    (case ko_NoBid_TooMany => kit_is)
    (case ko_NoBundle_NoName => kit_is)
    (case ko_NoBundle_TooMany => kit_is)
    (case ko_NoNumber_NoName => kit_is)
    (case ko_NoNumber_TooMany => kit_is)
    (case ko_NoPaper_NoName => kit_is)
    (case ko_NoPaper_TooMany => kit_is)
    (case ko_NoRow_NoName => kit_is)
    (case ko_NoRow_TooMany => kit_is)
    (case nf_NoName_name => k_is)
    (case nf_TooMany_number => k_is)
    (case oc_n => k_is)
    (case oc_t => k_is)
    (case n_len => k_is)
    (case n_range => k_is)
    (case n_divmod => k_is)
    (case n_list => k_is)
    (case n_reversed => k_is)
    (case n_isinstance => k_is)
    (case n_str => k_is)
    (case g_LONGEST => k_is)
    (case g_LETTERS => k_is)
    (case n_all => k_is)
    (case g_MOST_THINGS => k_is)
    (case n_zip => k_is)
    (case n_bool => k_is)
    (case n_ValueError => k_is)
    all_goals exact (0 : Nat)
