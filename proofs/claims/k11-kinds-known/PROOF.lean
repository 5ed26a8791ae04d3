import PyProof.Rows.All
import Wide.All
import OpenK.AllK
import Wide.FinOn
import HandS.ForMost
import HandS.Exc
import HandS.ExcOwn
import HandS.WordsExc
import HandS.ExcValue
import HandS.Wide
import HandS.Walk
import HandS.IsInst
import HandS.EndBits
import HandS.ExcIs
import HandS.More
import HandS.Style
import KE.KExcIs
import HandS.Head0
import HandS.Head1
import HandS.Head2
import HandS.HeadHook1
import HandS.HeadHook2
import HandS.HeadHook3
import HandS.HeadHook4
import PySem.Challenge.RW_stillmain_k11_kinds_known
set_option Elab.async false
set_option linter.all false
set_option maxRecDepth 100000
/-! A small machine: values are data (trees that never change) or places of a store; what Python does to them, as total functions; how they stand in the abstract heap. -/
namespace Dm
open PySem PySem.Spec PyProof.Rows L2

/-- a value: data, or a place of the store -/
inductive MV where
  | d (x : PyData)
  | c (i : Nat)
  | scr (ns : List Int)
/-- what stands at a place -/
inductive MO where
  | lst (xs : List MV)
  | tup (xs : List MV)
  | dic (kvs : List (Key × MV))
  | ins (cls : Str) (fs : List (Str × MV))
  | exc (cls : Str) (fs : List (Str × MV))
  | exc0 (cls : Str)
structure Sto where
  n : Nat
  o : Nat → Option MO
def Sto.put (st : Sto) (i : Nat) (o : MO) : Sto := ⟨st.n, fun j => if j = i then some o else st.o j⟩
def Sto.kill (st : Sto) (i : Nat) : Sto := ⟨st.n, fun j => if j = i then none else st.o j⟩
def Sto.new (st : Sto) (o : MO) : Sto := ⟨st.n + 1, fun j => if j = st.n then some o else st.o j⟩
inductive Res (α : Type) where
  | ok (a : α) (s : Sto)
  | exc (c : Str) (fs : List (Str × MV)) (s : Sto)
  | bad
abbrev M (α : Type) := Sto → Res α
def ret {α : Type} (a : α) : M α := fun s => .ok a s
def bad {α : Type} : M α := fun _ => .bad
def bnd {α β : Type} (m : M α) (k : α → M β) : M β := fun s => match m s with
  | .ok a s' => k a s'
  | .exc c fs s' => .exc c fs s'
  | .bad => .bad
theorem bnd_ok {α β : Type} {m : M α} {k : α → M β} {s s' : Sto} {a : α} (h : m s = .ok a s') : bnd m k s = k a s' := by unfold bnd; rw [h]
theorem bnd_exc {α β : Type} {m : M α} {k : α → M β} {s s' : Sto} {c : Str} {fs : List (Str × MV)} (h : m s = .exc c fs s') : bnd m k s = .exc c fs s' := by unfold bnd; rw [h]
abbrev Env := List (Option MV)

/-! ### how it stands in the heap -/
abbrev Th := Nat → Addr
/-- a is no place of the store -/
def NC (θ : Th) (st : Sto) (a : Addr) : Prop := ∀ i, (st.o i).isSome = true → θ i ≠ a
mutual
inductive DD (K : PySem.W.Frag) (H : Hp) (nc : Addr → Prop) : V → PyData → Prop
  | non : DD K H nc .non .none
  | bl (b : Bool) : DD K H nc (.bl b) (.bool b)
  | int (i : Int) : DD K H nc (.int i) (.int i)
  | str (x : Str) : DD K H nc (.str x) (.str x)
  | lst {a : Addr} {xs : List V} {ds : List PyData} : H a = some (.lst xs) → nc a → DDs K H nc xs ds → DD K H nc (.ref a) (.list ds)
  | tup {a : Addr} {xs : List V} {ds : List PyData} : H a = some (.tup xs) → nc a → DDs K H nc xs ds → DD K H nc (.ref a) (.tuple ds)
inductive DDs (K : PySem.W.Frag) (H : Hp) (nc : Addr → Prop) : List V → List PyData → Prop
  | nil : DDs K H nc [] []
  | cons {v : V} {vs : List V} {d : PyData} {ds : List PyData} : DD K H nc v d → DDs K H nc vs ds → DDs K H nc (v :: vs) (d :: ds)
end
/-- a value's standing -/
def RM (K : PySem.W.Frag) (θ : Th) (st : Sto) (H : Hp) : V → MV → Prop
  | v, .d x => DD K H (NC θ st) v x
  | v, .c i => i < st.n ∧ v = .ref (θ i)
  | v, .scr ns => ∃ a, v = .ref a ∧ ((Rd H a (.lst (ns.map V.int)) ∧ NC θ st a) ∨ SqL K (fun _ => none) a (ns.map V.int))
/-- the script's list is read -/
theorem scr_sq {K : PySem.W.Frag} {θ : Th} {st : Sto} {H : Hp} {a : Addr} {xs : List V} (h : (Rd H a (.lst xs) ∧ NC θ st a) ∨ SqL K (fun _ => none) a xs) : SqL K H a xs := by
  rcases h with h | (h | ⟨_, h⟩) | h
  · exact .inl h.1
  · cases h
  · cases h
  · exact .inr h
abbrev RMs (K : PySem.W.Frag) (θ : Th) (st : Sto) (H : Hp) : List V → List MV → Prop := Paired (RM K θ st H)
def RF (K : PySem.W.Frag) (θ : Th) (st : Sto) (H : Hp) {κ : Type} : (κ × V) → (κ × MV) → Prop := fun p q => p.1 = q.1 ∧ RM K θ st H p.2 q.2
abbrev RFs (K : PySem.W.Frag) (θ : Th) (st : Sto) (H : Hp) {κ : Type} : List (κ × V) → List (κ × MV) → Prop := Paired (RF K θ st H)
/-- an exception's object, caught -/
def ExD (cls : Value) (dd : Option Addr) (a : Addr) : HO := .ext fun h => ∃ (oe : Obj) (vs : Array Value), h.get? a = some oe ∧ Zc cls dd oe ∧ oe.data = .fields vs
/-- an exception's object, made without arguments, never raised -/
def Ex0 (cls : Value) (t a : Addr) : HO := .ext fun h => h.get? a = some { cls := cls, data := .fields #[.ref t, .none, .none, .none, .bool false, .none] }
/-- an exception's own dict -/
def XD (K : PySem.W.Frag) (θ : Th) (st : Sto) (H : Hp) (d : Option Addr) (fs : List (Str × MV)) : Prop :=
  (fs = [] ∧ d = none) ∨ ∃ dd gs, d = some dd ∧ H dd = some (.xd gs) ∧ NC θ st dd ∧ RFs K θ st H gs fs
def OR (cm : Str → Addr) (K : PySem.W.Frag) (θ : Th) (st : Sto) (H : Hp) (a : Addr) (ho : HO) : MO → Prop
  | .lst xs => ∃ ys, ho = .lst ys ∧ RMs K θ st H ys xs
  | .tup xs => ∃ ys, ho = .tup ys ∧ RMs K θ st H ys xs
  | .dic kvs => ∃ kws, ho = .dK kws ∧ RFs K θ st H kws kvs
  | .ins c fs => ∃ dx gs, ho = .ins (cm c) dx gs ∧ RFs K θ st H gs fs
  | .exc c fs => ∃ d, ho = ExD (.ref (cm c)) d a ∧ XD K θ st H d fs
  | .exc0 c => ∃ t, ho = Ex0 (.ref (cm c)) t a ∧ H t = some (.tup []) ∧ NC θ st t
/-- the store stands in the heap -/
structure HR (cm : Str → Addr) (K : PySem.W.Frag) (θ : Th) (st : Sto) (H : Hp) : Prop where
  inj : ∀ i j, (st.o i).isSome = true → (st.o j).isSome = true → θ i = θ j → i = j
  fin : ∀ i, st.n ≤ i → st.o i = none
  obj : ∀ i o, st.o i = some o → ∃ ho, H (θ i) = some ho ∧ OR cm K θ st H (θ i) ho o
/-- what may have come about -/
structure Gr (θ : Th) (st : Sto) (H : Hp) (θ' : Th) (st' : Sto) (H' : Hp) : Prop where
  n : st.n ≤ st'.n
  th : ∀ i, i < st.n → θ' i = θ i
  fz : ∀ a u, H a = some u → NC θ st a → H' a = some u ∧ NC θ' st' a
section
variable {cm : Str → Addr} {K : PySem.W.Frag} {θ θ' θ'' : Th} {st st' st'' : Sto} {H H' H'' : Hp}
theorem Gr.refl : Gr θ st H θ st H := ⟨Nat.le_refl _, fun _ _ => rfl, fun _ _ h n => ⟨h, n⟩⟩
theorem Gr.trans (a : Gr θ st H θ' st' H') (b : Gr θ' st' H' θ'' st'' H'') : Gr θ st H θ'' st'' H'' :=
  ⟨Nat.le_trans a.n b.n, fun i hi => (b.th i (Nat.lt_of_lt_of_le hi a.n)).trans (a.th i hi), fun x u h n => let ⟨h1, n1⟩ := a.fz x u h n; b.fz x u h1 n1⟩
mutual
theorem DD.mono (g : Gr θ st H θ' st' H') : ∀ {v : V} {x : PyData}, DD K H (NC θ st) v x → DD K H' (NC θ' st') v x
  | _, _, .non => .non
  | _, _, .bl b => .bl b
  | _, _, .int i => .int i
  | _, _, .str x => .str x
  | _, _, .lst h n t => let ⟨h', n'⟩ := g.fz _ _ h n; .lst h' n' (DDs.mono g t)
  | _, _, .tup h n t => let ⟨h', n'⟩ := g.fz _ _ h n; .tup h' n' (DDs.mono g t)
theorem DDs.mono (g : Gr θ st H θ' st' H') : ∀ {vs : List V} {xs : List PyData}, DDs K H (NC θ st) vs xs → DDs K H' (NC θ' st') vs xs
  | _, _, .nil => .nil
  | _, _, .cons h t => .cons (DD.mono g h) (DDs.mono g t)
end
theorem RM.mono (g : Gr θ st H θ' st' H') {v : V} {m : MV} (r : RM K θ st H v m) : RM K θ' st' H' v m := by
  cases m with
  | d x => exact DD.mono g r
  | c i =>
    obtain ⟨h, e⟩ := r
    exact ⟨Nat.lt_of_lt_of_le h g.n, e.trans (congrArg V.ref (g.th i h).symm)⟩
  | scr ns =>
    obtain ⟨a, e, ⟨h | ⟨o, h⟩, n⟩ | h⟩ := r
    · obtain ⟨h', n'⟩ := g.fz _ _ h n
      exact ⟨a, e, .inl ⟨.inl h', n'⟩⟩
    · obtain ⟨h', n'⟩ := g.fz _ _ h n
      exact ⟨a, e, .inl ⟨.inr ⟨o, h'⟩, n'⟩⟩
    · exact ⟨a, e, .inr h⟩
theorem RMs.mono (g : Gr θ st H θ' st' H') : ∀ {vs : List V} {ms : List MV}, RMs K θ st H vs ms → RMs K θ' st' H' vs ms
  | _, _, .nil => .nil
  | _, _, .cons h t => .cons (h.mono g) (RMs.mono g t)
theorem RFs.mono (g : Gr θ st H θ' st' H') {κ : Type} : ∀ {vs : List (κ × V)} {ms : List (κ × MV)}, RFs K θ st H vs ms → RFs K θ' st' H' vs ms
  | _, _, .nil => .nil
  | _, _, .cons h t => .cons ⟨h.1, h.2.mono g⟩ (RFs.mono g t)
theorem XD.mono (g : Gr θ st H θ' st' H') {d : Option Addr} {fs : List (Str × MV)} (x : XD K θ st H d fs) : XD K θ' st' H' d fs := by
  rcases x with x | ⟨dd, gs, e, h, n, r⟩
  · exact .inl x
  · obtain ⟨h', n'⟩ := g.fz _ _ h n
    exact .inr ⟨dd, gs, e, h', n', r.mono g⟩
theorem OR.mono (g : Gr θ st H θ' st' H') {a : Addr} {ho : HO} {o : MO} (r : OR cm K θ st H a ho o) : OR cm K θ' st' H' a ho o := by
  cases o with
  | lst xs => obtain ⟨ys, e, q⟩ := r; exact ⟨ys, e, q.mono g⟩
  | tup xs => obtain ⟨ys, e, q⟩ := r; exact ⟨ys, e, q.mono g⟩
  | dic xs => obtain ⟨ys, e, q⟩ := r; exact ⟨ys, e, q.mono g⟩
  | ins c fs => obtain ⟨dx, gs, e, q⟩ := r; exact ⟨dx, gs, e, q.mono g⟩
  | exc c fs => obtain ⟨d, e, q⟩ := r; exact ⟨d, e, q.mono g⟩
  | exc0 c =>
    obtain ⟨t, e, h, n⟩ := r
    obtain ⟨h', n'⟩ := g.fz _ _ h n
    exact ⟨t, e, h', n'⟩
/-- a place stands somewhere -/
theorem HR.there (h : HR cm K θ st H) {i : Nat} (hi : (st.o i).isSome = true) : ∃ ho, H (θ i) = some ho := by
  obtain ⟨o, e⟩ := Option.isSome_iff_exists.mp hi
  obtain ⟨ho, e', _⟩ := h.obj i o e
  exact ⟨ho, e'⟩
theorem HR.apart (h : HR cm K θ st H) {p : Addr} (hp : H p = none) : NC θ st p := fun i hi e => by
  obtain ⟨ho, e'⟩ := h.there hi
  rw [e, hp] at e'; cases e'
theorem HR.lt (h : HR cm K θ st H) {i : Nat} {o : MO} (e : st.o i = some o) : i < st.n := by
  rcases Nat.lt_or_ge i st.n with l | l
  · exact l
  · rw [h.fin i l] at e; cases e

/-! ### the five things that come about -/
theorem gr_fresh (h : HR cm K θ st H) {p : Addr} (hp : H p = none) (u : HO) : Gr θ st H θ st (upd H p u) :=
  ⟨Nat.le_refl _, fun _ _ => rfl, fun a v e n => ⟨by rw [upd_ne (ne_of_none e hp)]; exact e, n⟩⟩
theorem hr_fresh (h : HR cm K θ st H) {p : Addr} (hp : H p = none) (u : HO) : HR cm K θ st (upd H p u) :=
  ⟨h.inj, h.fin, fun i o e => by
    obtain ⟨ho, e', r⟩ := h.obj i o e
    exact ⟨ho, by rw [upd_ne (ne_of_none e' hp)]; exact e', r.mono (gr_fresh h hp u)⟩⟩
/-- the places with one more -/
def thn (θ : Th) (st : Sto) (p : Addr) : Th := fun i => if i = st.n then p else θ i
theorem thn_old {p : Addr} {i : Nat} (h : i < st.n) : thn θ st p i = θ i := if_neg (Nat.ne_of_lt h)
theorem thn_new {p : Addr} : thn θ st p st.n = p := if_pos rfl
theorem Sto.new_old {o : MO} {i : Nat} (h : i ≠ st.n) : (st.new o).o i = st.o i := if_neg h
theorem Sto.new_new {o : MO} : (st.new o).o st.n = some o := if_pos rfl
theorem gr_cell (h : HR cm K θ st H) {p : Addr} (hp : H p = none) (u : HO) (o : MO) : Gr θ st H (thn θ st p) (st.new o) (upd H p u) := by
  refine ⟨Nat.le_succ _, fun i hi => thn_old hi, fun a v e n => ⟨by rw [upd_ne (ne_of_none e hp)]; exact e, fun i hi z => ?_⟩⟩
  by_cases hn : i = st.n
  · subst hn
    rw [thn_new] at z
    exact ne_of_none e hp z.symm
  · rw [Sto.new_old hn] at hi
    have hl : i < st.n := by
      obtain ⟨q, hq⟩ := Option.isSome_iff_exists.mp hi
      exact h.lt hq
    rw [thn_old hl] at z
    exact n i hi z
theorem hr_cell (h : HR cm K θ st H) {p : Addr} (hp : H p = none) {u : HO} {o : MO} (ho : OR cm K (thn θ st p) (st.new o) (upd H p u) p u o) : HR cm K (thn θ st p) (st.new o) (upd H p u) := by
  have g := gr_cell h hp u o
  have old : ∀ i, ((st.new o).o i).isSome = true → i ≠ st.n → (st.o i).isSome = true ∧ i < st.n := fun i hi hn => by
    rw [Sto.new_old hn] at hi
    obtain ⟨q, hq⟩ := Option.isSome_iff_exists.mp hi
    exact ⟨hi, h.lt hq⟩
  refine ⟨fun i j hi hj e => ?_, fun i hi => ?_, fun i q e => ?_⟩
  · by_cases h1 : i = st.n <;> by_cases h2 : j = st.n
    · rw [h1, h2]
    · obtain ⟨a, b⟩ := old j hj h2
      rw [h1, thn_new, thn_old b] at e
      exact absurd e.symm (h.apart hp j a)
    · obtain ⟨a, b⟩ := old i hi h1
      rw [h2, thn_new, thn_old b] at e
      exact absurd e (h.apart hp i a)
    · obtain ⟨a, b⟩ := old i hi h1
      obtain ⟨a', b'⟩ := old j hj h2
      rw [thn_old b, thn_old b'] at e
      exact h.inj i j a a' e
  · have hn : i ≠ st.n := fun z => by
      have : st.n + 1 ≤ i := hi
      omega
    rw [Sto.new_old hn]
    exact h.fin i (Nat.le_of_succ_le hi)
  · by_cases hn : i = st.n
    · subst hn
      rw [Sto.new_new] at e
      cases e
      rw [thn_new]
      exact ⟨u, upd_same, ho⟩
    · rw [Sto.new_old hn] at e
      obtain ⟨w, e', r⟩ := h.obj i q e
      rw [thn_old (h.lt e)]
      exact ⟨w, by rw [upd_ne (ne_of_none e' hp)]; exact e', r.mono g⟩
theorem gr_put {i : Nat} (hi : (st.o i).isSome = true) (u : HO) (o : MO) : Gr θ st H θ (st.put i o) (upd H (θ i) u) := by
  refine ⟨Nat.le_refl _, fun _ _ => rfl, fun a v e n => ⟨by rw [upd_ne (Ne.symm (n i hi))]; exact e, fun j hj => ?_⟩⟩
  by_cases hn : j = i
  · rw [hn]; exact n i hi
  · have z : (st.put i o).o j = st.o j := if_neg hn
    rw [z] at hj
    exact n j hj
theorem hr_put (h : HR cm K θ st H) {i : Nat} (hi : (st.o i).isSome = true) {u : HO} {o : MO} (ho : OR cm K θ (st.put i o) (upd H (θ i) u) (θ i) u o) : HR cm K θ (st.put i o) (upd H (θ i) u) := by
  have g : Gr θ st H θ (st.put i o) (upd H (θ i) u) := gr_put hi u o
  have old : ∀ j, ((st.put i o).o j).isSome = true → (st.o j).isSome = true := fun j hj => by
    by_cases hn : j = i
    · rw [hn]; exact hi
    · have z : (st.put i o).o j = st.o j := if_neg hn
      rw [z] at hj; exact hj
  refine ⟨fun j k hj hk e => h.inj j k (old j hj) (old k hk) e, fun j hj => ?_, fun j q e => ?_⟩
  · have hn : j ≠ i := fun z => by
      obtain ⟨w, hw⟩ := Option.isSome_iff_exists.mp hi
      have := h.lt hw
      have : st.n ≤ j := hj
      omega
    exact (if_neg hn).trans (h.fin j hj)
  · by_cases hn : j = i
    · subst hn
      have z : (st.put j o).o j = some o := if_pos rfl
      rw [z] at e; cases e
      exact ⟨u, upd_same, ho⟩
    · have z : (st.put i o).o j = st.o j := if_neg hn
      rw [z] at e
      obtain ⟨w, e', r⟩ := h.obj j q e
      refine ⟨w, ?_, r.mono g⟩
      rw [upd_ne fun z => hn (h.inj j i (by rw [e]; rfl) hi z)]
      exact e'
theorem gr_kill {i : Nat} : Gr θ st H θ (st.kill i) H :=
  ⟨Nat.le_refl _, fun _ _ => rfl, fun a v e n => ⟨e, fun j hj => n j (by
    by_cases hn : j = i
    · have z : (st.kill i).o j = none := if_pos hn
      rw [z] at hj; cases hj
    · have z : (st.kill i).o j = st.o j := if_neg hn
      rw [z] at hj; exact hj)⟩⟩
theorem hr_kill (h : HR cm K θ st H) {i : Nat} : HR cm K θ (st.kill i) H := by
  have old : ∀ j o, (st.kill i).o j = some o → j ≠ i ∧ st.o j = some o := fun j o e => by
    by_cases hn : j = i
    · have z : (st.kill i).o j = none := if_pos hn
      rw [z] at e; cases e
    · have z : (st.kill i).o j = st.o j := if_neg hn
      rw [z] at e; exact ⟨hn, e⟩
  refine ⟨fun j k hj hk e => ?_, fun j hj => ?_, fun j q e => ?_⟩
  · obtain ⟨a, ha⟩ := Option.isSome_iff_exists.mp hj
    obtain ⟨b, hb⟩ := Option.isSome_iff_exists.mp hk
    exact h.inj j k (by rw [(old j a ha).2]; rfl) (by rw [(old k b hb).2]; rfl) e
  · by_cases hn : j = i
    · exact if_pos hn
    · exact (if_neg hn).trans (h.fin j hj)
  · obtain ⟨w, e', r⟩ := h.obj j q (old j q e).2
    exact ⟨w, e', r.mono gr_kill⟩
/-- a list that is no place any more is data -/
theorem nc_kill (h : HR cm K θ st H) {i : Nat} (hi : (st.o i).isSome = true) : NC θ (st.kill i) (θ i) := fun j hj e => by
  by_cases hn : j = i
  · have z : (st.kill i).o j = none := if_pos hn
    rw [z] at hj; cases hj
  · have z : (st.kill i).o j = st.o j := if_neg hn
    rw [z] at hj
    exact hn (h.inj j i hj hi e)
end

/-! ### what is wanted behind a piece -/
/-- behind a thing that gives an α -/
def Out {α β : Type} (RX : Th → Sto → Hp → β → α → Prop) (cm : Str → Addr) (K : PySem.W.Frag) (W : WX) (θ : Th) (st : Sto) (σ : L2.St) (H : Hp) (Q : β → Hp → Prop) : Res α → Prop
  | .ok v st' => ∀ θ' H' x, Gr θ st H θ' st' H' → HR cm K θ' st' H' → RX θ' st' H' x v → Q x H'
  | .exc c fs st' => ∀ θ' H' d, Gr θ st H θ' st' H' → HR cm K θ' st' H' → XD K θ' st' H' d fs → W (.ref (cm c)) d σ H'
  | .bad => False
theorem Out.up {α β : Type} {RX : Th → Sto → Hp → β → α → Prop} {cm : Str → Addr} {K : PySem.W.Frag} {W : WX} {θ θ1 : Th} {st st1 : Sto} {σ : L2.St} {H H1 : Hp} {Q : β → Hp → Prop} {r : Res α}
    (g : Gr θ st H θ1 st1 H1) (o : Out RX cm K W θ st σ H Q r) : Out RX cm K W θ1 st1 σ H1 Q r := by
  cases r with
  | ok v s => exact fun θ' H' x g' => o θ' H' x (g.trans g')
  | exc c fs s => exact fun θ' H' d g' => o θ' H' d (g.trans g')
  | bad => exact o
theorem Out.val {α β : Type} {RX : Th → Sto → Hp → β → α → Prop} {cm : Str → Addr} {K : PySem.W.Frag} {W : WX} {θ : Th} {st : Sto} {σ : L2.St} {H : Hp} {Q : β → Hp → Prop} {x : β} {v : α}
    (o : Out RX cm K W θ st σ H Q (.ok v st)) (h : HR cm K θ st H) (r : RX θ st H x v) : Q x H := o θ H x .refl h r
theorem Out.bind {α β γ δ : Type} {RX : Th → Sto → Hp → β → α → Prop} {RY : Th → Sto → Hp → δ → γ → Prop} {cm : Str → Addr} {K : PySem.W.Frag} {W : WX} {θ : Th} {st : Sto} {σ : L2.St} {H : Hp} {Q : δ → Hp → Prop} {R : β → Hp → Prop} {m : M α} {k : α → M γ}
    (o : Out RY cm K W θ st σ H Q (bnd m k st))
    (hk : ∀ v st1 θ1 H1 x, Gr θ st H θ1 st1 H1 → HR cm K θ1 st1 H1 → RX θ1 st1 H1 x v → Out RY cm K W θ1 st1 σ H1 Q (k v st1) → R x H1) : Out RX cm K W θ st σ H R (m st) := by
  unfold bnd at o
  cases e : m st with
  | ok v s =>
    rw [e] at o
    exact fun θ' H' x g h r => hk v s θ' H' x g h r (o.up g)
  | exc c fs s =>
    rw [e] at o
    exact o
  | bad =>
    rw [e] at o
    exact o
/-- the slots -/
def RS (K : PySem.W.Frag) (θ : Th) (st : Sto) (H : Hp) : Option V → Option MV → Prop
  | some v, some m => RM K θ st H v m
  | _, none => True
  | none, some _ => False
abbrev ER (K : PySem.W.Frag) (θ : Th) (st : Sto) (H : Hp) : L2.St → Env → Prop := Paired (RS K θ st H)
section
variable {cm : Str → Addr} {K : PySem.W.Frag} {θ θ' : Th} {st st' : Sto} {H H' : Hp}
theorem RS.mono (g : Gr θ st H θ' st' H') {v : Option V} {m : Option MV} (r : RS K θ st H v m) : RS K θ' st' H' v m := by
  cases v <;> cases m
  · trivial
  · exact r
  · trivial
  · exact RM.mono g r
theorem ER.mono (g : Gr θ st H θ' st' H') : ∀ {σ : L2.St} {ρ : Env}, ER K θ st H σ ρ → ER K θ' st' H' σ ρ
  | _, _, .nil => .nil
  | _, _, .cons h t => .cons (h.mono g) (ER.mono g t)
theorem ER.get : ∀ {σ : L2.St} {ρ : Env} {i : Nat} {m : MV}, ER K θ st H σ ρ → ρ[i]? = some (some m) → ∃ v, σ[i]? = some (some v) ∧ RM K θ st H v m
  | _, _, _, _, .nil, e => by simp at e
  | a :: _, _, 0, m, .cons r _, e => by
    simp at e; subst e
    cases a with
    | none => exact False.elim r
    | some v => exact ⟨v, rfl, r⟩
  | _, _, i + 1, m, .cons _ t, e => by
    obtain ⟨v, h1, h2⟩ := ER.get (i := i) t (by simpa using e)
    exact ⟨v, by simpa using h1, h2⟩
theorem ER.set {x : Option V} {m : Option MV} (r : RS K θ st H x m) : ∀ {σ : L2.St} {ρ : Env} (i : Nat), ER K θ st H σ ρ → ER K θ st H (σ.set i x) (ρ.set i m)
  | _, _, _, .nil => .nil
  | _, _, 0, .cons _ t => .cons r t
  | _, _, i + 1, .cons q t => .cons q (ER.set r i t)
end

/-! ### the judgements -/
/-- a piece with the reading judgement P, told by f -/
def DG {α β : Type} (RX : PySem.W.Frag → Th → Sto → Hp → β → α → Prop) (X : Cx) (cm : Str → Addr) (W : WX) (P : (L2.St → Hp → (β → Hp → Prop) → Prop) → Prop) (f : Env → M α) : Prop :=
  ∃ t, P t ∧ ∀ θ st σ ρ H Q, HR cm X.K θ st H → ER X.K θ st H σ ρ → Out (RX X.K) cm X.K W θ st σ H Q (f ρ st) → t σ H Q
abbrev RB : PySem.W.Frag → Th → Sto → Hp → Bool → Bool → Prop := fun _ _ _ _ b c => b = c
abbrev DE (X : Cx) (cm : Str → Addr) (W : WX) (e : Expr) (f : Env → M MV) : Prop := DG RM X cm W (PE X e) f
abbrev DT (X : Cx) (cm : Str → Addr) (W : WX) (e : Expr) (f : Env → M Bool) : Prop := DG RB X cm W (PT X e) f
abbrev DW (X : Cx) (cm : Str → Addr) (W : WX) (e : Expr) (f : Env → M Bool) : Prop := DG RB X cm W (PW X e) f
abbrev DA (X : Cx) (cm : Str → Addr) (W : WX) (es : List Expr) (f : Env → M (List MV)) : Prop := DG RMs X cm W (PA X es) f
end Dm

set_option Elab.async false
set_option linter.all false
set_option maxRecDepth 100000
/-! The machine's expressions: each function beside the rule that it stands for. -/
namespace Dm
open PySem PySem.Spec PyProof.Rows L2

/-! ### looks at a value -/
def datas : List MV → Option (List PyData)
  | [] => some []
  | .d x :: r => (datas r).map (x :: ·)
  | _ :: _ => none
def listOf (st : Sto) : MV → Option (List MV)
  | .d (.list ds) => some (ds.map .d)
  | .c i => match st.o i with | some (.lst xs) => some xs | _ => none
  | _ => none
def tupOf (st : Sto) : MV → Option (List MV)
  | .d (.tuple ds) => some (ds.map .d)
  | .c i => match st.o i with | some (.tup xs) => some xs | _ => none
  | _ => none
def dicOf (st : Sto) : MV → Option (List (Key × MV))
  | .c i => match st.o i with | some (.dic kvs) => some kvs | _ => none
  | _ => none
def asInt : MV → Option Int
  | .d (.int i) => some i
  | _ => none
def asStr : MV → Option Str
  | .d (.str x) => some x
  | _ => none
def asBool : MV → Option Bool
  | .d (.bool b) => some b
  | _ => none
def asKey : MV → Option Key
  | .d (.int i) => some (.inl i)
  | .d (.str x) => some (.inr x)
  | _ => none
/-- the data that a value holds, places looked through -/
def dataOf : Nat → Sto → MV → Option PyData
  | _, _, .d x => some x
  | n + 1, st, .c i => match st.o i with
    | some (.lst xs) => (xs.mapM (dataOf n st)).map .list
    | some (.tup xs) => (xs.mapM (dataOf n st)).map .tuple
    | _ => none
  | _, _, _ => none
/-- a list, a tuple of such values -/
def mkL (xs : List MV) : M MV := fun st => if xs.length ≤ sizeLine then (match datas xs with
  | some ds => .ok (.d (.list ds)) st
  | none => .ok (.c st.n) (st.new (.lst xs))) else .bad
/-- .. that may be changed -/
def mkLc (xs : List MV) : M MV := fun st => if xs.length ≤ sizeLine then .ok (.c st.n) (st.new (.lst xs)) else .bad
def mkT (xs : List MV) : M MV := fun st => if xs.length ≤ sizeLine then (match datas xs with
  | some ds => .ok (.d (.tuple ds)) st
  | none => .ok (.c st.n) (st.new (.tup xs))) else .bad
def tyOf (st : Sto) : MV → String
  | .d (.str _) => "str"
  | .d (.list _) => "list"
  | .c i => match st.o i with | some (.lst _) => "list" | some (.dic _) => "dict" | _ => ""
  | _ => ""
section
variable {cm : Str → Addr} {K : PySem.W.Frag} {θ : Th} {st : Sto} {H : Hp} {W : WX} {σ : L2.St}
theorem dds_of : ∀ {vs : List V} {ms : List MV} {ds : List PyData}, RMs K θ st H vs ms → datas ms = some ds → DDs K H (NC θ st) vs ds
  | _, [], _, .nil, e => by cases e; exact .nil
  | _, .d x :: r, ds, .cons h t, e => by
    unfold datas at e
    cases q : datas r with
    | none => rw [q] at e; cases e
    | some zs =>
      rw [q] at e
      cases e
      exact .cons h (dds_of t q)
  | _, .c i :: r, ds, .cons h t, e => by cases e
  | _, .scr i :: r, ds, .cons h t, e => by cases e
theorem rms_of : ∀ {vs : List V} {ds : List PyData}, DDs K H (NC θ st) vs ds → RMs K θ st H vs (ds.map .d)
  | _, _, .nil => .nil
  | _, _, .cons h t => .cons h (rms_of t)
theorem datas_map : ∀ ds : List PyData, datas (ds.map .d) = some ds
  | [] => rfl
  | x :: r => by show (datas (r.map .d)).map (x :: ·) = _; rw [datas_map r]; rfl
theorem list_of (h : HR cm K θ st H) {x : V} {v : MV} {xs : List MV} (r : RM K θ st H x v) (e : listOf st v = some xs) : ∃ a ys, x = .ref a ∧ H a = some (.lst ys) ∧ RMs K θ st H ys xs := by
  cases v with
  | d p =>
    cases p with
    | list ds =>
      cases e
      cases r with
      | lst h1 n t => exact ⟨_, _, rfl, h1, rms_of t⟩
    | _ => cases e
  | c i =>
    obtain ⟨_, rfl⟩ := r
    have e' : (match st.o i with | some (.lst xs) => some xs | _ => none) = some xs := e
    cases q : st.o i with
    | none => rw [q] at e'; cases e'
    | some o =>
      rw [q] at e'
      cases o with
      | lst zs =>
        cases e'
        obtain ⟨ho, h1, ys, rfl, h3⟩ := h.obj i _ q
        exact ⟨_, ys, rfl, h1, h3⟩
      | _ => cases e'
  | scr ns => cases e
theorem tup_of (h : HR cm K θ st H) {x : V} {v : MV} {xs : List MV} (r : RM K θ st H x v) (e : tupOf st v = some xs) : ∃ a ys, x = .ref a ∧ H a = some (.tup ys) ∧ RMs K θ st H ys xs := by
  cases v with
  | d p =>
    cases p with
    | tuple ds =>
      cases e
      cases r with
      | tup h1 n t => exact ⟨_, _, rfl, h1, rms_of t⟩
    | _ => cases e
  | c i =>
    obtain ⟨_, rfl⟩ := r
    have e' : (match st.o i with | some (.tup xs) => some xs | _ => none) = some xs := e
    cases q : st.o i with
    | none => rw [q] at e'; cases e'
    | some o =>
      rw [q] at e'
      cases o with
      | tup zs =>
        cases e'
        obtain ⟨ho, h1, ys, rfl, h3⟩ := h.obj i _ q
        exact ⟨_, ys, rfl, h1, h3⟩
      | _ => cases e'
  | scr ns => cases e
theorem dic_of (h : HR cm K θ st H) {x : V} {v : MV} {xs : List (Key × MV)} (r : RM K θ st H x v) (e : dicOf st v = some xs) : ∃ i a ys, v = .c i ∧ st.o i = some (.dic xs) ∧ a = θ i ∧ x = .ref a ∧ H a = some (.dK ys) ∧ RFs K θ st H ys xs := by
  cases v with
  | d p => cases e
  | c i =>
    obtain ⟨_, rfl⟩ := r
    have e' : (match st.o i with | some (.dic xs) => some xs | _ => none) = some xs := e
    cases q : st.o i with
    | none => rw [q] at e'; cases e'
    | some o =>
      rw [q] at e'
      cases o with
      | dic zs =>
        cases e'
        obtain ⟨ho, h1, ys, rfl, h3⟩ := h.obj i _ q
        exact ⟨i, _, ys, rfl, q, rfl, rfl, h1, h3⟩
      | _ => cases e'
  | scr ns => cases e
theorem int_of {x : V} {v : MV} {i : Int} (r : RM K θ st H x v) (e : asInt v = some i) : x = .int i := by
  cases v with
  | d p => cases p <;> first | (cases e; cases r; rfl) | cases e
  | c j => cases e
  | scr ns => cases e
theorem str_of {x : V} {v : MV} {i : Str} (r : RM K θ st H x v) (e : asStr v = some i) : x = .str i := by
  cases v with
  | d p => cases p <;> first | (cases e; cases r; rfl) | cases e
  | c j => cases e
  | scr ns => cases e
theorem bool_of {x : V} {v : MV} {i : Bool} (r : RM K θ st H x v) (e : asBool v = some i) : x = .bl i := by
  cases v with
  | d p => cases p <;> first | (cases e; cases r; rfl) | cases e
  | c j => cases e
  | scr ns => cases e
theorem key_of {x : V} {v : MV} {k : Key} (r : RM K θ st H x v) (e : asKey v = some k) : x = kV k := by
  cases v with
  | d p => cases p <;> first | (cases e; cases r; rfl) | cases e
  | c j => cases e
  | scr ns => cases e
mutual
theorem dp_of : ∀ {v : V} {x : PyData} {nc : Addr → Prop}, DD K H nc v x → Dp K H v x
  | _, _, _, .non => .non
  | _, _, _, .bl b => .bl b
  | _, _, _, .int i => .int i
  | _, _, _, .str x => .str x
  | _, _, _, .lst h n t => .lst (.of h) (dps_of t)
  | _, _, _, .tup h n t => .tup (.of h) (dps_of t)
theorem dps_of : ∀ {vs : List V} {xs : List PyData} {nc : Addr → Prop}, DDs K H nc vs xs → DpAll K H vs xs
  | _, _, _, .nil => .nil
  | _, _, _, .cons h t => .cons (dp_of h) (dps_of t)
end
theorem dpall_of {f : MV → Option PyData} : ∀ {vs : List V} {ms : List MV} {ds : List PyData}, RMs K θ st H vs ms → (∀ v m d, RM K θ st H v m → f m = some d → Dp K H v d) → ms.mapM f = some ds → DpAll K H vs ds
  | _, _, ds, .nil, _, e => by
    simp only [List.mapM_nil] at e
    cases e
    exact .nil
  | v :: vs, m :: ms, ds, .cons h t, hf, e => by
    rw [List.mapM_cons] at e
    cases q : f m with
    | none => rw [q] at e; cases e
    | some d =>
      cases q' : ms.mapM f with
      | none => rw [q, q'] at e; cases e
      | some es =>
        rw [q, q'] at e
        cases e
        exact .cons (hf v m d h q) (dpall_of t hf q')
/-- the data of a value, as == and repr want it -/
theorem data_of (h : HR cm K θ st H) : ∀ (n : Nat) {x : V} {v : MV} {d : PyData}, RM K θ st H x v → dataOf n st v = some d → Dp K H x d := by
  intro n
  induction n with
  | zero =>
    intro x v d r e
    cases v with
    | d p => cases e; exact dp_of r
    | c i => cases e
    | scr ns => cases e
  | succ n ih =>
    intro x v d r e
    cases v with
    | d p => cases e; exact dp_of r
    | scr ns => cases e
    | c i =>
      obtain ⟨_, rfl⟩ := r
      have e' : (match st.o i with
        | some (.lst xs) => (xs.mapM (dataOf n st)).map PyData.list
        | some (.tup xs) => (xs.mapM (dataOf n st)).map PyData.tuple
        | _ => none) = some d := e
      cases q : st.o i with
      | none => rw [q] at e'; cases e'
      | some o =>
        rw [q] at e'
        cases o with
        | lst zs =>
          obtain ⟨ho, h1, ys, rfl, h3⟩ := h.obj i _ q
          cases q' : zs.mapM (dataOf n st) with
          | none => simp only [q'] at e'; cases e'
          | some ds =>
            simp only [q'] at e'
            cases e'
            exact .lst (.of h1) (dpall_of h3 (fun v m d r e => ih r e) q')
        | tup zs =>
          obtain ⟨ho, h1, ys, rfl, h3⟩ := h.obj i _ q
          cases q' : zs.mapM (dataOf n st) with
          | none => simp only [q'] at e'; cases e'
          | some ds =>
            simp only [q'] at e'
            cases e'
            exact .tup (.of h1) (dpall_of h3 (fun v m d r e => ih r e) q')
        | _ => cases e'
theorem RMs.len {vs : List V} {ms : List MV} (r : RMs K θ st H vs ms) : vs.length = ms.length := Paired.length r
theorem RMs.app : ∀ {vs ws : List V} {ms ns : List MV}, RMs K θ st H vs ms → RMs K θ st H ws ns → RMs K θ st H (vs ++ ws) (ms ++ ns)
  | _, _, _, _, .nil, s => s
  | _, _, _, _, .cons h t, s => .cons h (RMs.app t s)
theorem RMs.get : ∀ {vs : List V} {ms : List MV} {i : Nat} {m : MV}, RMs K θ st H vs ms → ms[i]? = some m → ∃ v, vs[i]? = some v ∧ RM K θ st H v m
  | _, _, _, _, .nil, e => by simp at e
  | _, _, 0, m, .cons r _, e => by simp at e; subst e; exact ⟨_, rfl, r⟩
  | _, _, i + 1, m, .cons _ t, e => by
    obtain ⟨v, h1, h2⟩ := RMs.get (i := i) t (by simpa using e)
    exact ⟨v, by simpa using h1, h2⟩
theorem RMs.takeN : ∀ {vs : List V} {ms : List MV} (n : Nat), RMs K θ st H vs ms → RMs K θ st H (vs.take n) (ms.take n)
  | _, _, 0, _ => .nil
  | _, _, _ + 1, .nil => .nil
  | _, _, n + 1, .cons r t => .cons r (RMs.takeN n t)
theorem RMs.dropN : ∀ {vs : List V} {ms : List MV} (n : Nat), RMs K θ st H vs ms → RMs K θ st H (vs.drop n) (ms.drop n)
  | _, _, 0, r => r
  | _, _, _ + 1, .nil => .nil
  | _, _, n + 1, .cons _ t => RMs.dropN n t
theorem RMs.setN {x : V} {m : MV} (r : RM K θ st H x m) : ∀ {vs : List V} {ms : List MV} (i : Nat), RMs K θ st H vs ms → RMs K θ st H (vs.set i x) (ms.set i m)
  | _, _, _, .nil => .nil
  | _, _, 0, .cons _ t => .cons r t
  | _, _, i + 1, .cons q t => .cons q (RMs.setN r i t)
/-- a new list has come -/
theorem mkL_out {xs : List MV} {ys : List V} {Q : VK} (h : HR cm K θ st H) (r : RMs K θ st H ys xs) (o : Out (RM K) cm K W θ st σ H Q (mkL xs st)) : ys.length ≤ sizeLine ∧ ∀ p, H p = none → Q (.ref p) (upd H p (.lst ys)) := by
  unfold mkL at o
  by_cases hz : xs.length ≤ sizeLine
  · rw [if_pos hz] at o
    refine ⟨by rw [r.len]; exact hz, fun p hp => ?_⟩
    cases e : datas xs with
    | some ds =>
      rw [e] at o
      exact o θ _ (.ref p) (gr_fresh h hp _) (hr_fresh h hp _) (.lst upd_same (h.apart hp) (DDs.mono (gr_fresh h hp _) (dds_of r e)))
    | none =>
      rw [e] at o
      exact o _ _ (.ref p) (gr_cell h hp _ _) (hr_cell h hp ⟨ys, rfl, r.mono (gr_cell h hp _ _)⟩) ⟨Nat.lt_succ_self _, by rw [thn_new]⟩
  · rw [if_neg hz] at o
    exact False.elim o
theorem mkLc_out {xs : List MV} {ys : List V} {Q : VK} (h : HR cm K θ st H) (r : RMs K θ st H ys xs) (o : Out (RM K) cm K W θ st σ H Q (mkLc xs st)) : ys.length ≤ sizeLine ∧ ∀ p, H p = none → Q (.ref p) (upd H p (.lst ys)) := by
  unfold mkLc at o
  by_cases hz : xs.length ≤ sizeLine
  · rw [if_pos hz] at o
    exact ⟨by rw [r.len]; exact hz, fun p hp => o _ _ (.ref p) (gr_cell h hp _ _) (hr_cell h hp ⟨ys, rfl, r.mono (gr_cell h hp _ _)⟩) ⟨Nat.lt_succ_self _, by rw [thn_new]⟩⟩
  · rw [if_neg hz] at o
    exact False.elim o
theorem mkT_out {xs : List MV} {ys : List V} {Q : VK} (h : HR cm K θ st H) (r : RMs K θ st H ys xs) (o : Out (RM K) cm K W θ st σ H Q (mkT xs st)) : ys.length ≤ sizeLine ∧ ∀ p, H p = none → Q (.ref p) (upd H p (.tup ys)) := by
  unfold mkT at o
  by_cases hz : xs.length ≤ sizeLine
  · rw [if_pos hz] at o
    refine ⟨by rw [r.len]; exact hz, fun p hp => ?_⟩
    cases e : datas xs with
    | some ds =>
      rw [e] at o
      exact o θ _ (.ref p) (gr_fresh h hp _) (hr_fresh h hp _) (.tup upd_same (h.apart hp) (DDs.mono (gr_fresh h hp _) (dds_of r e)))
    | none =>
      rw [e] at o
      exact o _ _ (.ref p) (gr_cell h hp _ _) (hr_cell h hp ⟨ys, rfl, r.mono (gr_cell h hp _ _)⟩) ⟨Nat.lt_succ_self _, by rw [thn_new]⟩
  · rw [if_neg hz] at o
    exact False.elim o
end

/-! ### names and constants -/
def mVar (i : Nat) : Env → M MV := fun ρ st => match ρ[i]? with | some (some v) => .ok v st | _ => .bad
def mC (x : PyData) : Env → M MV := fun _ st => .ok (.d x) st
section
variable {X : Cx} {cm : Str → Addr} {W : WX} {pos : Pos}
theorem de_v {x : Str} {i : Nat} (h : PE X (.Name x pos) (tVar i)) : DE X cm W (.Name x pos) (mVar i) := by
  refine ⟨_, h, fun θ st σ ρ H Q h er o => ?_⟩
  unfold mVar at o
  cases e : ρ[i]? with
  | none => rw [e] at o; exact False.elim o
  | some q =>
    cases q with
    | none => rw [e] at o; exact False.elim o
    | some m =>
      rw [e] at o
      obtain ⟨v, e', r⟩ := er.get e
      exact ⟨v, e', o.val h r⟩
theorem dv (i : Nat) {x : Str} (hN : X.N[i]? = some x := by rfl) (hv : Vis X.env.scope x := by first | exact Or.inl rfl | exact Or.inr (Or.inl rfl) | exact Or.inr (Or.inr rfl)) (hd : (x == ("__debug__" : Str)) = false := by decide)
    (hcd : (x == ("__classdict__" : Str)) = false := by decide) : DE X cm W (.Name x pos) (mVar i) := de_v (pe_var hN hv hd hcd)
theorem de_c {e : Expr} {v : V} {x : PyData} (p : PE X e (tC v)) (r : ∀ H nc, DD X.K H nc v x) : DE X cm W e (mC x) :=
  ⟨_, p, fun θ st σ ρ H Q h er o => o.val h (r H _)⟩
theorem de_int {i j} : DE X cm W (.Constant (.int i) j pos) (mC (.int i)) := de_c pe_int fun _ _ => .int i
theorem de_bl {b j} : DE X cm W (.Constant (.bool b) j pos) (mC (.bool b)) := de_c pe_bl fun _ _ => .bl b
theorem de_non {j} : DE X cm W (.Constant .none j pos) (mC .none) := de_c pe_non fun _ _ => .non
theorem de_str {x j} : DE X cm W (.Constant (.str x) j pos) (mC (.str x)) := de_c pe_str fun _ _ => .str x
theorem de_gstr {x : Str} {y : Str} {u : Value} (hg : Gl X x) (hm : X.mg x = some u) (r : RelV (.str y) u) (hd : (x == ("__debug__" : Str)) = false := by decide) : DE X cm W (.Name x pos) (mC (.str y)) := de_c (pe_glob hg hm r hd) fun _ _ => .str y
theorem de_gint {x : Str} {i : Int} {u : Value} (hg : Gl X x) (hm : X.mg x = some u) (r : RelV (.int i) u) (hd : (x == ("__debug__" : Str)) = false := by decide) : DE X cm W (.Name x pos) (mC (.int i)) := de_c (pe_glob hg hm r hd) fun _ _ => .int i
end

/-! ### two-place operations -/
def OD (X : Cx) (cm : Str → Addr) (f : Value → Value → Sem Value) (g : MV → MV → M MV) : Prop :=
  ∃ r, OpR X f r ∧ ∀ W θ st σ H x y v u Q, HR cm X.K θ st H → RM X.K θ st H x v → RM X.K θ st H y u → Out (RM X.K) cm X.K W θ st σ H Q (g v u st) → r x y H Q
def m2 (g : MV → MV → M MV) (fa fb : Env → M MV) : Env → M MV := fun ρ => bnd (fa ρ) fun x => bnd (fb ρ) fun y => g x y
section
variable {X : Cx} {cm : Str → Addr} {W : WX} {pos : Pos} {a b c e : Expr} {fa fb fc : Env → M MV} {g g' : MV → MV → M MV}
theorem two {ta tb : TE} {r : R2} (qa : ∀ θ st σ ρ H Q, HR cm X.K θ st H → ER X.K θ st H σ ρ → Out (RM X.K) cm X.K W θ st σ H Q (fa ρ st) → ta σ H Q)
    (qb : ∀ θ st σ ρ H Q, HR cm X.K θ st H → ER X.K θ st H σ ρ → Out (RM X.K) cm X.K W θ st σ H Q (fb ρ st) → tb σ H Q)
    (hr : ∀ W θ st σ H x y v u Q, HR cm X.K θ st H → RM X.K θ st H x v → RM X.K θ st H y u → Out (RM X.K) cm X.K W θ st σ H Q (g v u st) → r x y H Q) :
    ∀ θ st σ ρ H Q, HR cm X.K θ st H → ER X.K θ st H σ ρ → Out (RM X.K) cm X.K W θ st σ H Q (m2 g fa fb ρ st) → tOp r ta tb σ H Q := fun θ st σ ρ H Q h er o =>
  qa θ st σ ρ H _ h er (o.bind fun v st1 θ1 H1 x g1 h1 r1 o1 => qb θ1 st1 σ ρ H1 _ h1 (er.mono g1) (o1.bind fun u st2 θ2 H2 y g2 h2 r2 o2 => hr W θ2 st2 σ H2 x y v u Q h2 (r1.mono g2) r2 o2))
theorem de_op {op : Operator} (ho : OD X cm (binaryOp op) g) (ha : DE X cm W a fa) (hb : DE X cm W b fb) : DE X cm W (.BinOp a op b pos) (m2 g fa fb) := by
  obtain ⟨ta, pa, qa⟩ := ha
  obtain ⟨tb, pb, qb⟩ := hb
  obtain ⟨r, ho, hr⟩ := ho
  exact ⟨_, pe_op ho pa pb, two qa qb hr⟩
theorem de_cmp {op : CmpOp} (ho : OD X cm (compareOp op) g) (ha : DE X cm W a fa) (hb : DE X cm W b fb) (hm : behindInMarks op b = false) : DE X cm W (.Compare a [op] [b] pos) (m2 g fa fb) := by
  obtain ⟨ta, pa, qa⟩ := ha
  obtain ⟨tb, pb, qb⟩ := hb
  obtain ⟨r, ho, hr⟩ := ho
  exact ⟨_, pe_cmpR ho pa pb hm, two qa qb hr⟩
/-- a truth value as a test -/
def tst (m : M MV) : M Bool := bnd m fun v st => match asBool v with | some b => .ok b st | none => .bad
theorem tst_out {K : PySem.W.Frag} {θ : Th} {st : Sto} {σ : L2.St} {H : Hp} {Q : Bool → Hp → Prop} {m : M MV} (o : Out (RB K) cm K W θ st σ H Q (tst m st)) :
    Out (RM K) cm K W θ st σ H (fun x H1 => ∃ k, x = .bl k ∧ Q k H1) (m st) := by
  refine o.bind fun v st1 θ1 H1 x g1 h1 r1 o1 => ?_
  cases e : asBool v with
  | none => simp only [e] at o1; exact False.elim o1
  | some k => simp only [e] at o1; exact ⟨k, bool_of r1 e, o1.val h1 rfl⟩
theorem dt_cmp {op : CmpOp} (ho : OD X cm (compareOp op) g) (ha : DE X cm W a fa) (hb : DE X cm W b fb) (hm : behindInMarks op b = false) : DT X cm W (.Compare a [op] [b] pos) (fun ρ => tst (m2 g fa fb ρ)) := by
  obtain ⟨ta, pa, qa⟩ := ha
  obtain ⟨tb, pb, qb⟩ := hb
  obtain ⟨r, ho, hr⟩ := ho
  exact ⟨_, pt_cmpR ho pa pb hm, fun θ st σ ρ H Q h er o => two qa qb hr θ st σ ρ H _ h er (tst_out o)⟩
/-- an expression that gives a truth value, as a test -/
theorem dt_val (ha : DE X cm W a fa) (he : ∀ whole, isTrue a X.env whole = (do let v ← whole; standAt a.pos; holding [v] (truthy v)) := by intro _; rfl) : DT X cm W a (fun ρ => tst (fa ρ)) := by
  obtain ⟨ta, pa, qa⟩ := ha
  exact ⟨_, pt_val pa he, fun θ st σ ρ H Q h er o => qa θ st σ ρ H _ h er (tst_out o)⟩
/-- a op b op' c -/
def mChain (g g' : MV → MV → M MV) (fa fb fc : Env → M MV) : Env → M MV := fun ρ => bnd (fa ρ) fun x => bnd (fb ρ) fun y => bnd (tst (g x y)) fun k => if k = true then bnd (fc ρ) fun z => g' y z else ret (.d (.bool false))
theorem chain_out {ta tb tc : TE} {r r' : R2} (qa : ∀ θ st σ ρ H Q, HR cm X.K θ st H → ER X.K θ st H σ ρ → Out (RM X.K) cm X.K W θ st σ H Q (fa ρ st) → ta σ H Q)
    (qb : ∀ θ st σ ρ H Q, HR cm X.K θ st H → ER X.K θ st H σ ρ → Out (RM X.K) cm X.K W θ st σ H Q (fb ρ st) → tb σ H Q)
    (qc : ∀ θ st σ ρ H Q, HR cm X.K θ st H → ER X.K θ st H σ ρ → Out (RM X.K) cm X.K W θ st σ H Q (fc ρ st) → tc σ H Q)
    (hr : ∀ W θ st σ H x y v u Q, HR cm X.K θ st H → RM X.K θ st H x v → RM X.K θ st H y u → Out (RM X.K) cm X.K W θ st σ H Q (g v u st) → r x y H Q)
    (hr' : ∀ W θ st σ H x y v u Q, HR cm X.K θ st H → RM X.K θ st H x v → RM X.K θ st H y u → Out (RM X.K) cm X.K W θ st σ H Q (g' v u st) → r' x y H Q) :
    ∀ θ st σ ρ H Q, HR cm X.K θ st H → ER X.K θ st H σ ρ → Out (RM X.K) cm X.K W θ st σ H Q (mChain g g' fa fb fc ρ st) → tChain r r' ta tb tc σ H Q := by
  intro θ st σ ρ H Q h er o
  refine qa θ st σ ρ H _ h er (o.bind fun v st1 θ1 H1 x g1 h1 r1 o1 => ?_)
  refine qb θ1 st1 σ ρ H1 _ h1 (er.mono g1) (o1.bind fun u st2 θ2 H2 y g2 h2 r2 o2 => ?_)
  refine hr W θ2 st2 σ H2 x y v u _ h2 (r1.mono g2) r2 (tst_out (o2.bind fun k st3 θ3 H3 k' g3 h3 r3 o3 => ?_))
  have r3 : k' = k := r3
  subst r3
  cases k' with
  | true =>
    rw [if_pos rfl] at o3 ⊢
    exact qc θ3 st3 σ ρ H3 _ h3 ((er.mono g1).mono (g2.trans g3)) (o3.bind fun z st4 θ4 H4 zz g4 h4 r4 o4 => hr' W θ4 st4 σ H4 y zz u z Q h4 (r2.mono (g3.trans g4)) r4 o4)
  | false =>
    rw [if_neg Bool.false_ne_true] at o3 ⊢
    exact o3.val h3 (.bl false)
theorem de_chain {op op' : CmpOp} (ho : OD X cm (compareOp op) g) (ho' : OD X cm (compareOp op') g') (ha : DE X cm W a fa) (hb : DE X cm W b fb) (hc : DE X cm W c fc) (hm : lastMarks [op, op'] [b, c] = false := by with_unfolding_all rfl) :
    DE X cm W (.Compare a [op, op'] [b, c] pos) (mChain g g' fa fb fc) := by
  obtain ⟨ta, pa, qa⟩ := ha
  obtain ⟨tb, pb, qb⟩ := hb
  obtain ⟨tc, pc, qc⟩ := hc
  obtain ⟨r, ho, hr⟩ := ho
  obtain ⟨r', ho', hr'⟩ := ho'
  exact ⟨_, pe_chain ho ho' pa pb pc hm, chain_out qa qb qc hr hr'⟩
theorem dt_chain {op op' : CmpOp} (ho : OD X cm (compareOp op) g) (ho' : OD X cm (compareOp op') g') (ha : DE X cm W a fa) (hb : DE X cm W b fb) (hc : DE X cm W c fc) (hm : lastMarks [op, op'] [b, c] = false := by with_unfolding_all rfl) :
    DT X cm W (.Compare a [op, op'] [b, c] pos) (fun ρ => tst (mChain g g' fa fb fc ρ)) := by
  obtain ⟨ta, pa, qa⟩ := ha
  obtain ⟨tb, pb, qb⟩ := hb
  obtain ⟨tc, pc, qc⟩ := hc
  obtain ⟨r, ho, hr⟩ := ho
  obtain ⟨r', ho', hr'⟩ := ho'
  exact ⟨_, pt_chain ho ho' pa pb pc hm, fun θ st σ ρ H Q h er o => chain_out qa qb qc hr hr' θ st σ ρ H _ h er (tst_out o)⟩
end
end Dm

set_option Elab.async false
set_option linter.all false
set_option maxRecDepth 100000
/-! The machine: and, or, not, if; displays; operators; subscripts, slices; built-in functions and methods. -/
namespace Dm
open PySem PySem.Spec PyProof.Rows L2

/-! ### and, or, not, if -/
def mAnd (fa fb : Env → M Bool) : Env → M Bool := fun ρ => bnd (fa ρ) fun k => if k = true then fb ρ else ret false
def mOr (fa fb : Env → M Bool) : Env → M Bool := fun ρ => bnd (fa ρ) fun k => if k = true then ret true else fb ρ
def mNot (fa : Env → M Bool) : Env → M Bool := fun ρ => bnd (fa ρ) fun k => ret (!k)
def mAndV (fa fb : Env → M MV) : Env → M MV := fun ρ => bnd (tst (fa ρ)) fun k => if k = true then fb ρ else ret (.d (.bool false))
def mOrV (fa fb : Env → M MV) : Env → M MV := fun ρ => bnd (tst (fa ρ)) fun k => if k = true then ret (.d (.bool true)) else fb ρ
def mNotV (fa : Env → M MV) : Env → M MV := fun ρ => bnd (tst (fa ρ)) fun k => ret (.d (.bool !k))
def mIf (fc : Env → M Bool) (fa fb : Env → M MV) : Env → M MV := fun ρ => bnd (fc ρ) fun k => if k = true then fa ρ else fb ρ
section
variable {X : Cx} {cm : Str → Addr} {W : WX} {pos : Pos} {a b c e : Expr} {es : List Expr} {fa fb : Env → M MV} {ga gb : Env → M Bool} {gs : Env → M (List MV)}
theorem dw_pt (h : DW X cm W a ga) : DT X cm W a ga := let ⟨t, p, q⟩ := h; ⟨t, p.pt, q⟩
theorem dw_and1 (h : DT X cm W a ga) : DW X cm W (.BoolOp .And [a] pos) ga := let ⟨t, p, q⟩ := h; ⟨t, pw_and1 p, q⟩
theorem dw_or1 (h : DT X cm W a ga) : DW X cm W (.BoolOp .Or [a] pos) ga := let ⟨t, p, q⟩ := h; ⟨t, pw_or1 p, q⟩
theorem dw_and (ha : DT X cm W a ga) (hb : DW X cm W (.BoolOp .And (b :: es) pos) gb) : DW X cm W (.BoolOp .And (a :: b :: es) pos) (mAnd ga gb) := by
  obtain ⟨ta, pa, qa⟩ := ha
  obtain ⟨tb, pb, qb⟩ := hb
  refine ⟨_, pw_and pa pb, fun θ st σ ρ H Q h er o => ?_⟩
  refine qa θ st σ ρ H _ h er (o.bind fun v st1 θ1 H1 x g1 h1 r1 o1 => ?_)
  have r1 : x = v := r1
  subst r1
  cases x with
  | true => exact qb θ1 st1 σ ρ H1 _ h1 (er.mono g1) o1
  | false => exact o1.val h1 rfl
theorem dw_or (ha : DT X cm W a ga) (hb : DW X cm W (.BoolOp .Or (b :: es) pos) gb) : DW X cm W (.BoolOp .Or (a :: b :: es) pos) (mOr ga gb) := by
  obtain ⟨ta, pa, qa⟩ := ha
  obtain ⟨tb, pb, qb⟩ := hb
  refine ⟨_, pw_or pa pb, fun θ st σ ρ H Q h er o => ?_⟩
  refine qa θ st σ ρ H _ h er (o.bind fun v st1 θ1 H1 x g1 h1 r1 o1 => ?_)
  have r1 : x = v := r1
  subst r1
  cases x with
  | false => exact qb θ1 st1 σ ρ H1 _ h1 (er.mono g1) o1
  | true => exact o1.val h1 rfl
theorem dt_not (ha : DT X cm W a ga) : DT X cm W (.UnaryOp .Not a pos) (mNot ga) := by
  obtain ⟨ta, pa, qa⟩ := ha
  refine ⟨_, pt_not pa, fun θ st σ ρ H Q h er o => ?_⟩
  refine qa θ st σ ρ H _ h er (o.bind fun v st1 θ1 H1 x g1 h1 r1 o1 => ?_)
  have r1 : x = v := r1
  subst r1
  exact o1.val h1 rfl
theorem de_one {op} (h : DE X cm W a fa) : DE X cm W (.BoolOp op [a] pos) fa := let ⟨t, p, q⟩ := h; ⟨t, pe_one p, q⟩
theorem de_and (ha : DE X cm W a fa) (hb : DE X cm W (.BoolOp .And (b :: es) pos) fb) : DE X cm W (.BoolOp .And (a :: b :: es) pos) (mAndV fa fb) := by
  obtain ⟨ta, pa, qa⟩ := ha
  obtain ⟨tb, pb, qb⟩ := hb
  refine ⟨_, pe_and pa pb, fun θ st σ ρ H Q h er o => ?_⟩
  refine qa θ st σ ρ H _ h er (tst_out (o.bind fun v st1 θ1 H1 x g1 h1 r1 o1 => ?_))
  have r1 : x = v := r1
  subst r1
  cases x with
  | true => rw [if_pos rfl] at o1 ⊢; exact qb θ1 st1 σ ρ H1 _ h1 (er.mono g1) o1
  | false => rw [if_neg Bool.false_ne_true] at o1 ⊢; exact o1.val h1 (.bl false)
theorem de_or (ha : DE X cm W a fa) (hb : DE X cm W (.BoolOp .Or (b :: es) pos) fb) : DE X cm W (.BoolOp .Or (a :: b :: es) pos) (mOrV fa fb) := by
  obtain ⟨ta, pa, qa⟩ := ha
  obtain ⟨tb, pb, qb⟩ := hb
  refine ⟨_, pe_or pa pb, fun θ st σ ρ H Q h er o => ?_⟩
  refine qa θ st σ ρ H _ h er (tst_out (o.bind fun v st1 θ1 H1 x g1 h1 r1 o1 => ?_))
  have r1 : x = v := r1
  subst r1
  cases x with
  | false => rw [if_neg Bool.false_ne_true] at o1 ⊢; exact qb θ1 st1 σ ρ H1 _ h1 (er.mono g1) o1
  | true => rw [if_pos rfl] at o1 ⊢; exact o1.val h1 (.bl true)
theorem de_not (ha : DE X cm W a fa) : DE X cm W (.UnaryOp .Not a pos) (mNotV fa) := by
  obtain ⟨ta, pa, qa⟩ := ha
  refine ⟨_, pe_not pa, fun θ st σ ρ H Q h er o => ?_⟩
  refine qa θ st σ ρ H _ h er (tst_out (o.bind fun v st1 θ1 H1 x g1 h1 r1 o1 => ?_))
  have r1 : x = v := r1
  subst r1
  exact o1.val h1 (.bl _)
theorem de_if (hc : DT X cm W c ga) (ha : DE X cm W a fa) (hb : DE X cm W b fb) : DE X cm W (.IfExp c a b pos) (mIf ga fa fb) := by
  obtain ⟨tc, pc, qc⟩ := hc
  obtain ⟨ta, pa, qa⟩ := ha
  obtain ⟨tb, pb, qb⟩ := hb
  refine ⟨_, pe_ifExp pc pa pb, fun θ st σ ρ H Q h er o => ?_⟩
  refine qc θ st σ ρ H _ h er (o.bind fun v st1 θ1 H1 x g1 h1 r1 o1 => ?_)
  have r1 : x = v := r1
  subst r1
  cases x with
  | true => exact qa θ1 st1 σ ρ H1 _ h1 (er.mono g1) o1
  | false => exact qb θ1 st1 σ ρ H1 _ h1 (er.mono g1) o1

/-! ### argument lists, displays -/
def mNil : Env → M (List MV) := fun _ => ret []
def mCons (fa : Env → M MV) (gs : Env → M (List MV)) : Env → M (List MV) := fun ρ => bnd (fa ρ) fun x => bnd (gs ρ) fun xs => ret (x :: xs)
theorem da_nil : DA X cm W [] mNil := ⟨_, pa_nil, fun θ st σ ρ H Q h er o => o.val h .nil⟩
theorem da_cons (ha : DE X cm W e fa) (hr : DA X cm W es gs) (hs : starEach (e :: es) X.env = (false, eval e X.env) :: starEach es X.env := by rfl) : DA X cm W (e :: es) (mCons fa gs) := by
  obtain ⟨ta, pa, qa⟩ := ha
  obtain ⟨tr, pr, qr⟩ := hr
  refine ⟨_, pa_cons pa pr hs, fun θ st σ ρ H Q h er o => ?_⟩
  refine qa θ st σ ρ H _ h er (o.bind fun v st1 θ1 H1 x g1 h1 r1 o1 => ?_)
  exact qr θ1 st1 σ ρ H1 _ h1 (er.mono g1) (o1.bind fun vs st2 θ2 H2 xs g2 h2 r2 o2 => o2.val h2 (.cons (r1.mono g2) r2))
def mMk (k : List MV → M MV) (gs : Env → M (List MV)) : Env → M MV := fun ρ => bnd (gs ρ) k
theorem de_lst (h : DA X cm W es gs) : DE X cm W (.List es pos) (mMk mkL gs) := by
  obtain ⟨t, p, q⟩ := h
  exact ⟨_, pe_lst p, fun θ st σ ρ H Q h er o => q θ st σ ρ H _ h er (o.bind fun vs st1 θ1 H1 xs g1 h1 r1 o1 => mkL_out h1 r1 o1)⟩
theorem de_lstC (h : DA X cm W es gs) : DE X cm W (.List es pos) (mMk mkLc gs) := by
  obtain ⟨t, p, q⟩ := h
  exact ⟨_, pe_lst p, fun θ st σ ρ H Q h er o => q θ st σ ρ H _ h er (o.bind fun vs st1 θ1 H1 xs g1 h1 r1 o1 => mkLc_out h1 r1 o1)⟩
theorem de_tup {x1} (h : DA X cm W es gs) : DE X cm W (.Tuple es x1 pos) (mMk mkT gs) := by
  obtain ⟨t, p, q⟩ := h
  exact ⟨_, pe_tup p, fun θ st σ ρ H Q h er o => q θ st σ ρ H _ h er (o.bind fun vs st1 θ1 H1 xs g1 h1 r1 o1 => mkT_out h1 r1 o1)⟩
end

/-! ### a value that a rule by values gives out: the heap as it was -/
section
variable {X : Cx} {cm : Str → Addr}
/-! ### operators -/
def mAdd (x y : MV) : M MV := fun st => match asInt x, asInt y with
  | some i, some j => .ok (.d (.int (i + j))) st
  | _, _ => match asStr x, asStr y with
    | some a, some b => if a.length + b.length ≤ sizeLine then .ok (.d (.str (a ++ b))) st else .bad
    | _, _ => match listOf st x, listOf st y with
      | some xs, some ys => mkL (xs ++ ys) st
      | _, _ => .bad
theorem od_add : OD X cm (binaryOp .Add) mAdd := by
  refine ⟨_, op_add.or (op_add_str.or op_cat), fun W θ st σ H x y v u Q h rx ry o => ?_⟩
  unfold mAdd at o
  split at o
  · rename_i i j e1 e2
    exact .inl ⟨i, j, int_of rx e1, int_of ry e2, o.val h (.int _)⟩
  · split at o
    · rename_i a b e1 e2
      split at o
      · rename_i hz
        exact .inr (.inl ⟨a, b, str_of rx e1, str_of ry e2, hz, o.val h (.str _)⟩)
      · exact False.elim o
    · split at o
      · rename_i xs ys e1 e2
        obtain ⟨p, ps, ep, hp, rp⟩ := list_of h rx e1
        obtain ⟨q, qs, eq, hq, rq⟩ := list_of h ry e2
        obtain ⟨z, n⟩ := mkL_out h (rp.app rq) o
        exact .inr (.inr ⟨p, q, ps, qs, ep, eq, hp, hq, by rw [← List.length_append]; exact z, n⟩)
      · exact False.elim o
/-- two ints, under a condition -/
def mI2 (C : Int → Int → Bool) (g : Int → Int → Int) (x y : MV) : M MV := fun st => match asInt x, asInt y with
  | some i, some j => if C i j = true then .ok (.d (.int (g i j))) st else .bad
  | _, _ => .bad
theorem od_i2 {f : Value → Value → Sem Value} {C : Int → Int → Bool} {D : Int → Int → Prop} {g : Int → Int → Int} (ho : OpR X f (rI D fun i j => .int (g i j))) (hc : ∀ i j, C i j = true → D i j) : OD X cm f (mI2 C g) := by
  refine ⟨_, ho, fun W θ st σ H x y v u Q h rx ry o => ?_⟩
  unfold mI2 at o
  split at o
  · rename_i i j e1 e2
    split at o
    · rename_i c
      exact ⟨i, j, int_of rx e1, int_of ry e2, hc i j c, o.val h (.int _)⟩
    · exact False.elim o
  · exact False.elim o
theorem op_sub' : OpR X (binaryOp .Sub) (rI (fun _ _ => True) fun i j => .int (i - j)) := by
  intro pins s σ H x y v u Q I rx ry h
  obtain ⟨i, j, e1, e2, _, q⟩ := h
  exact op_sub pins s σ H x y v u Q I rx ry ⟨i, j, e1, e2, q⟩
abbrev mSub := mI2 (fun _ _ => true) (fun i j => i - j)
abbrev mMul := mI2 (fun i j => decide ((-(2 ^ 64) < i ∧ i < 2 ^ 64) ∨ (-(2 ^ 64) < j ∧ j < 2 ^ 64))) (fun i j => i * j)
abbrev mDiv := mI2 (fun _ j => decide (0 < j ∧ j.natAbs.log2 < 9000)) (fun i j => i / j)
abbrev mMod := mI2 (fun _ j => decide (0 < j)) (fun i j => i % j)
abbrev mPow := mI2 (fun i j => decide (0 ≤ j ∧ j ≤ 1000000 ∧ i.natAbs < 2 ^ 64)) (fun i j => i ^ j.toNat)
theorem od_sub : OD X cm (binaryOp .Sub) mSub := od_i2 op_sub' fun _ _ _ => True.intro
theorem od_mul : OD X cm (binaryOp .Mult) mMul := od_i2 op_mul fun _ _ h => by have z := of_decide_eq_true h; exact z
theorem od_div : OD X cm (binaryOp .FloorDiv) mDiv := od_i2 op_fdivW fun _ _ h => by have z := of_decide_eq_true h; exact z
theorem od_mod : OD X cm (binaryOp .Mod) mMod := od_i2 op_mod fun _ _ h => by have z := of_decide_eq_true h; exact z
theorem od_pow : OD X cm (binaryOp .Pow) mPow := od_i2 op_pow fun _ _ h => by have z := of_decide_eq_true h; exact z
/-- comparisons of ints -/
def mC2 (g : Int → Int → Bool) (x y : MV) : M MV := fun st => match asInt x, asInt y with
  | some i, some j => .ok (.d (.bool (g i j))) st
  | _, _ => .bad
theorem od_c2 {f : Value → Value → Sem Value} {g : Int → Int → Bool} (ho : OpR X f (rI0 fun i j => .bl (g i j))) : OD X cm f (mC2 g) := by
  refine ⟨_, ho, fun W θ st σ H x y v u Q h rx ry o => ?_⟩
  unfold mC2 at o
  split at o
  · rename_i i j e1 e2
    exact ⟨i, j, int_of rx e1, int_of ry e2, o.val h (.bl _)⟩
  · exact False.elim o
abbrev mLt := mC2 (fun i j => decide (i < j))
abbrev mLe := mC2 (fun i j => decide (i ≤ j))
abbrev mGt := mC2 (fun i j => decide (j < i))
abbrev mGe := mC2 (fun i j => decide (j ≤ i))
theorem od_lt : OD X cm (compareOp .Lt) mLt := od_c2 op_lt
theorem od_le : OD X cm (compareOp .LtE) mLe := od_c2 op_le
theorem od_gt : OD X cm (compareOp .Gt) mGt := od_c2 op_gt
theorem od_ge : OD X cm (compareOp .GtE) mGe := od_c2 op_ge
/-- equality of data -/
def mEqB (n : Bool) (x y : MV) : M MV := fun st => match dataOf 8 st x, dataOf 8 st y with
  | some d, some e => if (SeqAt.shaped d && SeqAt.shaped e) = true then .ok (.d (.bool (if n then !PyData.eqv d e else PyData.eqv d e))) st else .bad
  | _, _ => .bad
abbrev mEq := mEqB false
abbrev mNe := mEqB true
theorem od_eq (hu : X.A.units + 64 < cLine) : OD X cm (compareOp .Eq) mEq := by
  refine ⟨_, op_eqD hu, fun W θ st σ H x y v u Q h rx ry o => ?_⟩
  unfold mEq mEqB at o
  split at o
  · rename_i d e e1 e2
    split at o
    · rename_i c
      obtain ⟨c1, c2⟩ := Bool.and_eq_true_iff.mp c
      exact ⟨d, e, data_of h 8 rx e1, data_of h 8 ry e2, c1, c2, o.val h (.bl _)⟩
    · exact False.elim o
  · exact False.elim o
theorem od_ne (hu : X.A.units + 64 < cLine) : OD X cm (compareOp .NotEq) mNe := by
  refine ⟨_, op_neD hu, fun W θ st σ H x y v u Q h rx ry o => ?_⟩
  unfold mNe mEqB at o
  split at o
  · rename_i d e e1 e2
    split at o
    · rename_i c
      obtain ⟨c1, c2⟩ := Bool.and_eq_true_iff.mp c
      exact ⟨d, e, data_of h 8 rx e1, data_of h 8 ry e2, c1, c2, o.val h (.bl _)⟩
    · exact False.elim o
  · exact False.elim o
/-- is None -/
def isNon : MV → Bool
  | .d .none => true
  | _ => false
def mIsB (n : Bool) (x y : MV) : M MV := fun st => if isNon y = true then .ok (.d (.bool (if n then !isNon x else isNon x))) st else .bad
abbrev mIs := mIsB false
abbrev mIsNot := mIsB true
theorem non_of {K : PySem.W.Frag} {θ : Th} {st : Sto} {H : Hp} {x : V} {v : MV} (r : RM K θ st H x v) : decide (x = .non) = isNon v := by
  cases v with
  | d p => cases r <;> rfl
  | c i => obtain ⟨_, rfl⟩ := r; rfl
  | scr ns => obtain ⟨a, rfl, _⟩ := r; rfl
theorem od_is : OD X cm (compareOp .Is) mIs := by
  refine ⟨_, op_isN, fun W θ st σ H x y v u Q h rx ry o => ?_⟩
  unfold mIs mIsB at o
  split at o
  · rename_i e
    refine ⟨of_decide_eq_true ((non_of ry).trans e), ?_⟩
    rw [non_of rx]
    exact o.val h (.bl _)
  · exact False.elim o
theorem od_isnot : OD X cm (compareOp .IsNot) mIsNot := by
  refine ⟨_, op_notN, fun W θ st σ H x y v u Q h rx ry o => ?_⟩
  unfold mIsNot mIsB at o
  split at o
  · rename_i e
    refine ⟨of_decide_eq_true ((non_of ry).trans e), ?_⟩
    rw [non_of rx]
    exact o.val h (.bl _)
  · exact False.elim o
end

/-! ### in -/
def flatD : PyData → Bool
  | .none => true
  | .bool _ => true
  | .int _ => true
  | .str _ => true
  | _ => false
def flatM : MV → Option PyData
  | .d x => if flatD x = true then some x else none
  | _ => none
/-- a dict's value at a key -/
def look (kvs : List (Key × MV)) (k : Key) : Option MV := (kvs.find? fun kv => decide (kv.1 = k)).map (·.2)
section
variable {X : Cx} {cm : Str → Addr} {K : PySem.W.Frag} {θ : Th} {st : Sto} {H : Hp}
theorem flat_of {x : V} {v : MV} {d : PyData} (r : RM K θ st H x v) (e : flatM v = some d) : flatV x = true ∧ flatD d = true ∧ RM K θ st H x (.d d) := by
  cases v with
  | d p =>
    have e : (if flatD p = true then some p else none) = some d := e
    split at e
    · rename_i f
      cases e
      cases r <;> first | exact ⟨rfl, f, by constructor⟩ | exact absurd (show false = true from f) Bool.false_ne_true
    · cases e
  | c i => cases e
  | scr ns => cases e
theorem flat_eq {x y : V} {d e : PyData} (rx : RM K θ st H x (.d d)) (ry : RM K θ st H y (.d e)) (fd : flatD d = true) (fe : flatD e = true) : eqV y x = PyData.eqv e d := by
  cases rx <;> cases ry <;> first | rfl | (simp only [eqV, PyData.eqv]; done) | exact absurd (show false = true from fd) Bool.false_ne_true | exact absurd (show false = true from fe) Bool.false_ne_true
theorem flats_of : ∀ {vs : List V} {ms : List MV} {ds : List PyData} {x : V} {d : PyData}, RMs K θ st H vs ms → ms.mapM flatM = some ds → RM K θ st H x (.d d) → flatD d = true → vs.all flatV = true ∧ inV x vs = ds.any fun e => PyData.eqv e d
  | _, _, ds, x, d, .nil, e, _, _ => by
    simp only [List.mapM_nil] at e
    cases e
    exact ⟨rfl, rfl⟩
  | v :: vs, m :: ms, ds, x, d, .cons h t, e, rx, fd => by
    rw [List.mapM_cons] at e
    cases q : flatM m with
    | none => rw [q] at e; cases e
    | some d1 =>
      cases q' : ms.mapM flatM with
      | none => rw [q, q'] at e; cases e
      | some es =>
        rw [q, q'] at e
        cases e
        obtain ⟨f1, f2, f3⟩ := flat_of h q
        obtain ⟨g1, g2⟩ := flats_of t q' rx fd
        refine ⟨by rw [List.all_cons, f1, g1]; rfl, ?_⟩
        unfold inV at g2 ⊢
        rw [List.any_cons, List.any_cons, g2, flat_eq rx f3 fd f2]
theorem look_of : ∀ {ws : List (Key × V)} {kvs : List (Key × MV)} (k : Key), RFs K θ st H ws kvs → (look kvs k = none ∧ valV ws k = none) ∨ ∃ m v, look kvs k = some m ∧ valV ws k = some v ∧ RM K θ st H v m
  | _, _, k, .nil => .inl ⟨rfl, rfl⟩
  | p :: ws, q :: kvs, k, .cons h t => by
    by_cases e : q.1 = k
    · refine .inr ⟨q.2, p.2, ?_, valV_pos (h.1.trans e), h.2⟩
      unfold look
      rw [List.find?_cons, decide_eq_true e]
      rfl
    · have e' : ¬ p.1 = k := fun z => e (h.1.symm.trans z)
      have l : look (q :: kvs) k = look kvs k := by
        unfold look
        rw [List.find?_cons, decide_eq_false e]
      rw [l, valV_neg e']
      exact look_of k t
/-- x in y -/
def mInB (n : Bool) (x y : MV) : M MV := fun st => match dicOf st y with
  | some kvs => (match asKey x with
    | some k => .ok (.d (.bool (if n then !(look kvs k).isSome else (look kvs k).isSome))) st
    | none => .bad)
  | none => match asStr y with
    | some z => (match asStr x with
      | some a => (match a.cps.toList with
        | [c] => .ok (.d (.bool (if n then !decide (c ∈ z.cps.toList) else decide (c ∈ z.cps.toList)))) st
        | _ => .bad)
      | none => .bad)
    | none => match (listOf st y).orElse fun _ => tupOf st y with
      | some ys => (match flatM x, ys.mapM flatM with
        | some d, some ds => .ok (.d (.bool (if n then !ds.any (fun e => PyData.eqv e d) else ds.any fun e => PyData.eqv e d))) st
        | _, _ => .bad)
      | none => .bad
abbrev mIn := mInB false
abbrev mNotIn := mInB true
theorem op_in_d (hu : X.A.units + 1 < cLine) : OpR X (compareOp .In) (fun x y H Q => ∃ a o, y = .ref a ∧ DGet H a x o ∧ Q (.bl o.isSome) H) := by
  intro pins s σ H x y v u Q I rx ry h
  obtain ⟨a, o, rfl, g, q⟩ := h
  cases ry
  exact d_in hu I g rx fun s' I' => ⟨.bl o.isSome, H, I', rfl, q⟩
theorem op_notin_d (hu : X.A.units + 1 < cLine) : OpR X (compareOp .NotIn) (fun x y H Q => ∃ a o, y = .ref a ∧ DGet H a x o ∧ Q (.bl (!o.isSome)) H) := by
  intro pins s σ H x y v u Q I rx ry h
  obtain ⟨a, o, rfl, g, q⟩ := h
  cases ry
  exact d_notIn hu I g rx fun s' I' => ⟨.bl (!o.isSome), H, I', rfl, q⟩
theorem one_sign {a : Str} {c : Nat} (e : a.cps.toList = [c]) : a = ⟨#[c]⟩ := by
  obtain ⟨q⟩ := a
  have : q = #[c] := by
    have := congrArg List.toArray e
    simpa using this
  rw [this]
theorem in_out {n : Bool} {f : Value → Value → Sem Value} {rd rs rl : R2} (ho : OpR X f (fun x y H Q => rd x y H Q ∨ rs x y H Q ∨ rl x y H Q))
    (hd : ∀ x H Q a o, DGet H a x o → Q (.bl (if n then !o.isSome else o.isSome)) H → rd x (.ref a) H Q)
    (hs : ∀ (c : Nat) (z : Str) H Q, Q (.bl (if n then !decide (c ∈ z.cps.toList) else decide (c ∈ z.cps.toList))) H → rs (.str ⟨#[c]⟩) (.str z) H Q)
    (hl : ∀ x H Q p xs, (SqL X.K H p xs ∨ SqT X.K H p xs) → flatV x = true → xs.all flatV = true → Q (.bl (if n then !inV x xs else inV x xs)) H → rl x (.ref p) H Q) : OD X cm f (mInB n) := by
  refine ⟨_, ho, fun W θ st σ H x y v u Q h rx ry o => ?_⟩
  unfold mInB at o
  split at o
  · rename_i kvs e
    obtain ⟨i, a, ws, rfl, hi, ha, rfl, hH, rf⟩ := dic_of h ry e
    split at o
    · rename_i k ek
      rw [key_of rx ek]
      rcases look_of k rf with ⟨l1, l2⟩ | ⟨m, w, l1, l2, rm⟩
      · refine .inl (hd _ _ _ _ none (by rw [← l2]; exact DGet.k hH) ?_)
        rw [l1] at o
        exact o.val h (.bl _)
      · refine .inl (hd _ _ _ _ (some w) (by rw [← l2]; exact DGet.k hH) ?_)
        rw [l1] at o
        exact o.val h (.bl _)
    · exact False.elim o
  · split at o
    · rename_i z ez
      split at o
      · rename_i a ea
        split at o
        · rename_i c ec
          rw [str_of rx ea, str_of ry ez, one_sign ec]
          exact .inr (.inl (hs c z H Q (o.val h (.bl _))))
        · exact False.elim o
      · exact False.elim o
    · split at o
      · rename_i ys eys
        split at o
        · rename_i d ds e1 e2
          obtain ⟨f1, f2, f3⟩ := flat_of rx e1
          have key : ∃ p xs, y = .ref p ∧ (SqL X.K H p xs ∨ SqT X.K H p xs) ∧ RMs X.K θ st H xs ys := by
            cases q : listOf st u with
            | some zs =>
              rw [q] at eys
              cases eys
              obtain ⟨p, ps, ep, hp, rp⟩ := list_of h ry q
              exact ⟨p, ps, ep, .inl (.of hp), rp⟩
            | none =>
              rw [q] at eys
              obtain ⟨p, ps, ep, hp, rp⟩ := tup_of h ry (show tupOf st u = some ys from eys)
              exact ⟨p, ps, ep, .inr (.of hp), rp⟩
          obtain ⟨p, xs, rfl, hp, rp⟩ := key
          obtain ⟨g1, g2⟩ := flats_of rp e2 f3 f2
          refine .inr (.inr (hl x H Q p xs hp f1 g1 ?_))
          rw [g2]
          exact o.val h (.bl _)
        · exact False.elim o
      · exact False.elim o
theorem od_in (hu : X.A.units + 1 < cLine) : OD X cm (compareOp .In) mIn :=
  in_out (n := false) ((op_in_d hu).or (op_in_sign.or op_in_seq)) (fun x H Q a o g q => ⟨a, o, rfl, g, q⟩) (fun c z H Q q => ⟨c, z, rfl, rfl, q⟩) (fun x H Q p xs hp f g q => ⟨p, xs, rfl, hp, f, g, q⟩)
theorem od_notin (hu : X.A.units + 1 < cLine) : OD X cm (compareOp .NotIn) mNotIn :=
  in_out (n := true) ((op_notin_d hu).or (op_notIn_sign.or op_notIn_seq)) (fun x H Q a o g q => ⟨a, o, rfl, g, q⟩) (fun c z H Q q => ⟨c, z, rfl, rfl, q⟩) (fun x H Q p xs hp f g q => ⟨p, xs, rfl, hp, f, g, q⟩)
end
end Dm

set_option Elab.async false
set_option linter.all false
set_option maxRecDepth 100000
/-! The machine: subscripts, slices, dict displays; built-in functions and methods by values. -/
namespace Dm
open PySem PySem.Spec PyProof.Rows L2

/-! ### a[i] -/
def seqOf (st : Sto) (v : MV) : Option (List MV) := (listOf st v).orElse fun _ => tupOf st v
theorem seq_of {cm : Str → Addr} {K : PySem.W.Frag} {θ : Th} {st : Sto} {H : Hp} {x : V} {v : MV} {xs : List MV} (h : HR cm K θ st H) (r : RM K θ st H x v) (e : seqOf st v = some xs) :
    ∃ p ys, x = .ref p ∧ (H p = some (.lst ys) ∨ H p = some (.tup ys)) ∧ RMs K θ st H ys xs := by
  unfold seqOf at e
  cases q : listOf st v with
  | some zs =>
    rw [q] at e
    cases e
    obtain ⟨p, ps, ep, hp, rp⟩ := list_of h r q
    exact ⟨p, ps, ep, .inl hp, rp⟩
  | none =>
    rw [q] at e
    obtain ⟨p, ps, ep, hp, rp⟩ := tup_of h r (show tupOf st v = some xs from e)
    exact ⟨p, ps, ep, .inr hp, rp⟩
theorem atI_rel {K : PySem.W.Frag} {θ : Th} {st : Sto} {H : Hp} {ys : List V} {xs : List MV} {i : Int} {m : MV} (r : RMs K θ st H ys xs) (e : atI xs i = some m) : ∃ v, atI ys i = some v ∧ RM K θ st H v m := by
  unfold atI at e ⊢
  rw [r.len]
  cases q : ixN xs.length i with
  | none => rw [q] at e; cases e
  | some j =>
    rw [q] at e
    exact r.get e
def mIx (x y : MV) : M MV := fun st => match dicOf st x with
  | some kvs => (match asKey y with
    | some k => (match look kvs k with | some m => .ok m st | none => .bad)
    | none => .bad)
  | none => match asInt y with
    | none => .bad
    | some i => match asStr x with
      | some z => if z.length ≤ sizeLine then (match atI z.cps.toList i with | some c => .ok (.d (.str ⟨#[c]⟩)) st | none => .bad) else .bad
      | none => match seqOf st x with
        | some xs => (match atI xs i with | some m => .ok m st | none => .bad)
        | none => .bad
section
variable {X : Cx} {cm : Str → Addr} {W : WX} {pos p2 : Pos} {a b e o : Expr} {es : List Expr} {fa fb fo : Env → M MV} {gs : Env → M (List MV)}
theorem ix_dic (hu : X.A.units + 1 < cLine) : IxR X (fun x y H Q => ∃ a v, x = .ref a ∧ DGet H a y (some v) ∧ Q v H) := by
  intro value slice pins s σ H x y v u Q I rx ry h hs
  obtain ⟨a, w, rfl, g, q⟩ := h
  cases rx
  exact tail_any (dict_typeIs I g) PySem.F.slot_dict_getitem.lookup (d_getItem hu I g ry fun w' s' I' r' => ⟨w, H, I', r', q⟩) hs
theorem de_ix (hu : X.A.units + 1 < cLine) (ha : DE X cm W a fa) (hb : DE X cm W b fb) (hs : PlainIx b := by exact fun _ _ => rfl) : DE X cm W (.Subscript a b pos) (m2 mIx fa fb) := by
  obtain ⟨ta, pa, qa⟩ := ha
  obtain ⟨tb, pb, qb⟩ := hb
  refine ⟨_, pe_ix ((ix_dic hu).or ix_seq) pa pb hs, two qa qb fun W θ st σ H x y v u Q h rx ry o => ?_⟩
  unfold mIx at o
  split at o
  · rename_i kvs ek
    obtain ⟨i, a, ws, rfl, hi, ea, rfl, hH, rf⟩ := dic_of h rx ek
    split at o
    · rename_i k eky
      split at o
      · rename_i m el
        rw [key_of ry eky]
        rcases look_of k rf with ⟨l1, l2⟩ | ⟨m', w, l1, l2, rm⟩
        · rw [l1] at el; cases el
        · rw [l1] at el; cases el
          exact .inl ⟨_, w, rfl, by rw [← l2]; exact DGet.k hH, o.val h rm⟩
      · exact False.elim o
    · exact False.elim o
  · split at o
    · exact False.elim o
    · rename_i i ei
      split at o
      · rename_i z ez
        split at o
        · rename_i hz
          split at o
          · rename_i c ec
            exact .inr (.inr (.inr ⟨z, i, c, str_of rx ez, int_of ry ei, hz, ec, o.val h (.str _)⟩))
          · exact False.elim o
        · exact False.elim o
      · split at o
        · rename_i xs ex
          split at o
          · rename_i m em
            obtain ⟨p, ys, rfl, hp, rp⟩ := seq_of h rx ex
            obtain ⟨w, e1, rw'⟩ := atI_rel rp em
            rcases hp with hp | hp
            · exact .inr (.inl ⟨p, ys, i, w, rfl, int_of ry ei, .of hp, e1, o.val h rw'⟩)
            · exact .inr (.inr (.inl ⟨p, ys, i, w, rfl, int_of ry ei, .of hp, e1, o.val h rw'⟩))
          · exact False.elim o
        · exact False.elim o

/-! ### a[i:j] -/
def cut {α : Type} (xs : List α) (lo hi : Option Int) : List α := (xs.drop (HT.sIx xs.length 0 lo)).take (HT.sIx xs.length xs.length hi - HT.sIx xs.length 0 lo)
abbrev RO : PySem.W.Frag → Th → Sto → Hp → Option Int → Option Int → Prop := fun _ _ _ _ b c => b = c
abbrev DO (X : Cx) (cm : Str → Addr) (W : WX) (e : Option Expr) (f : Env → M (Option Int)) : Prop := DG RO X cm W (PO X e) f
def mPart (fa : Env → M MV) : Env → M (Option Int) := fun ρ => bnd (fa ρ) fun v st => match asInt v with | some i => .ok (some i) st | none => .bad
theorem do_none : DO X cm W none (fun _ => ret none) := ⟨_, po_none, fun θ st σ ρ H Q h er o => o.val h rfl⟩
theorem do_some (ha : DE X cm W e fa) : DO X cm W (some e) (mPart fa) := by
  obtain ⟨ta, pa, qa⟩ := ha
  refine ⟨_, po_some pa, fun θ st σ ρ H Q h er o => qa θ st σ ρ H _ h er (o.bind fun v st1 θ1 H1 x g1 h1 r1 o1 => ?_)⟩
  cases q : asInt v with
  | none => simp only [q] at o1; exact False.elim o1
  | some i => simp only [q] at o1; exact ⟨i, int_of r1 q, o1.val h1 rfl⟩
/-- k: how the new list is made -/
def mCut (k : List MV → M MV) (x : MV) (lo hi : Option Int) : M MV := fun st => match asStr x with
  | some z => if z.length ≤ sizeLine then .ok (.d (.str (cutS z lo hi))) st else .bad
  | none => match x with
    | .scr ns => k (cut (ns.map fun n => MV.d (.int n)) lo hi) st
    | _ => match listOf st x with
      | some xs => k (cut xs lo hi) st
      | none => match tupOf st x with
        | some xs => if HT.sIx xs.length 0 lo = 0 ∧ HT.sIx xs.length xs.length hi = xs.length then .bad else mkT (cut xs lo hi) st
        | none => .bad
def mSlice (k : List MV → M MV) (fa : Env → M MV) (fl fh : Env → M (Option Int)) : Env → M MV := fun ρ => bnd (fa ρ) fun x => bnd (fl ρ) fun l => bnd (fh ρ) fun u => mCut k x l u
theorem ints_rel {K : PySem.W.Frag} {θ : Th} {st : Sto} {H : Hp} : ∀ ns : List Int, RMs K θ st H (ns.map V.int) (ns.map fun n => MV.d (.int n))
  | [] => .nil
  | n :: r => .cons (.int n) (ints_rel r)
theorem cut_rel {K : PySem.W.Frag} {θ : Th} {st : Sto} {H : Hp} {ys : List V} {xs : List MV} (r : RMs K θ st H ys xs) (lo hi : Option Int) : RMs K θ st H (cutV ys lo hi) (cut xs lo hi) := by
  unfold cutV cut
  rw [r.len]
  exact (r.dropN _).takeN _
def LstOk (k : List MV → M MV) : Prop := ∀ {cm : Str → Addr} {K : PySem.W.Frag} {θ : Th} {st : Sto} {H : Hp} {W : WX} {σ : L2.St} {xs : List MV} {ys : List V} {Q : VK}, HR cm K θ st H → RMs K θ st H ys xs → Out (RM K) cm K W θ st σ H Q (k xs st) → ys.length ≤ sizeLine ∧ ∀ p, H p = none → Q (.ref p) (upd H p (.lst ys))
theorem lstOk : LstOk mkL := fun h r o => mkL_out h r o
theorem lstOkC : LstOk mkLc := fun h r o => mkLc_out h r o
theorem de_slice {k : List MV → M MV} {lo hi : Option Expr} {fl fh : Env → M (Option Int)} (hk : LstOk k) (ha : DE X cm W a fa) (hl : DO X cm W lo fl) (hh : DO X cm W hi fh) : DE X cm W (.Subscript a (.Slice lo hi none p2) pos) (mSlice k fa fl fh) := by
  obtain ⟨ta, pa, qa⟩ := ha
  obtain ⟨tl, pl, ql⟩ := hl
  obtain ⟨th, ph, qh⟩ := hh
  refine ⟨_, pe_slice (sl_list.or (sl_tup.or sl_str)) pa pl ph, fun θ st σ ρ H Q h er o => ?_⟩
  refine qa θ st σ ρ H _ h er (o.bind fun v st1 θ1 H1 x g1 h1 r1 o1 => ?_)
  refine ql θ1 st1 σ ρ H1 _ h1 (er.mono g1) (o1.bind fun l st2 θ2 H2 l' g2 h2 r2 o2 => ?_)
  have r2 : l' = l := r2
  subst r2
  refine qh θ2 st2 σ ρ H2 _ h2 ((er.mono g1).mono g2) (o2.bind fun u st3 θ3 H3 u' g3 h3 r3 o3 => ?_)
  have r3 : u' = u := r3
  subst r3
  have rx := r1.mono (g2.trans g3)
  unfold mCut at o3
  split at o3
  · rename_i z ez
    split at o3
    · rename_i hz
      exact .inr (.inr ⟨z, str_of rx ez, hz, o3.val h3 (.str _)⟩)
    · exact False.elim o3
  · split at o3
    · rename_i ns _
      obtain ⟨a, rfl, ha⟩ := rx
      exact .inl ⟨a, _, rfl, scr_sq ha, (hk h3 (cut_rel (ints_rel ns) l' u') o3).2⟩
    · split at o3
      · rename_i xs ex
        obtain ⟨p, ys, rfl, hp, rp⟩ := list_of h3 rx ex
        exact .inl ⟨p, ys, rfl, .of hp, (hk h3 (cut_rel rp l' u') o3).2⟩
      · split at o3
        · rename_i xs ex
          obtain ⟨p, ys, rfl, hp, rp⟩ := tup_of h3 rx ex
          split at o3
          · exact False.elim o3
          · rename_i hw
            exact .inr (.inl ⟨p, ys, rfl, .of hp, by rw [rp.len]; exact hw, (mkT_out h3 (cut_rel rp l' u') o3).2⟩)
        · exact False.elim o3
/-- xs[::-1] -/
def mRev (k : List MV → M MV) (fa : Env → M MV) : Env → M MV := fun ρ => bnd (fa ρ) fun x st => match listOf st x with | some xs => k xs.reverse st | none => .bad
theorem RMs.rev {K : PySem.W.Frag} {θ : Th} {st : Sto} {H : Hp} : ∀ {ys : List V} {xs : List MV}, RMs K θ st H ys xs → RMs K θ st H ys.reverse xs.reverse
  | _, _, .nil => .nil
  | _, _, .cons h t => by
    rw [List.reverse_cons, List.reverse_cons]
    exact (RMs.rev t).app (.cons h .nil)
theorem de_rev {k : List MV → M MV} {j : Nat} {q1 q2 q3 : Pos} (hk : LstOk k) (ha : DE X cm W a fa) : DE X cm W (.Subscript a (.Slice none none (some (.UnaryOp .USub (.Constant (.int 1) j q1) q2)) q3) pos) (mRev k fa) := by
  obtain ⟨ta, pa, qa⟩ := ha
  refine ⟨_, pe_revL pa, fun θ st σ ρ H Q h er o => qa θ st σ ρ H _ h er (o.bind fun v st1 θ1 H1 x g1 h1 r1 o1 => ?_)⟩
  cases q : listOf st1 v with
  | none => simp only [q] at o1; exact False.elim o1
  | some xs =>
    simp only [q] at o1
    obtain ⟨p, ys, rfl, hp, rp⟩ := list_of h1 r1 q
    exact ⟨p, ys, rfl, .of hp, (hk h1 rp.rev o1).2⟩

/-! ### {k: v, ..} -/
def putM (kvs : List (Key × MV)) (k : Key) (v : MV) : List (Key × MV) :=
  if (kvs.any fun kv => decide (kv.1 = k)) = true then kvs.map (fun kv => if kv.1 = k then (kv.1, v) else kv) else kvs ++ [(k, v)]
def dropM (kvs : List (Key × MV)) (k : Key) : List (Key × MV) := kvs.filter fun kv => decide (kv.1 ≠ k)
section
variable {K : PySem.W.Frag} {θ : Th} {st : Sto} {H : Hp}
theorem any_rel {k : Key} : ∀ {ws : List (Key × V)} {kvs : List (Key × MV)}, RFs K θ st H ws kvs → (ws.any fun kv => decide (kv.1 = k)) = kvs.any fun kv => decide (kv.1 = k)
  | _, _, .nil => rfl
  | p :: ws, q :: kvs, .cons h t => by rw [List.any_cons, List.any_cons, any_rel t, h.1]
theorem RFs.app {κ : Type} : ∀ {vs ws : List (κ × V)} {ms ns : List (κ × MV)}, RFs K θ st H vs ms → RFs K θ st H ws ns → RFs K θ st H (vs ++ ws) (ms ++ ns)
  | _, _, _, _, .nil, s => s
  | _, _, _, _, .cons h t, s => .cons h (RFs.app t s)
theorem put_map {k : Key} {x : V} {m : MV} (r : RM K θ st H x m) : ∀ {ws : List (Key × V)} {kvs : List (Key × MV)}, RFs K θ st H ws kvs → RFs K θ st H (ws.map (fun kv => if kv.1 = k then (kv.1, x) else kv)) (kvs.map (fun kv => if kv.1 = k then (kv.1, m) else kv))
  | _, _, .nil => .nil
  | p :: ws, q :: kvs, .cons h t => by
    refine .cons ?_ (put_map r t)
    show RF K θ st H (if p.1 = k then (p.1, x) else p) (if q.1 = k then (q.1, m) else q)
    by_cases e : q.1 = k
    · rw [if_pos e, if_pos (h.1.trans e)]
      exact ⟨h.1, r⟩
    · rw [if_neg e, if_neg fun z => e (h.1.symm.trans z)]
      exact h
theorem put_rel {k : Key} {x : V} {m : MV} (r : RM K θ st H x m) {ws : List (Key × V)} {kvs : List (Key × MV)} (h : RFs K θ st H ws kvs) : RFs K θ st H (putK ws k x) (putM kvs k m) := by
  unfold putK putM
  rw [any_rel h]
  split
  · exact put_map r h
  · exact h.app (.cons ⟨rfl, r⟩ .nil)
theorem drop_rel {k : Key} : ∀ {ws : List (Key × V)} {kvs : List (Key × MV)}, RFs K θ st H ws kvs → RFs K θ st H (dropK ws k) (dropM kvs k)
  | _, _, .nil => .nil
  | p :: ws, q :: kvs, .cons h t => by
    unfold dropK dropM
    rw [List.filter_cons, List.filter_cons, h.1]
    split
    · exact .cons h (drop_rel t)
    · exact drop_rel t
theorem RFs.len {κ : Type} {vs : List (κ × V)} {ms : List (κ × MV)} (r : RFs K θ st H vs ms) : vs.length = ms.length := Paired.length r
end
/-- a new place -/
def mNew (o : MO) : M MV := fun st => .ok (.c st.n) (st.new o)
theorem de_dict0 : DE X cm W (.Dict [] [] pos) (fun _ => mNew (.dic [])) := by
  refine ⟨_, pe_dnewK, fun θ st σ ρ H Q h er o p hp => ?_⟩
  exact o _ _ (.ref p) (gr_cell h hp _ _) (hr_cell h hp ⟨[], rfl, .nil⟩) ⟨Nat.lt_succ_self _, by rw [thn_new]⟩
/-- the pairs of a display, behind the new dict -/
def mPairs : List ((Env → M MV) × (Env → M MV)) → Env → M (List (Key × MV))
  | [], _ => ret []
  | (fk, fv) :: r, ρ => bnd (fk ρ) fun k => bnd (fv ρ) fun v => bnd (mPairs r ρ) fun ps st => match asKey k with | some q => .ok ((q, v) :: ps) st | none => .bad
def mDict (fs : List ((Env → M MV) × (Env → M MV))) : Env → M MV := fun ρ => bnd (mNew (.dic [])) fun d => bnd (mPairs fs ρ) fun ps st => match d with
  | .c i => (match st.o i with | some (.dic []) => if ps.length ≤ 15 then .ok d (st.put i (.dic (ps.foldl (fun acc kv => putM acc kv.1 kv.2) []))) else .bad | _ => .bad)
  | _ => .bad
theorem merge_rel {K : PySem.W.Frag} {θ : Th} {st : Sto} {H : Hp} : ∀ {ws : List (Key × V)} {ps : List (Key × MV)} {w0 : List (Key × V)} {p0 : List (Key × MV)}, RFs K θ st H ws ps → RFs K θ st H w0 p0 → RFs K θ st H (mergeK w0 ws) (ps.foldl (fun acc kv => putM acc kv.1 kv.2) p0)
  | _, _, _, _, .nil, s => s
  | p :: ws, q :: ps, w0, p0, .cons h t, s => by
    have z := put_rel (k := p.1) h.2 s
    show RFs K θ st H (mergeK (putK w0 p.1 p.2) ws) (ps.foldl (fun acc kv => putM acc kv.1 kv.2) (putM p0 q.1 q.2))
    rw [← h.1]
    exact merge_rel t z
/-- the pairs' judgement -/
def DPs (X : Cx) (cm : Str → Addr) (W : WX) (pos : Pos) (ks : List (Option Expr)) (vs : List Expr) (fs : List ((Env → M MV) × (Env → M MV))) : Prop :=
  ∃ trs, PPs X pos ks vs trs ∧ ∀ θ st σ ρ H (R : List (V × V) → Hp → Prop), HR cm X.K θ st H → ER X.K θ st H σ ρ →
    Out (fun θ st H (ws : List (Key × V)) ps => RFs X.K θ st H ws ps) cm X.K W θ st σ H (fun ws H' => R (ws.map fun kv => (kV kv.1, kv.2)) H') (mPairs fs ρ st) → tPairs trs σ H R
theorem dps_nil : DPs X cm W pos [] [] [] := ⟨[], pps_nil, fun θ st σ ρ H R h er o => o.val h (x := []) .nil⟩
theorem dps_cons {k v : Expr} {ks : List (Option Expr)} {vs : List Expr} {fk fv : Env → M MV} {fs : List ((Env → M MV) × (Env → M MV))} (hk : DE X cm W k fk) (hv : DE X cm W v fv) (hr : DPs X cm W pos ks vs fs) : DPs X cm W pos (some k :: ks) (v :: vs) ((fk, fv) :: fs) := by
  obtain ⟨tk, pk, qk⟩ := hk
  obtain ⟨tv, pv, qv⟩ := hv
  obtain ⟨tr, pr, qr⟩ := hr
  refine ⟨_, pps_cons pk pv pr, fun θ st σ ρ H R h er o => ?_⟩
  refine qk θ st σ ρ H _ h er (o.bind fun x st1 θ1 H1 x' g1 h1 r1 o1 => ?_)
  refine qv θ1 st1 σ ρ H1 _ h1 (er.mono g1) (o1.bind fun y st2 θ2 H2 y' g2 h2 r2 o2 => ?_)
  refine qr θ2 st2 σ ρ H2 _ h2 ((er.mono g1).mono g2) (o2.bind fun ps st3 θ3 H3 ws g3 h3 r3 o3 => ?_)
  cases q : asKey x with
  | none => simp only [q] at o3; exact False.elim o3
  | some kk =>
    simp only [q] at o3
    have z := o3.val h3 (x := (kk, y') :: ws) (.cons ⟨rfl, r2.mono g3⟩ r3)
    rw [key_of r1 q]
    exact z
theorem de_dict {ks : List (Option Expr)} {vs : List Expr} {fs : List ((Env → M MV) × (Env → M MV))} (hp : DPs X cm W pos ks vs fs) (hall : ks.all (·.isSome) = true := by rfl) (hl : ks.length = vs.length := by rfl) (h0 : ks ≠ [] := by exact fun z => by cases z) (h15 : ks.length ≤ 15 := by decide) :
    DE X cm W (.Dict ks vs pos) (mDict fs) := by
  obtain ⟨trs, pp, qq⟩ := hp
  refine ⟨_, pe_disp pp hall hl h0 h15, fun θ st σ ρ H Q h er o p hp => ?_⟩
  have g1 := gr_cell h hp (.dK []) (.dic [])
  have h1 : HR cm X.K (thn θ st p) (st.new (.dic [])) (upd H p (.dK [])) := hr_cell h hp ⟨[], rfl, .nil⟩
  have o1 : Out (RM X.K) cm X.K W θ st σ H Q (bnd (mPairs fs ρ) (fun ps st => match (MV.c st.n : MV) with | .c _ => (Res.bad : Res MV) | _ => .bad) (st.new (.dic []))) → True := fun _ => True.intro
  have o2 := Out.up g1 (show Out (RM X.K) cm X.K W θ st σ H Q (bnd (mPairs fs ρ) (fun ps s => match s.o st.n with | some (.dic []) => if ps.length ≤ 15 then .ok (MV.c st.n) (s.put st.n (.dic (ps.foldl (fun acc kv => putM acc kv.1 kv.2) []))) else .bad | _ => .bad) (st.new (.dic []))) from o)
  refine qq _ _ σ ρ _ _ h1 (er.mono g1) (o2.bind fun ps st2 θ2 H2 ws g2 h2 r2 o3 => ?_)
  have hn : st.n < (st.new (.dic [])).n := Nat.lt_succ_self _
  have e2 : θ2 st.n = p := (g2.th _ hn).trans thn_new
  split at o3
  · rename_i eo
    split at o3
    · rename_i hz
      obtain ⟨ho, hH, w0, rfl, r0⟩ := h2.obj _ _ eo
      cases r0
      rw [e2] at hH
      refine ⟨hH, ws, rfl, by rw [r2.len]; exact hz, ?_⟩
      have hi : (st2.o st.n).isSome = true := by rw [eo]; rfl
      have mr := merge_rel r2 (w0 := []) (p0 := []) .nil
      have gp : Gr θ2 st2 H2 θ2 (st2.put st.n (.dic (ps.foldl (fun acc kv => putM acc kv.1 kv.2) []))) (upd H2 (θ2 st.n) (.dK (mergeK [] ws))) := gr_put hi _ _
      have hp2 : HR cm X.K θ2 (st2.put st.n (.dic (ps.foldl (fun acc kv => putM acc kv.1 kv.2) []))) (upd H2 (θ2 st.n) (.dK (mergeK [] ws))) := hr_put h2 hi ⟨_, rfl, mr.mono gp⟩
      have z := o3 θ2 _ (.ref p) gp hp2 ⟨Nat.lt_of_lt_of_le hn g2.n, by rw [e2]⟩
      rw [e2] at z
      exact z
    · exact False.elim o3
  · exact False.elim o3
end
end Dm

set_option Elab.async false
set_option linter.all false
set_option maxRecDepth 100000
/-! The machine: built-in functions, built-in methods, isinstance. -/
namespace Dm
open PySem PySem.Spec PyProof.Rows L2

/-! ### calls of built-ins, by values -/
def CD (X : Cx) (cm : Str → Addr) (f : Value) (g : List MV → M MV) : Prop :=
  ∃ r, CallR X f r ∧ ∀ W θ st σ H xs vs Q, HR cm X.K θ st H → RMs X.K θ st H xs vs → Out (RM X.K) cm X.K W θ st σ H Q (g vs st) → r xs H Q
section
variable {X : Cx} {cm : Str → Addr} {W : WX} {pos p apos cpos : Pos} {a b e o : Expr} {es : List Expr} {fa fb fo : Env → M MV} {gs : Env → M (List MV)} {g : List MV → M MV} {x name : Str} {id T : String}
theorem de_callB (hc : CD X cm (.builtin id) g) (hg : Gl X x) (hm : X.mg x = none) (hv : bootBuiltins x = some (.builtin id)) (ha : DA X cm W (e :: es) gs) (hn : x ≠ "__name__" := by decide) (hdb : (x == ("__debug__" : Str)) = false := by decide)
    (he : starEach (e :: es) X.env = (false, eval e X.env) :: starEach es X.env := by rfl) (hpl : (backTo pos (starEach es X.env)).any (·.1) = false := by rfl) : DE X cm W (.Call (.Name x p) (e :: es) [] pos) (mMk g gs) := by
  obtain ⟨t, pt, qt⟩ := ha
  obtain ⟨r, hr, qr⟩ := hc
  exact ⟨_, pe_callB hr hg hm hv pt hn hdb he hpl, fun θ st σ ρ H Q h er o => qt θ st σ ρ H _ h er (o.bind fun vs st1 θ1 H1 xs g1 h1 r1 o1 => qr W θ1 st1 σ H1 xs vs Q h1 r1 o1)⟩
theorem de_callTy (hc : CD X cm (.type T) g) (hg : Gl X x) (hm : X.mg x = none) (hv : bootBuiltins x = some (.type T)) (ha : DA X cm W (e :: es) gs) (hn : x ≠ "__name__" := by decide) (hdb : (x == ("__debug__" : Str)) = false := by decide)
    (he : starEach (e :: es) X.env = (false, eval e X.env) :: starEach es X.env := by rfl) (hpl : (backTo pos (starEach es X.env)).any (·.1) = false := by rfl) : DE X cm W (.Call (.Name x p) (e :: es) [] pos) (mMk g gs) := by
  obtain ⟨t, pt, qt⟩ := ha
  obtain ⟨r, hr, qr⟩ := hc
  exact ⟨_, pe_callTy hr hg hm hv pt hn hdb he hpl, fun θ st σ ρ H Q h er o => qt θ st σ ρ H _ h er (o.bind fun vs st1 θ1 H1 xs g1 h1 r1 o1 => qr W θ1 st1 σ H1 xs vs Q h1 r1 o1)⟩
/-- len -/
def mLen : List MV → M MV
  | [x] => fun st => match asStr x with
    | some z => if z.length ≤ sizeLine then .ok (.d (.int z.length)) st else .bad
    | none => match dicOf st x with
      | some kvs => .ok (.d (.int kvs.length)) st
      | none => match seqOf st x with
        | some xs => .ok (.d (.int xs.length)) st
        | none => .bad
  | _ => bad
theorem rms1 {K : PySem.W.Frag} {θ : Th} {st : Sto} {H : Hp} {xs : List V} {m : MV} (r : RMs K θ st H xs [m]) : ∃ x, xs = [x] ∧ RM K θ st H x m := by
  cases r with
  | cons h t => cases t; exact ⟨_, rfl, h⟩
theorem rms2 {K : PySem.W.Frag} {θ : Th} {st : Sto} {H : Hp} {xs : List V} {m n : MV} (r : RMs K θ st H xs [m, n]) : ∃ x y, xs = [x, y] ∧ RM K θ st H x m ∧ RM K θ st H y n := by
  cases r with
  | cons h t =>
    obtain ⟨y, rfl, h2⟩ := rms1 t
    exact ⟨_, y, rfl, h, h2⟩
theorem rms0 {K : PySem.W.Frag} {θ : Th} {st : Sto} {H : Hp} {xs : List V} (r : RMs K θ st H xs []) : xs = [] := by cases r; rfl
theorem cd_len : CD X cm (.builtin "len") mLen := by
  refine ⟨_, CallR.or call_lenD call_len, fun W θ st σ H xs vs Q h r o => ?_⟩
  match vs, r, o with
  | [m], r, o =>
    obtain ⟨x, rfl, rx⟩ := rms1 r
    have o : Out (RM X.K) cm X.K W θ st σ H Q (match asStr m with
      | some z => if z.length ≤ sizeLine then .ok (.d (.int z.length)) st else .bad
      | none => match dicOf st m with
        | some kvs => .ok (.d (.int kvs.length)) st
        | none => match seqOf st m with
          | some xs => .ok (.d (.int xs.length)) st
          | none => .bad) := o
    split at o
    · rename_i z ez
      split at o
      · rename_i hz
        exact .inr ⟨x, z.length, rfl, by rw [str_of rx ez]; exact ⟨hz, rfl⟩, o.val h (.int _)⟩
      · exact False.elim o
    · split at o
      · rename_i kvs ek
        obtain ⟨i, a, ws, _, hi, ea, rfl, hH, rf⟩ := dic_of h rx ek
        exact .inl ⟨a, ws, rfl, hH, by rw [rf.len]; exact o.val h (.int _)⟩
      · split at o
        · rename_i xs ex
          obtain ⟨p, ys, rfl, hp, rp⟩ := seq_of h rx ex
          refine .inr ⟨_, ys.length, rfl, ?_, by rw [rp.len]; exact o.val h (.int _)⟩
          rcases hp with hp | hp
          · exact .inl ⟨ys, .of hp, rfl⟩
          · exact .inr ⟨ys, .of hp, rfl⟩
        · exact False.elim o
  | [], _, o => exact False.elim o
  | _ :: _ :: _, _, o => exact False.elim o
/-- abs, max, min of ints -/
def mAbs : List MV → M MV
  | [x] => fun st => match asInt x with | some i => .ok (.d (.int (if i < 0 then -i else i))) st | none => .bad
  | _ => bad
theorem cd_abs : CD X cm (.builtin "abs") mAbs := by
  refine ⟨_, call_abs, fun W θ st σ H xs vs Q h r o => ?_⟩
  match vs, r, o with
  | [m], r, o =>
    obtain ⟨x, rfl, rx⟩ := rms1 r
    have o : Out (RM X.K) cm X.K W θ st σ H Q (match asInt m with | some i => .ok (.d (.int (if i < 0 then -i else i))) st | none => .bad) := o
    split at o
    · rename_i i ei
      exact ⟨i, by rw [int_of rx ei], o.val h (.int _)⟩
    · exact False.elim o
  | [], _, o => exact False.elim o
  | _ :: _ :: _, _, o => exact False.elim o
def mI2L (g : Int → Int → Int) : List MV → M MV
  | [x, y] => fun st => match asInt x, asInt y with | some i, some j => .ok (.d (.int (g i j))) st | _, _ => .bad
  | _ => bad
theorem cd_i2 {f : Value} {g : Int → Int → Int} (hr : CallR X f (fun xs H Q => ∃ i j, xs = [.int i, .int j] ∧ Q (.int (g i j)) H)) : CD X cm f (mI2L g) := by
  refine ⟨_, hr, fun W θ st σ H xs vs Q h r o => ?_⟩
  match vs, r, o with
  | [m, n], r, o =>
    obtain ⟨x, y, rfl, rx, ry⟩ := rms2 r
    have o : Out (RM X.K) cm X.K W θ st σ H Q (match asInt m, asInt n with | some i, some j => .ok (.d (.int (g i j))) st | _, _ => .bad) := o
    split at o
    · rename_i i j ei ej
      exact ⟨i, j, by rw [int_of rx ei, int_of ry ej], o.val h (.int _)⟩
    · exact False.elim o
  | [], _, o => exact False.elim o
  | [_], _, o => exact False.elim o
  | _ :: _ :: _ :: _, _, o => exact False.elim o
abbrev mMax2 := mI2L (fun i j => if j > i then j else i)
abbrev mMin2 := mI2L (fun i j => if j < i then j else i)
theorem cd_max (hc : X.calm = true) : CD X cm (.builtin "max") mMax2 := cd_i2 (call_max2 hc)
theorem cd_min (hc : X.calm = true) : CD X cm (.builtin "min") mMin2 := cd_i2 (call_min2 hc)
/-- list(x), tuple(x) of a list or a tuple -/
def mListOf (k : List MV → M MV) : List MV → M MV
  | [x] => fun st => match seqOf st x with | some xs => k xs st | none => .bad
  | _ => bad
theorem cd_list {k : List MV → M MV} (hk : LstOk k) : CD X cm (.type "list") (mListOf k) := by
  refine ⟨_, call_list_of, fun W θ st σ H xs vs Q h r o => ?_⟩
  match vs, r, o with
  | [m], r, o =>
    obtain ⟨x, rfl, rx⟩ := rms1 r
    have o : Out (RM X.K) cm X.K W θ st σ H Q (match seqOf st m with | some xs => k xs st | none => .bad) := o
    split at o
    · rename_i xs ex
      obtain ⟨p, ys, rfl, hp, rp⟩ := seq_of h rx ex
      refine ⟨p, ys, rfl, ?_, (hk h rp o).2⟩
      rcases hp with hp | hp
      · exact .inl (.of hp)
      · exact .inr (.of hp)
    · exact False.elim o
  | [], _, o => exact False.elim o
  | _ :: _ :: _, _, o => exact False.elim o
def mTupOf : List MV → M MV
  | [x] => fun st => match listOf st x with
    | some xs => mkT xs st
    | none => match tupOf st x with | some _ => .ok x st | none => .bad
  | _ => bad
theorem cd_tuple : CD X cm (.type "tuple") mTupOf := by
  refine ⟨_, call_tuple_of, fun W θ st σ H xs vs Q h r o => ?_⟩
  match vs, r, o with
  | [m], r, o =>
    obtain ⟨x, rfl, rx⟩ := rms1 r
    have o : Out (RM X.K) cm X.K W θ st σ H Q (match listOf st m with
      | some xs => mkT xs st
      | none => match tupOf st m with | some _ => .ok m st | none => .bad) := o
    split at o
    · rename_i xs ex
      obtain ⟨p, ys, rfl, hp, rp⟩ := list_of h rx ex
      exact ⟨p, ys, rfl, .inl ⟨.of hp, (mkT_out h rp o).2⟩⟩
    · split at o
      · rename_i xs ex
        obtain ⟨p, ys, rfl, hp, rp⟩ := tup_of h rx ex
        exact ⟨p, ys, rfl, .inr ⟨.of hp, o.val h rx⟩⟩
      · exact False.elim o
  | [], _, o => exact False.elim o
  | _ :: _ :: _, _, o => exact False.elim o
/-- int(flag), int(n) -/
def mInt : List MV → M MV
  | [x] => fun st => match asInt x with
    | some i => .ok (.d (.int i)) st
    | none => match asBool x with | some b => .ok (.d (.int (if b then 1 else 0))) st | none => .bad
  | _ => bad
theorem cd_int : CD X cm (.type "int") mInt := by
  refine ⟨_, call_int1, fun W θ st σ H xs vs Q h r o => ?_⟩
  match vs, r, o with
  | [m], r, o =>
    obtain ⟨x, rfl, rx⟩ := rms1 r
    have o : Out (RM X.K) cm X.K W θ st σ H Q (match asInt m with
      | some i => .ok (.d (.int i)) st
      | none => match asBool m with | some b => .ok (.d (.int (if b then 1 else 0))) st | none => .bad) := o
    split at o
    · rename_i i ei
      exact .inl ⟨i, by rw [int_of rx ei], o.val h (.int _)⟩
    · split at o
      · rename_i b eb
        exact .inr ⟨b, by rw [bool_of rx eb], o.val h (.int _)⟩
      · exact False.elim o
  | [], _, o => exact False.elim o
  | _ :: _ :: _, _, o => exact False.elim o
/-- str(n) -/
def mStrI : List MV → M MV
  | [x] => fun st => match asInt x with
    | some i => if i.natAbs.log2 < 1920 then .ok (.d (.str (toString i))) st else .bad
    | none => .bad
  | _ => bad
theorem cd_str : CD X cm (.type "str") mStrI := by
  refine ⟨_, call_str_int, fun W θ st σ H xs vs Q h r o => ?_⟩
  match vs, r, o with
  | [m], r, o =>
    obtain ⟨x, rfl, rx⟩ := rms1 r
    have o : Out (RM X.K) cm X.K W θ st σ H Q (match asInt m with
      | some i => if i.natAbs.log2 < 1920 then .ok (.d (.str (toString i))) st else .bad
      | none => .bad) := o
    split at o
    · rename_i i ei
      split at o
      · rename_i hz
        exact ⟨i, by rw [int_of rx ei], hz, o.val h (.str _)⟩
      · exact False.elim o
    · exact False.elim o
  | [], _, o => exact False.elim o
  | _ :: _ :: _, _, o => exact False.elim o

/-! ### methods of built-in types -/
def MD (X : Cx) (cm : Str → Addr) (id : String) (g : MV → List MV → M MV) : Prop :=
  ∃ r, MtR X id r ∧ ∀ W θ st σ H x v xs vs Q, HR cm X.K θ st H → RM X.K θ st H x v → RMs X.K θ st H xs vs → Out (RM X.K) cm X.K W θ st σ H Q (g v vs st) → r x xs H Q
def mTy (T : String) (v : MV) : M Unit := fun st => if tyOf st v = T then .ok () st else .bad
def mMeth (T : String) (g : MV → List MV → M MV) (fo : Env → M MV) (gs : Env → M (List MV)) : Env → M MV := fun ρ => bnd (fo ρ) fun v => bnd (mTy T v) fun _ => bnd (gs ρ) fun vs => g v vs
theorem ty_ok {K : PySem.W.Frag} {θ : Th} {st : Sto} {H : Hp} {x : V} {v : MV} (h : HR cm K θ st H) (r : RM K θ st H x v) (e : tyOf st v = T) (hT : T ≠ "") : tyV K T x H := by
  cases v with
  | d p =>
    cases r with
    | str z => exact e.symm
    | lst h1 n t => exact .inl ⟨e.symm, _, .of h1⟩
    | _ => exact absurd e.symm hT
  | c i =>
    obtain ⟨_, rfl⟩ := r
    have e' : (match st.o i with | some (.lst _) => "list" | some (.dic _) => "dict" | _ => "") = T := e
    cases q : st.o i with
    | none => rw [q] at e'; exact absurd e'.symm hT
    | some ob =>
      rw [q] at e'
      cases ob with
      | lst xs =>
        obtain ⟨ho, h1, ys, rfl, _⟩ := h.obj i _ q
        exact .inl ⟨e'.symm, _, .of h1⟩
      | dic xs =>
        obtain ⟨ho, h1, ys, rfl, _⟩ := h.obj i _ q
        exact .inr (.inr (.inl ⟨e'.symm, .inl ⟨_, h1⟩⟩))
      | _ => exact absurd e'.symm hT
  | scr ns => exact absurd e.symm hT
theorem mTy_out {K : PySem.W.Frag} {θ : Th} {st : Sto} {σ : L2.St} {H : Hp} {α β : Type} {RX : Th → Sto → Hp → β → α → Prop} {Q : β → Hp → Prop} {v : MV} {k : M α} (o : Out RX cm K W θ st σ H Q (bnd (mTy T v) (fun _ => k) st)) :
    tyOf st v = T ∧ Out RX cm K W θ st σ H Q (k st) := by
  unfold bnd mTy at o
  by_cases e : tyOf st v = T
  · rw [if_pos e] at o; exact ⟨e, o⟩
  · rw [if_neg e] at o; exact False.elim o
theorem de_bm {g : MV → List MV → M MV} (pa : PlainAttrs T) (slot : Slot T name id) (hty : typeOf (.builtin id) = pure (.type "method_descriptor")) (hm : MD X cm id g) (ho : DE X cm W o fo) (ha : DA X cm W (e :: es) gs) (hT : T ≠ "" := by decide)
    (hbase : attributeBase o name X.env (eval o X.env) = eval o X.env := by rfl)
    (hfew : ((backTo cpos (starEach (e :: es) X.env)).all (fun x => !x.1) && (backToKw cpos (keywordEach [] X.env)).all (fun x => x.1.isSome)
      && decide ((e :: es).length + ([] : List Keyword).length + (if ([] : List Keyword).isEmpty then 0 else 1) < 30)) = true := by rfl)
    (hline : (apos.endLine == cpos.line) = true := by rfl) (hs : starEach (e :: es) X.env = (false, eval e X.env) :: starEach es X.env := by rfl) (hplain : (backTo cpos (starEach es X.env)).any (·.1) = false := by rfl) :
    DE X cm W (.Call (.Attribute o name apos) (e :: es) [] cpos) (mMeth T g fo gs) := by
  obtain ⟨to, po, qo⟩ := ho
  obtain ⟨ta, pt, qt⟩ := ha
  obtain ⟨r, hr, qr⟩ := hm
  refine ⟨_, pe_bm pa slot hty hr po pt hbase hfew hline hs hplain, fun θ st σ ρ H Q h er ot => ?_⟩
  refine qo θ st σ ρ H _ h er (ot.bind fun v st1 θ1 H1 x g1 h1 r1 o1 => ?_)
  obtain ⟨ty, o1⟩ := mTy_out o1
  exact ⟨ty_ok h1 r1 ty hT, qt θ1 st1 σ ρ H1 _ h1 (er.mono g1) (o1.bind fun vs st2 θ2 H2 xs g2 h2 r2 o2 => qr W θ2 st2 σ H2 x v xs vs Q h2 (r1.mono g2) r2 o2)⟩
theorem de_bm0 {g : MV → List MV → M MV} (pa : PlainAttrs T) (slot : Slot T name id) (hty : typeOf (.builtin id) = pure (.type "method_descriptor")) (hm : MD X cm id g) (ho : DE X cm W o fo) (hT : T ≠ "" := by decide)
    (hbase : attributeBase o name X.env (eval o X.env) = eval o X.env := by rfl) (hline : (apos.endLine == cpos.line) = true := by rfl) :
    DE X cm W (.Call (.Attribute o name apos) [] [] cpos) (mMeth T g fo mNil) := by
  obtain ⟨to, po, qo⟩ := ho
  obtain ⟨r, hr, qr⟩ := hm
  refine ⟨_, pe_bm0 pa slot hty hr po hbase hline, fun θ st σ ρ H Q h er ot => ?_⟩
  refine qo θ st σ ρ H _ h er (ot.bind fun v st1 θ1 H1 x g1 h1 r1 o1 => ?_)
  obtain ⟨ty, o1⟩ := mTy_out o1
  exact ⟨ty_ok h1 r1 ty hT, qr W θ1 st1 σ H1 x v [] [] Q h1 r1 .nil o1⟩
theorem rm_non {K : PySem.W.Frag} {θ : Th} {st : Sto} {H : Hp} : RM K θ st H .non (.d .none) := DD.non
/-- the list at a place -/
def lstAt (st : Sto) : MV → Option (Nat × List MV)
  | .c i => match st.o i with | some (.lst xs) => some (i, xs) | _ => none
  | _ => none
theorem lst_at {K : PySem.W.Frag} {θ : Th} {st : Sto} {H : Hp} {x : V} {v : MV} {i : Nat} {xs : List MV} (h : HR cm K θ st H) (r : RM K θ st H x v) (e : lstAt st v = some (i, xs)) :
    ∃ ys, x = .ref (θ i) ∧ (st.o i).isSome = true ∧ H (θ i) = some (.lst ys) ∧ RMs K θ st H ys xs := by
  cases v with
  | d p => cases e
  | scr ns => cases e
  | c j =>
    obtain ⟨_, rfl⟩ := r
    have e' : (match st.o j with | some (.lst xs) => some (j, xs) | _ => none) = some (i, xs) := e
    cases q : st.o j with
    | none => rw [q] at e'; cases e'
    | some ob =>
      rw [q] at e'
      cases ob with
      | lst zs =>
        cases e'
        obtain ⟨ho, h1, ys, rfl, h3⟩ := h.obj i _ q
        exact ⟨ys, rfl, by rw [q]; rfl, h1, h3⟩
      | _ => cases e'
/-- a list's place is written -/
theorem put_out {K : PySem.W.Frag} {θ : Th} {st : Sto} {σ : L2.St} {H : Hp} {Q : VK} {i : Nat} {ys : List V} {xs : List MV} {v : MV} {y : V} (h : HR cm K θ st H) (hi : (st.o i).isSome = true) (r : RMs K θ st H ys xs) (rv : RM K θ st H y v)
    (o : Out (RM K) cm K W θ st σ H Q (.ok v (st.put i (.lst xs)))) : Q y (upd H (θ i) (.lst ys)) := by
  have gp : Gr θ st H θ (st.put i (.lst xs)) (upd H (θ i) (.lst ys)) := gr_put hi _ _
  exact o θ _ y gp (hr_put h hi ⟨ys, rfl, r.mono gp⟩) (rv.mono gp)
def mAppend (v : MV) : List MV → M MV
  | [y] => fun st => match lstAt st v with
    | some (i, xs) => if xs.length < sizeLine then .ok (.d .none) (st.put i (.lst (xs ++ [y]))) else .bad
    | none => .bad
  | _ => bad
theorem md_append : MD X cm "list.append" mAppend := by
  refine ⟨_, mt_append, fun W θ st σ H x v xs vs Q h rx r o => ?_⟩
  match vs, r, o with
  | [m], r, o =>
    obtain ⟨y, rfl, ry⟩ := rms1 r
    have o : Out (RM X.K) cm X.K W θ st σ H Q (match lstAt st v with
      | some (i, xs) => if xs.length < sizeLine then .ok (.d .none) (st.put i (.lst (xs ++ [m]))) else .bad
      | none => .bad) := o
    split at o
    · rename_i i xs ex
      obtain ⟨ys, rfl, hi, hp, rp⟩ := lst_at h rx ex
      split at o
      · rename_i hz
        exact ⟨θ i, ys, y, rfl, rfl, hp, by rw [rp.len]; exact hz, put_out h hi (rp.app (.cons ry .nil)) rm_non o⟩
      · exact False.elim o
    · exact False.elim o
  | [], _, o => exact False.elim o
  | _ :: _ :: _, _, o => exact False.elim o
def mInsert (v : MV) : List MV → M MV
  | [k, y] => fun st => match lstAt st v, asInt k with
    | some (i, xs), some j => if xs.length < sizeLine ∧ 0 ≤ j ∧ j < 2 ^ 63 then .ok (.d .none) (st.put i (.lst (xs.take j.toNat ++ [y] ++ xs.drop j.toNat))) else .bad
    | _, _ => .bad
  | _ => bad
theorem md_insert : MD X cm "list.insert" mInsert := by
  refine ⟨_, mt_insert, fun W θ st σ H x v xs vs Q h rx r o => ?_⟩
  match vs, r, o with
  | [k, m], r, o =>
    obtain ⟨z, y, rfl, rz, ry⟩ := rms2 r
    have o : Out (RM X.K) cm X.K W θ st σ H Q (match lstAt st v, asInt k with
      | some (i, xs), some j => if xs.length < sizeLine ∧ 0 ≤ j ∧ j < 2 ^ 63 then .ok (.d .none) (st.put i (.lst (xs.take j.toNat ++ [m] ++ xs.drop j.toNat))) else .bad
      | _, _ => .bad) := o
    split at o
    · rename_i i xs j ex ej
      obtain ⟨ys, rfl, hi, hp, rp⟩ := lst_at h rx ex
      split at o
      · rename_i hz
        exact ⟨θ i, ys, j, y, rfl, by rw [int_of rz ej], hp, by rw [rp.len]; exact hz.1, hz.2.1, hz.2.2, put_out h hi (((rp.takeN _).app (.cons ry .nil)).app (rp.dropN _)) rm_non o⟩
      · exact False.elim o
    · exact False.elim o
  | [], _, o => exact False.elim o
  | [_], _, o => exact False.elim o
  | _ :: _ :: _ :: _, _, o => exact False.elim o
theorem RMs.dropLast {K : PySem.W.Frag} {θ : Th} {st : Sto} {H : Hp} {ys : List V} {xs : List MV} (r : RMs K θ st H ys xs) : RMs K θ st H ys.dropLast xs.dropLast := by
  rw [List.dropLast_eq_take, List.dropLast_eq_take, r.len]
  exact r.takeN _
def mPop (v : MV) : List MV → M MV
  | [] => fun st => match lstAt st v with
    | some (i, xs) => (match xs[xs.length - 1]? with | some y => .ok y (st.put i (.lst xs.dropLast)) | none => .bad)
    | none => .bad
  | _ => bad
theorem md_pop : MD X cm "list.pop" mPop := by
  refine ⟨_, mt_pop, fun W θ st σ H x v xs vs Q h rx r o => ?_⟩
  match vs, r, o with
  | [], r, o =>
    obtain rfl := rms0 r
    have o : Out (RM X.K) cm X.K W θ st σ H Q (match lstAt st v with
      | some (i, xs) => (match xs[xs.length - 1]? with | some y => .ok y (st.put i (.lst xs.dropLast)) | none => .bad)
      | none => .bad) := o
    split at o
    · rename_i i xs ex
      obtain ⟨ys, rfl, hi, hp, rp⟩ := lst_at h rx ex
      split at o
      · rename_i y ey
        obtain ⟨w, ew, rw'⟩ := rp.get ey
        exact ⟨θ i, ys, w, rfl, rfl, hp, by rw [rp.len]; exact ew, put_out h hi rp.dropLast rw' o⟩
      · exact False.elim o
    · exact False.elim o
  | _ :: _, _, o => exact False.elim o
def mClear (v : MV) : List MV → M MV
  | [] => fun st => match lstAt st v with
    | some (i, xs) => .ok (.d .none) (st.put i (.lst []))
    | none => .bad
  | _ => bad
theorem md_clear : MD X cm "list.clear" mClear := by
  refine ⟨_, mt_clear, fun W θ st σ H x v xs vs Q h rx r o => ?_⟩
  match vs, r, o with
  | [], r, o =>
    obtain rfl := rms0 r
    have o : Out (RM X.K) cm X.K W θ st σ H Q (match lstAt st v with
      | some (i, xs) => .ok (.d .none) (st.put i (.lst []))
      | none => .bad) := o
    split at o
    · rename_i i xs ex
      obtain ⟨ys, rfl, hi, hp, rp⟩ := lst_at h rx ex
      exact ⟨θ i, ys, rfl, rfl, hp, put_out h hi .nil rm_non o⟩
    · exact False.elim o
  | _ :: _, _, o => exact False.elim o
/-! ### texts -/
def strsM : List MV → Option (List Str)
  | [] => some []
  | .d (.str x) :: r => (strsM r).map (x :: ·)
  | _ :: _ => none
theorem strs_rel {K : PySem.W.Frag} {θ : Th} {st : Sto} {H : Hp} : ∀ {ys : List V} {xs : List MV} {ss : List Str}, RMs K θ st H ys xs → strsM xs = some ss → ys = ss.map V.str
  | _, _, ss, .nil, e => by cases e; rfl
  | v :: vs, m :: ms, ss, .cons h t, e => by
    cases m with
    | d p =>
      cases p with
      | str z =>
        have e : (strsM ms).map (z :: ·) = some ss := e
        cases q : strsM ms with
        | none => rw [q] at e; cases e
        | some zs =>
          rw [q] at e
          cases e
          cases h
          rw [strs_rel t q]
          rfl
      | _ => cases e
    | c i => cases e
    | scr ns => cases e
def mJoin (v : MV) : List MV → M MV
  | [y] => fun st => match asStr v, seqOf st y with
    | some a, some xs => (match strsM xs with
      | some ss => if (ss.map (·.length)).sum + ss.length * a.length ≤ 16777216 then .ok (.d (.str (Txt.join a ss))) st else .bad
      | none => .bad)
    | _, _ => .bad
  | _ => bad
theorem md_join : MD X cm "str.join" mJoin := by
  refine ⟨_, mt_join, fun W θ st σ H x v xs vs Q h rx r o => ?_⟩
  match vs, r, o with
  | [m], r, o =>
    obtain ⟨y, rfl, ry⟩ := rms1 r
    have o : Out (RM X.K) cm X.K W θ st σ H Q (match asStr v, seqOf st m with
      | some a, some xs => (match strsM xs with
        | some ss => if (ss.map (·.length)).sum + ss.length * a.length ≤ 16777216 then .ok (.d (.str (Txt.join a ss))) st else .bad
        | none => .bad)
      | _, _ => .bad) := o
    split at o
    · rename_i a xs ea ex
      obtain ⟨p, ys, rfl, hp, rp⟩ := seq_of h ry ex
      split at o
      · rename_i ss es
        split at o
        · rename_i hz
          have e := strs_rel rp es
          subst e
          refine ⟨a, p, ss, str_of rx ea, rfl, ?_, hz, o.val h (.str _)⟩
          rcases hp with hp | hp
          · exact .inl (.of hp)
          · exact .inr (.of hp)
        · exact False.elim o
      · exact False.elim o
    · exact False.elim o
  | [], _, o => exact False.elim o
  | _ :: _ :: _, _, o => exact False.elim o
def mUpper (v : MV) : List MV → M MV
  | [] => fun st => match asStr v with
    | some a => if a.length ≤ 5592405 then .ok (.d (.str (Txt.upper a))) st else .bad
    | none => .bad
  | _ => bad
theorem md_upper : MD X cm "str.upper" mUpper := by
  refine ⟨_, mt_upper, fun W θ st σ H x v xs vs Q h rx r o => ?_⟩
  match vs, r, o with
  | [], r, o =>
    obtain rfl := rms0 r
    have o : Out (RM X.K) cm X.K W θ st σ H Q (match asStr v with
      | some a => if a.length ≤ 5592405 then .ok (.d (.str (Txt.upper a))) st else .bad
      | none => .bad) := o
    split at o
    · rename_i a ea
      split at o
      · rename_i hz
        exact ⟨a, str_of rx ea, rfl, hz, o.val h (.str _)⟩
      · exact False.elim o
    · exact False.elim o
  | _ :: _, _, o => exact False.elim o
def mSplit (v : MV) : List MV → M MV
  | [y] => fun st => match asStr v, asStr y with
    | some a, some b => if (b.length == 0) = false ∧ a.length + 2 ≤ sizeLine ∧ (Txt.split a b).length ≤ sizeLine then .ok (.d (.list ((Txt.split a b).map .str))) st else .bad
    | _, _ => .bad
  | _ => bad
theorem dds_strs {K : PySem.W.Frag} {H : Hp} {nc : Addr → Prop} : ∀ ss : List Str, DDs K H nc (ss.map V.str) (ss.map .str)
  | [] => .nil
  | s :: r => .cons (.str s) (dds_strs r)
theorem md_split : MD X cm "str.split" mSplit := by
  refine ⟨_, mt_split, fun W θ st σ H x v xs vs Q h rx r o => ?_⟩
  match vs, r, o with
  | [m], r, o =>
    obtain ⟨y, rfl, ry⟩ := rms1 r
    have o : Out (RM X.K) cm X.K W θ st σ H Q (match asStr v, asStr m with
      | some a, some b => if (b.length == 0) = false ∧ a.length + 2 ≤ sizeLine ∧ (Txt.split a b).length ≤ sizeLine then .ok (.d (.list ((Txt.split a b).map .str))) st else .bad
      | _, _ => .bad) := o
    split at o
    · rename_i a b ea eb
      split at o
      · rename_i hz
        refine ⟨a, b, str_of rx ea, by rw [str_of ry eb], hz.1, hz.2.1, fun p hp => ?_⟩
        exact o θ _ (.ref p) (gr_fresh h hp _) (hr_fresh h hp _) (.lst upd_same (h.apart hp) (dds_strs _))
      · exact False.elim o
    · exact False.elim o
  | [], _, o => exact False.elim o
  | _ :: _ :: _, _, o => exact False.elim o

/-! ### isinstance -/
/-- the class of a value -/
inductive Tag where
  | bi (n : String)
  | own (c : Str)
def tagOf (st : Sto) : MV → Option Tag
  | .d .none => some (.bi "NoneType")
  | .d (.bool _) => some (.bi "bool")
  | .d (.int _) => some (.bi "int")
  | .d (.str _) => some (.bi "str")
  | .d (.list _) => some (.bi "list")
  | .d (.tuple _) => some (.bi "tuple")
  | .c i => match st.o i with
    | some (.lst _) => some (.bi "list")
    | some (.tup _) => some (.bi "tuple")
    | some (.dic _) => some (.bi "dict")
    | some (.ins c _) => some (.own c)
    | some (.exc c _) => some (.own c)
    | some (.exc0 c) => some (.own c)
    | none => none
  | _ => none
def Tag.val (cm : Str → Addr) : Tag → Value
  | .bi n => .type n
  | .own c => .ref (cm c)
/-- what the classes say, so that isinstance asks their instances rightly -/
structure InsC (K : PySem.W.Frag) (C : Addr) : Prop where
  cl : Cls K C
  ha : PySem.W.findIn K (.ref C) "__class__" = some (some (.builtin "object.__class__"))
  hn : PySem.W.specialIn K (.builtin "object.__class__") "__get__" = some (some (.builtin "getset_descriptor.__get__"))
  ht : PySem.W.takesIn K (.builtin "object.__class__") = some true
  hm : PySem.W.mroIn K C (.type "object") = some true
/-- the program's classes: those of instances, those of exceptions -/
structure Clss (cm : Str → Addr) (K : PySem.W.Frag) (ins exc : List Str) : Prop where
  ins : ∀ c ∈ ins, InsC K (cm c)
  exc : ∀ c ∈ exc, ExcC K (cm c)
def kitKnown (ins exc : List Str) (st : Sto) : MV → Bool
  | .c i => match st.o i with
    | some (.ins c _) => decide (c ∈ ins)
    | some (.exc c _) => decide (c ∈ exc)
    | some (.exc0 c) => decide (c ∈ exc)
    | _ => true
  | _ => true
theorem kit_val {pins : List (Addr × Obj)} {σ : L2.St} {H : Hp} {s : Shared} {ins exc : List Str} {θ : Th} {st : Sto} {x : V} {u : Value} {v : MV} {t : Tag} (C : Clss cm X.K ins exc) (I : Inv X pins σ H s) (h : HR cm X.K θ st H) (r : RM X.K θ st H x v) (rx : RelV x u) (e : tagOf st v = some t) (hk : kitKnown ins exc st v = true) :
    ∃ P : Heap → Prop, PySem.W.KitX X.K u (t.val cm) P ∧ P s.heap ∧ u ≠ .builtin "__main__.__loader__#opaque" := by
  have base : ∀ {t : Value}, TyOf X.K H x t → ∃ P : Heap → Prop, PySem.W.KitX X.K u t P ∧ P s.heap ∧ u ≠ .builtin "__main__.__loader__#opaque" := fun b => kit_of I rx (.base b)
  cases v with
  | d p =>
    cases r with
    | non => cases e; exact base .non
    | bl b => cases e; exact base (.bl b)
    | int i => cases e; exact base (.int i)
    | str z => cases e; exact base (.str z)
    | lst h1 n t => cases e; exact base (.lst h1)
    | tup h1 n t => cases e; exact base (.tup h1)
  | scr ns => cases e
  | c i =>
    obtain ⟨_, rfl⟩ := r
    cases (show u = Value.ref (θ i) from rx)
    have e' : (match st.o i with
      | some (.lst _) => some (Tag.bi "list")
      | some (.tup _) => some (.bi "tuple")
      | some (.dic _) => some (.bi "dict")
      | some (.ins c _) => some (.own c)
      | some (.exc c _) => some (.own c)
      | some (.exc0 c) => some (.own c)
      | none => none) = some t := e
    have k' : (match st.o i with
      | some (.ins c _) => decide (c ∈ ins)
      | some (.exc c _) => decide (c ∈ exc)
      | some (.exc0 c) => decide (c ∈ exc)
      | _ => true) = true := hk
    cases q : st.o i with
    | none => rw [q] at e'; cases e'
    | some ob =>
      rw [q] at e' k'
      obtain ⟨ho, h1, hr⟩ := h.obj i _ q
      cases ob with
      | lst xs => obtain ⟨ys, rfl, _⟩ := hr; cases e'; exact base (.lst h1)
      | tup xs => obtain ⟨ys, rfl, _⟩ := hr; cases e'; exact base (.tup h1)
      | dic xs => obtain ⟨ys, rfl, _⟩ := hr; cases e'; exact base (.dK h1)
      | ins c fs =>
        obtain ⟨dx, gs, rfl, _⟩ := hr
        cases e'
        have z := C.ins c (of_decide_eq_true k')
        exact base (.ins h1 z.cl z.ha z.hn z.ht z.hm)
      | exc c fs =>
        obtain ⟨d, rfl, xd⟩ := hr
        cases e'
        have z := C.exc c (of_decide_eq_true k')
        obtain ⟨⟨oe, vs, g1, g2, g3⟩, _⟩ := I.hok _ _ h1
        obtain ⟨oc, od, odt, osl⟩ := oe
        obtain ⟨z1, z2⟩ := g2
        simp only at z1 z2 g3
        subst z1 z2 g3
        rcases xd with ⟨_, rfl⟩ | ⟨dd, gs, rfl, hd, _, _⟩
        · exact ⟨_, PySem.W.kitx_exc (od := none) (ox := { cls := .ref (cm c), dict := none, data := .fields vs, slots := osl }) (by obtain ⟨cd, hc, _⟩ := PySem.W.any_some z.hd; rw [hc]; rfl) z.hg z.hk z.hs z.ha z.hn z.ht z.hm, ⟨g1, rfl, rfl, trivial⟩, fun w => nomatch w⟩
        · obtain ⟨mA, ⟨o2, es, ep, e2, _⟩, _⟩ := (show ObjOk X.prog X.w H s.heap dd (.xd gs) from I.hok _ _ hd)
          exact ⟨_, PySem.W.kitx_exc (od := some o2) (ox := { cls := .ref (cm c), dict := some dd, data := .fields vs, slots := osl }) (by obtain ⟨cd, hc, _⟩ := PySem.W.any_some z.hd; rw [hc]; rfl) z.hg z.hk z.hs z.ha z.hn z.ht z.hm, ⟨g1, rfl, rfl, e2⟩, fun w => nomatch w⟩
      | exc0 c =>
        obtain ⟨t0, rfl, _, _⟩ := hr
        cases e'
        have z := C.exc c (of_decide_eq_true k')
        obtain ⟨g1, _⟩ := I.hok _ _ h1
        exact ⟨_, PySem.W.kitx_exc (od := none) (ox := { cls := .ref (cm c), data := .fields #[.ref t0, .none, .none, .none, .bool false, .none] }) (by obtain ⟨cd, hc, _⟩ := PySem.W.any_some z.hd; rw [hc]; rfl) z.hg z.hk z.hs z.ha z.hn z.ht z.hm, ⟨g1, rfl, rfl, trivial⟩, fun w => nomatch w⟩
end
end Dm

set_option Elab.async false
set_option linter.all false
set_option maxRecDepth 100000
/-! The machine: isinstance's rule; statements, targets. -/
namespace Dm
open PySem PySem.Spec PyProof.Rows L2

section
variable {X : Cx} {cm : Str → Addr} {W : WX} {pos p : Pos} {a b e c : Expr} {fa fb : Env → M MV}
/-- what isinstance with one class answers -/
def kfT (tb : List (String × Bool)) (to : List (Str × Bool)) : Tag → Option Bool
  | .bi n => tb.lookup n
  | .own c => to.lookup c
/-- the answers are the classes' own -/
structure KfOk (cm : Str → Addr) (K : PySem.W.Frag) (cv : Value) (tb : List (String × Bool)) (to : List (Str × Bool)) : Prop where
  b : ∀ q ∈ tb, PySem.W.kitOne K (.type q.1) cv = some q.2
  o : ∀ q ∈ to, PySem.W.kitOne K (.ref (cm q.1)) cv = some q.2
theorem mem_look {α β : Type} [BEq α] [LawfulBEq α] : ∀ {l : List (α × β)} {k : α} {v : β}, l.lookup k = some v → (k, v) ∈ l
  | (k', v') :: r, k, v, h => by
    rw [List.lookup_cons] at h
    cases hb : k == k' with
    | true =>
      rw [hb] at h
      cases h
      rw [beq_iff_eq.mp hb]
      exact List.mem_cons_self
    | false =>
      rw [hb] at h
      exact List.mem_cons_of_mem _ (mem_look h)
theorem KfOk.one {K : PySem.W.Frag} {cv : Value} {tb : List (String × Bool)} {to : List (Str × Bool)} (k : KfOk cm K cv tb to) {t : Tag} {b : Bool} (e : kfT tb to t = some b) : PySem.W.kitOne K (t.val cm) cv = some b := by
  cases t with
  | bi n => exact k.b _ (mem_look (show tb.lookup n = some b from e))
  | own c => exact k.o _ (mem_look (show to.lookup c = some b from e))
def mIsi (ins exc : List Str) (tb : List (String × Bool)) (to : List (Str × Bool)) (fa : Env → M MV) : Env → M MV := fun ρ => bnd (fa ρ) fun v st =>
  if kitKnown ins exc st v = true then (match tagOf st v with
    | some t => (match kfT tb to t with | some b => .ok (.d (.bool b)) st | none => .bad)
    | none => .bad) else .bad
/-- isinstance's answer, by the machine -/
def rIsM (X : Cx) (cm : Str → Addr) (ins exc : List Str) : List V → Hp → VK → Prop := fun xs H Q => ∃ (x c : V) (cv : Value) (θ : Th) (st : Sto) (v : MV) (t : Tag) (b : Bool),
  xs = [x, c] ∧ ClsV c cv ∧ HR cm X.K θ st H ∧ RM X.K θ st H x v ∧ tagOf st v = some t ∧ kitKnown ins exc st v = true ∧ PySem.W.kitOne X.K (t.val cm) cv = some b ∧ Q (.bl b) H
theorem call_isM {ins exc : List Str} (C : Clss cm X.K ins exc) : CallR X (.builtin "isinstance") (rIsM X cm ins exc) := by
  intro pins s σ H xs us Q I r h
  obtain ⟨x, c, cv, θ, st, v, t, b, rfl, k, hr, rm, et, hk, e, q⟩ := h
  obtain ⟨u1, u2, rfl, r1, r2⟩ := vals2 r
  have e2 := k.eq r2
  subst e2
  obtain ⟨P, Z, hp, hx⟩ := kit_val C I hr rm r1 et hk
  exact PySem.W.kia_one Z I.kIn hp e hx fun tk => ⟨.bl b, H, I.tok tk, rfl, q⟩
theorem de_isi {ins exc : List Str} {tb : List (String × Bool)} {to : List (Str × Bool)} {cx : V} {cv : Value} (C : Clss cm X.K ins exc) (k : KfOk cm X.K cv tb to) (hv : ClsV cx cv) (hg : Gl X "isinstance") (hm : X.mg "isinstance" = none) (ha : DE X cm W a fa) (hc : PE X c (tC cx))
    (he2 : starEach [c] X.env = (false, eval c X.env) :: starEach [] X.env := by rfl)
    (he : starEach [a, c] X.env = (false, eval a X.env) :: starEach [c] X.env := by rfl) (hpl : (backTo pos (starEach [c] X.env)).any (·.1) = false := by rfl) : DE X cm W (.Call (.Name "isinstance" p) [a, c] [] pos) (mIsi ins exc tb to fa) := by
  obtain ⟨ta, pa, qa⟩ := ha
  refine ⟨_, pe_callB (call_isM C) hg hm (by decide +kernel) (pa_cons pa (pa_cons hc pa_nil he2) he) (by decide) (by decide) he hpl, fun θ st σ ρ H Q h er o => ?_⟩
  refine qa θ st σ ρ H _ h er (o.bind fun v st1 θ1 H1 x g1 h1 r1 o1 => ?_)
  split at o1
  · rename_i hk
    split at o1
    · rename_i t et
      split at o1
      · rename_i b eb
        exact ⟨x, cx, cv, θ1, st1, v, t, b, rfl, hv, h1, r1, et, hk, k.one eb, o1.val h1 (.bl b)⟩
      · exact False.elim o1
    · exact False.elim o1
  · exact False.elim o1
end

/-! ### statements -/
inductive SRes where
  | nx (ρ : Env) (s : Sto)
  | rt (v : MV) (s : Sto)
  | bk (ρ : Env) (s : Sto)
  | ct (ρ : Env) (s : Sto)
  | exc (c : Str) (fs : List (Str × MV)) (ρ : Env) (s : Sto)
  | bad
def OutS (cm : Str → Addr) (K : PySem.W.Frag) (W : WX) (θ : Th) (st : Sto) (H : Hp) (D : Ends) : SRes → Prop
  | .nx ρ' st' => ∀ θ' H' σ', Gr θ st H θ' st' H' → HR cm K θ' st' H' → ER K θ' st' H' σ' ρ' → D.nx σ' H'
  | .rt v st' => ∀ θ' H' x, Gr θ st H θ' st' H' → HR cm K θ' st' H' → RM K θ' st' H' x v → D.rt x H'
  | .bk ρ' st' => ∀ θ' H' σ', Gr θ st H θ' st' H' → HR cm K θ' st' H' → ER K θ' st' H' σ' ρ' → D.bk σ' H'
  | .ct ρ' st' => ∀ θ' H' σ', Gr θ st H θ' st' H' → HR cm K θ' st' H' → ER K θ' st' H' σ' ρ' → D.ct σ' H'
  | .exc c fs ρ' st' => ∀ θ' H' σ' d, Gr θ st H θ' st' H' → HR cm K θ' st' H' → ER K θ' st' H' σ' ρ' → XD K θ' st' H' d fs → W (.ref (cm c)) d σ' H'
  | .bad => False
def sb {α : Type} (m : M α) (ρ : Env) (k : α → Sto → SRes) : Sto → SRes := fun st => match m st with
  | .ok a s => k a s
  | .exc c fs s => .exc c fs ρ s
  | .bad => .bad
theorem sb_ok {α : Type} {m : M α} {ρ : Env} {k : α → Sto → SRes} {s s' : Sto} {a : α} (h : m s = .ok a s') : sb m ρ k s = k a s' := by unfold sb; rw [h]
def sq (f g : Env → Sto → SRes) : Env → Sto → SRes := fun ρ st => match f ρ st with
  | .nx ρ' st' => g ρ' st'
  | r => r
section
variable {cm : Str → Addr} {K : PySem.W.Frag} {W : WX} {θ θ1 : Th} {st st1 : Sto} {σ : L2.St} {ρ : Env} {H H1 : Hp} {D : Ends}
theorem OutS.up {r : SRes} (g : Gr θ st H θ1 st1 H1) (o : OutS cm K W θ st H D r) : OutS cm K W θ1 st1 H1 D r := by
  cases r with
  | nx ρ s => exact fun θ' H' x g' => o θ' H' x (g.trans g')
  | rt v s => exact fun θ' H' x g' => o θ' H' x (g.trans g')
  | bk ρ s => exact fun θ' H' x g' => o θ' H' x (g.trans g')
  | ct ρ s => exact fun θ' H' x g' => o θ' H' x (g.trans g')
  | exc c fs ρ s => exact fun θ' H' x d g' => o θ' H' x d (g.trans g')
  | bad => exact o
theorem OutS.bind {α β : Type} {RX : Th → Sto → Hp → β → α → Prop} {R : β → Hp → Prop} {m : M α} {k : α → Sto → SRes} (er : ER K θ st H σ ρ) (o : OutS cm K W θ st H D (sb m ρ k st))
    (hk : ∀ v st1 θ1 H1 x, Gr θ st H θ1 st1 H1 → HR cm K θ1 st1 H1 → RX θ1 st1 H1 x v → OutS cm K W θ1 st1 H1 D (k v st1) → R x H1) : Out RX cm K W θ st σ H R (m st) := by
  unfold sb at o
  cases e : m st with
  | ok v s =>
    rw [e] at o
    exact fun θ' H' x g h r => hk v s θ' H' x g h r (o.up g)
  | exc c fs s =>
    rw [e] at o
    exact fun θ' H' d g h x => o θ' H' σ d g h (er.mono g) x
  | bad =>
    rw [e] at o
    exact o
end
def DS (X : Cx) (cm : Str → Addr) (W : WX) (s : Stmt) (f : Env → Sto → SRes) : Prop :=
  ∃ t, PS X s t ∧ ∀ θ st σ ρ H D, HR cm X.K θ st H → ER X.K θ st H σ ρ → OutS cm X.K W θ st H D (f ρ st) → t D σ H
def DSs (X : Cx) (cm : Str → Addr) (W : WX) (ss : List Stmt) (f : Env → Sto → SRes) : Prop :=
  ∃ t, PSs X ss t ∧ ∀ θ st σ ρ H D, HR cm X.K θ st H → ER X.K θ st H σ ρ → OutS cm X.K W θ st H D (f ρ st) → t D σ H
section
variable {X : Cx} {cm : Str → Addr} {W : WX} {pos p : Pos} {a b e c o : Expr} {fa fb fo : Env → M MV} {gc : Env → M Bool} {s : Stmt} {ss ts : List Stmt} {f g : Env → Sto → SRes}
theorem dss_nil : DSs X cm W [] (fun ρ st => .nx ρ st) := ⟨_, pss_nil, fun θ st σ ρ H D h er o => o θ H σ .refl h er⟩
theorem dss_cons (h1 : DS X cm W s f) (h2 : DSs X cm W ss g) : DSs X cm W (s :: ss) (sq f g) := by
  obtain ⟨t, pt, qt⟩ := h1
  obtain ⟨u, pu, qu⟩ := h2
  refine ⟨_, pss_cons pt pu, fun θ st σ ρ H D h er o => qt θ st σ ρ H { D with nx := u D } h er ?_⟩
  unfold sq at o
  cases q : f ρ st with
  | nx ρ' st' =>
    rw [q] at o
    exact fun θ' H' σ' g' h' er' => qu θ' st' σ' ρ' H' D h' er' (OutS.up g' o)
  | rt v st' => rw [q] at o; exact o
  | bk ρ' st' => rw [q] at o; exact o
  | ct ρ' st' => rw [q] at o; exact o
  | exc c fs ρ' st' => rw [q] at o; exact o
  | bad => rw [q] at o; exact o
theorem dss_one (h1 : DS X cm W s f) : DSs X cm W [s] f := let ⟨t, pt, qt⟩ := h1; ⟨t, pss_one pt, qt⟩
theorem ds_pass : DS X cm W (.Pass pos) (fun ρ st => .nx ρ st) := ⟨_, ps_pass, fun θ st σ ρ H D h er o => o θ H σ .refl h er⟩
theorem ds_break : DS X cm W (.Break pos) (fun ρ st => .bk ρ st) := ⟨_, ps_break, fun θ st σ ρ H D h er o => o θ H σ .refl h er⟩
theorem ds_cont : DS X cm W (.Continue pos) (fun ρ st => .ct ρ st) := ⟨_, ps_continue, fun θ st σ ρ H D h er o => o θ H σ .refl h er⟩
def sExpr (fa : Env → M MV) : Env → Sto → SRes := fun ρ => sb (fa ρ) ρ fun _ st => .nx ρ st
theorem ds_expr (ha : DE X cm W a fa) (hs : swapsWith a none pos.line X.env = pure false := by rfl) : DS X cm W (.Expr a pos) (sExpr fa) := by
  obtain ⟨t, pt, qt⟩ := ha
  exact ⟨_, ps_expr pt hs, fun θ st σ ρ H D h er o => qt θ st σ ρ H _ h er (OutS.bind er o fun v st1 θ1 H1 x g1 h1 r1 o1 => o1 θ1 H1 σ .refl h1 (er.mono g1))⟩
def sRet (fa : Env → M MV) : Env → Sto → SRes := fun ρ => sb (fa ρ) ρ fun v st => .rt v st
theorem ds_ret (ha : DE X cm W a fa) : DS X cm W (.Return (some a) pos) (sRet fa) := by
  obtain ⟨t, pt, qt⟩ := ha
  exact ⟨_, ps_ret pt, fun θ st σ ρ H D h er o => qt θ st σ ρ H _ h er (OutS.bind er o fun v st1 θ1 H1 x g1 h1 r1 o1 => o1 θ1 H1 x .refl h1 r1)⟩
theorem ds_retN : DS X cm W (.Return none pos) (fun _ st => .rt (.d .none) st) := ⟨_, ps_retN, fun θ st σ ρ H D h er o => o θ H _ .refl h DD.non⟩
def sIf (gc : Env → M Bool) (f g : Env → Sto → SRes) : Env → Sto → SRes := fun ρ => sb (gc ρ) ρ fun k st => if k = true then f ρ st else g ρ st
theorem ds_if (hc : DT X cm W c gc) (h1 : DSs X cm W ss f) (h2 : DSs X cm W ts g) : DS X cm W (.If c ss ts pos) (sIf gc f g) := by
  obtain ⟨tc, pc, qc⟩ := hc
  obtain ⟨t, pt, qt⟩ := h1
  obtain ⟨u, pu, qu⟩ := h2
  refine ⟨_, ps_if pc pt pu, fun θ st σ ρ H D h er o => qc θ st σ ρ H _ h er (OutS.bind (RX := RB X.K) er o fun v st1 θ1 H1 x g1 h1 r1 o1 => ?_)⟩
  have r1 : x = v := r1
  subst r1
  cases x with
  | true => exact qt θ1 st1 σ ρ H1 D h1 (er.mono g1) o1
  | false => exact qu θ1 st1 σ ρ H1 D h1 (er.mono g1) o1
def sSet (i : Nat) (fa : Env → M MV) : Env → Sto → SRes := fun ρ => sb (fa ρ) ρ fun v st => .nx (ρ.set i (some v)) st
theorem ds_set {i : Nat} {x : Str} {pos' : Pos} (hN : X.N.Nodup) (hi : X.N[i]? = some x) (hx : Loc X.env.scope x) (ha : DE X cm W e fa) (hs : swapsWith e (some (.Name x pos')) pos.line X.env = pure false := by rfl)
    (hf : X.fn x = true ∨ X.env.scope.names.lookup x = some .local := by first | exact .inl rfl | exact .inr rfl | assumption) : DS X cm W (.Assign [.Name x pos'] e pos) (sSet i fa) := by
  obtain ⟨t, pt, qt⟩ := ha
  exact ⟨_, ps_set hN hi hx pt hs hf, fun θ st σ ρ H D h er o => qt θ st σ ρ H _ h er (OutS.bind er o fun v st1 θ1 H1 x g1 h1 r1 o1 => o1 θ1 H1 _ .refl h1 (ER.set (x := some x) (m := some v) r1 i (er.mono g1)))⟩

end
end Dm

set_option Elab.async false
set_option linter.all false
set_option maxRecDepth 100000
/-! The machine: targets, stores, what is walked, for, while, comprehensions. -/
namespace Dm
open PySem PySem.Spec PyProof.Rows L2

/-! ### targets -/
/-- but for the slots vs all is as it was -/
def Fix (vs : List Nat) (σ σ' : L2.St) : Prop := σ'.length = σ.length ∧ ∀ j, j ∉ vs → σ'[j]? = σ[j]?
theorem Fix.refl {vs : List Nat} {σ : L2.St} : Fix vs σ σ := ⟨rfl, fun _ _ => rfl⟩
theorem Fix.trans {vs ws : List Nat} {σ σ' σ'' : L2.St} (a : Fix vs σ σ') (b : Fix ws σ' σ'') : Fix (vs ++ ws) σ σ'' :=
  ⟨b.1.trans a.1, fun j h => (b.2 j fun z => h (List.mem_append_right _ z)).trans (a.2 j fun z => h (List.mem_append_left _ z))⟩
theorem Fix.set {σ : L2.St} {i : Nat} {x : Option V} : Fix [i] σ (σ.set i x) := ⟨List.length_set, fun j h => List.getElem?_set_ne fun z => h (by rw [z]; exact List.mem_singleton.mpr rfl)⟩
abbrev RFix (K : PySem.W.Frag) (vs : List Nat) (σ : L2.St) : Th → Sto → Hp → L2.St → Env → Prop := fun θ st H σ' ρ' => ER K θ st H σ' ρ' ∧ Fix vs σ σ'
theorem Out.imp {α β : Type} {RX RY : Th → Sto → Hp → β → α → Prop} {cm : Str → Addr} {K : PySem.W.Frag} {W : WX} {θ : Th} {st : Sto} {σ : L2.St} {H : Hp} {Q : β → Hp → Prop} {r : Res α} (o : Out RX cm K W θ st σ H Q r) (h : ∀ θ st H x v, RY θ st H x v → RX θ st H x v) : Out RY cm K W θ st σ H Q r := by
  cases r with
  | ok v s => exact fun θ' H' x g hr r => o θ' H' x g hr (h _ _ _ _ _ r)
  | exc c fs s => exact o
  | bad => exact o
def DGt (X : Cx) (cm : Str → Addr) (tg : Expr) (vs : List Nat) (f : MV → Env → M Env) : Prop :=
  ∃ t, PG X tg t ∧ ∀ W θ st σ ρ H x v Q, HR cm X.K θ st H → ER X.K θ st H σ ρ → RM X.K θ st H x v → Out (RFix X.K vs σ) cm X.K W θ st σ H Q (f v ρ st) → t x σ H Q
def DGs (X : Cx) (cm : Str → Addr) (tgs : List Expr) (vs : List Nat) (f : List MV → Env → M Env) : Prop :=
  ∃ t, PGs X tgs t ∧ ∀ W θ st σ ρ H xs ms Q, HR cm X.K θ st H → ER X.K θ st H σ ρ → RMs X.K θ st H xs ms → Out (RFix X.K vs σ) cm X.K W θ st σ H Q (f ms ρ st) → t xs σ H Q
def gNm (i : Nat) : MV → Env → M Env := fun v ρ => ret (ρ.set i (some v))
def gCons (f : MV → Env → M Env) (g : List MV → Env → M Env) : List MV → Env → M Env := fun vs ρ => match vs with
  | v :: r => bnd (f v ρ) fun ρ' => g r ρ'
  | [] => bad
def gNil : List MV → Env → M Env := fun vs ρ => match vs with
  | [] => ret ρ
  | _ :: _ => bad
def gTup (n : Nat) (g : List MV → Env → M Env) : MV → Env → M Env := fun v ρ st => match tupOf st v with
  | some xs => if xs.length = n then g xs ρ st else .bad
  | none => .bad
section
variable {X : Cx} {cm : Str → Addr} {W : WX} {pos p tpos : Pos} {a b c e o i : Expr} {es : List Expr} {fa fb fo fi fe : Env → M MV} {f : MV → Env → M Env} {g : List MV → Env → M Env}
theorem dg_name {i : Nat} {x : Str} (hN : X.N.Nodup) (hi : X.N[i]? = some x) (hx : Loc X.env.scope x) (hf : X.fn x = true ∨ X.env.scope.names.lookup x = some .local := by first | exact .inl rfl | exact .inr rfl | assumption) : DGt X cm (.Name x pos) [i] (gNm i) :=
  ⟨_, pg_name hN hi hx hf, fun W θ st σ ρ H x v Q h er r o => o.val h ⟨ER.set (x := some x) (m := some v) r i er, Fix.set⟩⟩
theorem dgs_nil : DGs X cm [] [] gNil := by
  refine ⟨_, pgs_nil, fun W θ st σ ρ H xs ms Q h er r o => ?_⟩
  cases r with
  | nil => exact ⟨rfl, o.val h ⟨er, .refl⟩⟩
  | cons _ _ => exact False.elim o
theorem dgs_cons {vs ws : List Nat} (h1 : DGt X cm e vs f) (h2 : DGs X cm es ws g) (hs : (assignEach (e :: es) X.env).map (·.2) = assign e X.env :: (assignEach es X.env).map (·.2) := by rfl) : DGs X cm (e :: es) (vs ++ ws) (gCons f g) := by
  obtain ⟨t, pt, qt⟩ := h1
  obtain ⟨u, pu, qu⟩ := h2
  refine ⟨_, pgs_cons pt pu hs, fun W θ st σ ρ H xs ms Q h er r o => ?_⟩
  cases r with
  | nil => exact False.elim o
  | cons r1 rr =>
    rename_i x v xs ms
    refine ⟨x, xs, rfl, qt W θ st σ ρ H x v _ h er r1 (Out.bind (RX := RFix X.K vs σ) o fun ρ1 st1 θ1 H1 σ1 g1 h1 er1 o1 => ?_)⟩
    exact qu (fun c d _ H => W c d σ H) θ1 st1 σ1 ρ1 H1 xs ms Q h1 er1.1 (RMs.mono g1 rr) (by
      have o1 : Out (RFix X.K (vs ++ ws) σ) cm X.K W θ1 st1 σ H1 Q (g ms ρ1 st1) := o1
      cases q : g ms ρ1 st1 with
      | ok v s => rw [q] at o1; exact fun θ' H' x g hr r => o1 θ' H' x g hr ⟨r.1, er1.2.trans r.2⟩
      | exc c fs s => rw [q] at o1; exact o1
      | bad => rw [q] at o1; exact o1)
theorem dg_tup {vs : List Nat} {k n : Nat} (hc : X.calm = true) (h : DGs X cm es vs g) (hn : (assignEach es X.env).length = n := by rfl) (hst : (assignEach es X.env).findIdx? (·.1) = none := by rfl) : DGt X cm (.Tuple es k pos) vs (gTup n g) := by
  obtain ⟨t, pt, qt⟩ := h
  refine ⟨_, pg_tup hc pt hn hst, fun W θ st σ ρ H x v Q h er r o => ?_⟩
  unfold gTup at o
  split at o
  · rename_i xs ex
    split at o
    · rename_i hl
      obtain ⟨a, ys, rfl, hp, rp⟩ := tup_of h r ex
      exact ⟨a, ys, rfl, .of hp, by rw [rp.len]; exact hl, qt W θ st σ ρ H ys xs Q h er rp o⟩
    · exact False.elim o
  · exact False.elim o

/-! ### o[i] = v -/
def mSetIt (o i v : MV) : M Unit := fun st => match lstAt st o with
  | some (j, xs) => (match asInt i with
    | some k => (match ixN xs.length k with | some n => .ok () (st.put j (.lst (xs.set n v))) | none => .bad)
    | none => .bad)
  | none => match o, dicOf st o, asKey i with
    | .c j, some kvs, some k => if kvs.length < sizeLine then .ok () (st.put j (.dic (putM kvs k v))) else .bad
    | _, _, _ => .bad
abbrev RU : PySem.W.Frag → Th → Sto → Hp → Unit → Unit → Prop := fun _ _ _ _ _ _ => True
theorem PSet.or {t t' : TSet} (h : PSet X t) (h' : PSet X t') : PSet X (fun o i v H Q => t o i v H Q ∨ t' o i v H Q) := by
  intro pins s σ H o i v ov iv u Q I r1 r2 r3 q
  rcases q with q | q
  · exact h pins s σ H o i v ov iv u Q I r1 r2 r3 q
  · exact h' pins s σ H o i v ov iv u Q I r1 r2 r3 q
theorem set_dic (hu : X.A.units + 1 < cLine) : PSet X (fun o i v H Q => ∃ a H4, o = .ref a ∧ DPut H a i v H4 ∧ Q H4) := by
  intro pins s σ H o i v ov iv u Q I r1 r2 r3 q
  obtain ⟨a, H4, rfl, g, q⟩ := q
  cases r1
  exact d_setItem hu I g r2 r3 fun s4 I4 => ⟨H4, I4, q⟩
/-- stores by values -/
def SD (X : Cx) (cm : Str → Addr) : Prop := ∃ t, PSet X t ∧ ∀ W θ st σ H o i v om im vm (Q : Hp → Prop), HR cm X.K θ st H → RM X.K θ st H o om → RM X.K θ st H i im → RM X.K θ st H v vm →
  Out (RU X.K) cm X.K W θ st σ H (fun _ => Q) (mSetIt om im vm st) → t o i v H Q
theorem put_outU {K : PySem.W.Frag} {θ : Th} {st : Sto} {σ : L2.St} {H : Hp} {Q : Unit → Hp → Prop} {i : Nat} {ho : HO} {mo : MO} (h : HR cm K θ st H) (hi : (st.o i).isSome = true) (r : OR cm K θ (st.put i mo) (upd H (θ i) ho) (θ i) ho mo)
    (o : Out (RU K) cm K W θ st σ H Q (.ok () (st.put i mo))) : Q () (upd H (θ i) ho) := by
  exact o θ _ () (gr_put hi _ _) (hr_put h hi r) True.intro
theorem sd (hu : X.A.units + 1 < cLine) : SD X cm := by
  refine ⟨_, PSet.or set_list (set_dic hu), fun W θ st σ H o i v om im vm Q h ro ri rv ot => ?_⟩
  unfold mSetIt at ot
  split at ot
  · rename_i j xs ex
    obtain ⟨ys, rfl, hi, hp, rp⟩ := lst_at h ro ex
    split at ot
    · rename_i k ek
      split at ot
      · rename_i n en
        refine .inl ⟨θ j, ys, k, n, rfl, int_of ri ek, hp, by rw [rp.len]; exact en, ?_⟩
        have gp : Gr θ st H θ (st.put j (.lst (xs.set n vm))) (upd H (θ j) (.lst (ys.set n v))) := gr_put hi _ _
        exact put_outU (ho := .lst (ys.set n v)) (mo := .lst (xs.set n vm)) h hi ⟨_, rfl, RMs.mono gp (RMs.setN rv n rp)⟩ ot
      · exact False.elim ot
    · exact False.elim ot
  · split at ot
    · rename_i j kvs k e2 e0 e1
      split at ot
      · rename_i hz
        obtain ⟨i', a, ws, ei, hi, ea, rfl, hH, rf⟩ := dic_of h ro e1
        cases ei
        subst ea
        have hs : (st.o j).isSome = true := by rw [hi]; rfl
        rw [key_of ri e2]
        refine .inr ⟨θ j, _, rfl, DPut.k hH (by rw [rf.len]; exact hz), ?_⟩
        have gp : Gr θ st H θ (st.put j (.dic (putM kvs k vm))) (upd H (θ j) (.dK (putK ws k v))) := gr_put hs _ _
        exact put_outU (ho := .dK (putK ws k v)) (mo := .dic (putM kvs k vm)) h hs ⟨_, rfl, RFs.mono gp (put_rel rv rf)⟩ ot
      · exact False.elim ot
    · exact False.elim ot
def sSub (fe fo fi : Env → M MV) : Env → Sto → SRes := fun ρ => sb (bnd (fe ρ) fun v => bnd (fo ρ) fun o => bnd (fi ρ) fun i => mSetIt o i v) ρ fun _ st => .nx ρ st
/-- a[i] = e -/
theorem ds_sub (hu : X.A.units + 1 < cLine) (he : DE X cm W e fe) (ho : DE X cm W o fo) (hi : DE X cm W i fi) (hs : swapsWithSole [.Subscript o i tpos] e pos.line X.env = pure false := by rfl) (hw : swappedStores [.Subscript o i tpos] e X.env = pure none := by rfl)
    (h1 : (assignEach [.Subscript o i tpos] X.env).map (·.2) = [assign (.Subscript o i tpos) X.env] := by rfl)
    (ha : ∀ v, assign (.Subscript o i tpos) X.env v = (do
      let ov ← holding [v] (eval o X.env)
      let iv ← holding [v, ov] (eval i X.env)
      standAt tpos
      holding [v, ov, iv] (setItem ov iv v)
      release [v, ov, iv] []) := by intro _; rfl) : DS X cm W (.Assign [.Subscript o i tpos] e pos) (sSub fe fo fi) := by
  obtain ⟨te, pe, qe⟩ := he
  obtain ⟨to, po, qo⟩ := ho
  obtain ⟨ti, pi, qi⟩ := hi
  obtain ⟨t, ps, qs⟩ := sd (X := X) (cm := cm) hu
  refine ⟨_, ps_asg pe (pg_sub po pi ps ha) hs hw h1, fun θ st σ ρ H D h er ot => ?_⟩
  have o1 : Out (RU X.K) cm X.K W θ st σ H (fun _ H' => D.nx σ H') (bnd (fe ρ) (fun v => bnd (fo ρ) fun o => bnd (fi ρ) fun i => mSetIt o i v) st) :=
    OutS.bind er ot fun v st1 θ1 H1 x g1 h1 r1 o1 => o1 θ1 H1 σ .refl h1 (er.mono g1)
  refine qe θ st σ ρ H _ h er (o1.bind fun v st1 θ1 H1 x g1 h1 r1 o2 => ?_)
  refine qo θ1 st1 σ ρ H1 _ h1 (er.mono g1) (o2.bind fun ov st2 θ2 H2 y g2 h2 r2 o3 => ?_)
  refine qi θ2 st2 σ ρ H2 _ h2 ((er.mono g1).mono g2) (o3.bind fun iv st3 θ3 H3 z g3 h3 r3 o4 => ?_)
  exact qs W θ3 st3 σ H3 y z x ov iv v _ h3 (r2.mono g3) r3 (r1.mono (g2.trans g3)) o4
/-- target = e -/
def sAsg (fe : Env → M MV) (g : MV → Env → M Env) : Env → Sto → SRes := fun ρ => sb (bnd (fe ρ) fun v => g v ρ) ρ fun ρ' st => .nx ρ' st
theorem ds_asg {tg : Expr} {vs : List Nat} (he : DE X cm W e fe) (hg : DGt X cm tg vs f) (hs : swapsWithSole [tg] e pos.line X.env = pure false := by rfl) (hw : swappedStores [tg] e X.env = pure none := by rfl)
    (h1 : (assignEach [tg] X.env).map (·.2) = [assign tg X.env] := by rfl) : DS X cm W (.Assign [tg] e pos) (sAsg fe f) := by
  obtain ⟨te, pe, qe⟩ := he
  obtain ⟨tt, pt, qt⟩ := hg
  refine ⟨_, ps_asg pe pt hs hw h1, fun θ st σ ρ H D h er ot => ?_⟩
  have o1 : Out (ER X.K) cm X.K W θ st σ H D.nx (bnd (fe ρ) (fun v => f v ρ) st) := OutS.bind er ot fun v st1 θ1 H1 x g1 h1 r1 o1 => o1 θ1 H1 x .refl h1 r1
  exact qe θ st σ ρ H _ h er (o1.bind fun v st1 θ1 H1 x g1 h1 r1 o2 => qt W θ1 st1 σ ρ H1 x v _ h1 (er.mono g1) r1 (Out.imp (RX := ER X.K) o2 fun _ _ _ _ _ r => r.1))
/-- a, b = e1, e2 with plain local names -/
def sPar (i j : Nat) (gs : Env → M (List MV)) : Env → Sto → SRes := fun ρ => sb (gs ρ) ρ fun vs st => match vs with
  | [v, w] => .nx ((ρ.set i (some v)).set j (some w)) st
  | _ => .bad
theorem ds_par {i j : Nat} {x y : Str} {a b : Expr} {gs : Env → M (List MV)} {px py pt : Pos} {kt k2 pt2} (hc : X.calm = true) (hN : X.N.Nodup) (hi : X.N[i]? = some x) (hj : X.N[j]? = some y) (hij : i ≠ j)
    (hx : X.env.scope.names.lookup x = some .local) (hy : X.env.scope.names.lookup y = some .local) (ha : DA X cm W [a, b] gs)
    (hw : swappedStores [.Tuple [.Name x px, .Name y py] kt pt] (.Tuple [a, b] k2 pt2) X.env = pure (some [x, y]) := by rfl)
    (hs : swapsWithSole [.Tuple [.Name x px, .Name y py] kt pt] (.Tuple [a, b] k2 pt2) pos.line X.env = pure false := by rfl) :
    DS X cm W (.Assign [.Tuple [.Name x px, .Name y py] kt pt] (.Tuple [a, b] k2 pt2) pos) (sPar i j gs) := by
  obtain ⟨t, pt, qt⟩ := ha
  refine ⟨_, ps_par hc hN hi hj hij hx hy pt hw hs, fun θ st σ ρ H D h er ot => qt θ st σ ρ H _ h er (OutS.bind (RX := RMs X.K) er ot fun vs st1 θ1 H1 xs g1 h1 r1 o1 => ?_)⟩
  match vs, r1, o1 with
  | [v, w], r1, o1 =>
    obtain ⟨x, y, rfl, rx, ry⟩ := rms2 r1
    exact ⟨x, y, rfl, o1 θ1 H1 _ .refl h1 (ER.set (x := some y) (m := some w) ry j (ER.set (x := some x) (m := some v) rx i (er.mono g1)))⟩
  | [], _, o1 => exact False.elim o1
  | [_], _, o1 => exact False.elim o1
  | _ :: _ :: _ :: _, _, o1 => exact False.elim o1
/-- name op= e -/
def sAug (i : Nat) (g : MV → MV → M MV) (fe : Env → M MV) : Env → Sto → SRes := fun ρ => sb (bnd (mVar i ρ) fun x => bnd (fe ρ) fun y => g x y) ρ fun v st => .nx (ρ.set i (some v)) st
theorem ds_aug {i : Nat} {x : Str} {op : Operator} {g : MV → MV → M MV} {pos' : Pos} (hN : X.N.Nodup) (hi : X.N[i]? = some x) (hx : Loc X.env.scope x) (ho : OD X cm (inplaceOp op) g) (he : DE X cm W e fe) (hf : X.fn x = true ∨ X.env.scope.names.lookup x = some .local := by first | exact .inl rfl | exact .inr rfl | assumption) :
    DS X cm W (.AugAssign (.Name x pos') op e pos) (sAug i g fe) := by
  obtain ⟨te, pe, qe⟩ := he
  obtain ⟨r, hr, qr⟩ := ho
  refine ⟨_, ps_aug hN hi hx pe hr hf, fun θ st σ ρ H D h er ot => ?_⟩
  have o1 : Out (RM X.K) cm X.K W θ st σ H (fun z H2 => D.nx (σ.set i (some z)) H2) (bnd (mVar i ρ) (fun x => bnd (fe ρ) fun y => g x y) st) :=
    OutS.bind er ot fun v st1 θ1 H1 x g1 h1 r1 o1 => o1 θ1 H1 _ .refl h1 (ER.set (x := some x) (m := some v) r1 i (er.mono g1))
  unfold bnd mVar at o1
  cases q : ρ[i]? with
  | none => simp only [q] at o1; exact False.elim o1
  | some qq =>
    cases qq with
    | none => simp only [q] at o1; exact False.elim o1
    | some m =>
      simp only [q] at o1
      obtain ⟨v, e', rv⟩ := er.get q
      exact ⟨v, e', qe θ st σ ρ H _ h er (Out.bind (k := fun y => g m y) o1 fun y st2 θ2 H2 yv g2 h2 r2 o2 => qr W θ2 st2 σ H2 v yv m y _ h2 (rv.mono g2) r2 o2)⟩
abbrev mIAdd := mI2 (fun _ _ => true) (fun i j => i + j)
abbrev mISub := mI2 (fun _ _ => true) (fun i j => i - j)
theorem iop_add' : OpR X (inplaceOp .Add) (rI (fun _ _ => True) fun i j => .int (i + j)) := by
  intro pins s σ H x y v u Q I rx ry h
  obtain ⟨i, j, e1, e2, _, q⟩ := h
  exact iop_add pins s σ H x y v u Q I rx ry ⟨i, j, e1, e2, q⟩
theorem iop_sub' : OpR X (inplaceOp .Sub) (rI (fun _ _ => True) fun i j => .int (i - j)) := by
  intro pins s σ H x y v u Q I rx ry h
  obtain ⟨i, j, e1, e2, _, q⟩ := h
  exact iop_sub pins s σ H x y v u Q I rx ry ⟨i, j, e1, e2, q⟩
theorem od_iadd : OD X cm (inplaceOp .Add) mIAdd := od_i2 iop_add' fun _ _ _ => True.intro
theorem od_isub : OD X cm (inplaceOp .Sub) mISub := od_i2 iop_sub' fun _ _ _ => True.intro
/-- a[i] as a value, the item of a list or a dict -/
theorem get_list : PGet X (rIxL X.K) := by
  intro pins s σ H o i ov iv Q I ro ri h
  obtain ⟨p, xs, k, z, rfl, rfl, hq, he, q⟩ := h
  cases ro
  obtain ⟨t, rfl⟩ := ri
  obtain ⟨its, rv, pl, hz⟩ := I.list hq
  obtain ⟨j, e1, e2, e3, e4, e5⟩ := atI_get he
  obtain ⟨w, ew, rw'⟩ := rv.get e2
  have hl := rv.length
  have hn := line63
  by_cases h0 : 0 ≤ k
  · have hj : k.toNat = j := by
      rw [seqIndex_of h0 e5] at e1
      exact Option.some.inj e1
    exact wpAny_getItem_list pl.isList h0 (by omega) (by rw [hj]; simpa using ew) ⟨z, H, I, rw', q⟩
  · have hj : (k + (its.toArray.size : Int)).toNat = j := by
      rw [seqIndex_neg (by omega) e4] at e1
      rw [List.size_toArray, ← hl]
      exact Option.some.inj e1
    exact wpAny_getItem_list_neg pl.isList (by omega) (by rw [List.size_toArray] <;> omega) (by omega) (by rw [hj]; simpa using ew) ⟨z, H, I, rw', q⟩
theorem get_dic (hu : X.A.units + 1 < cLine) : PGet X (fun o i H Q => ∃ a v, o = .ref a ∧ DGet H a i (some v) ∧ Q v H) := by
  intro pins s σ H o i ov iv Q I ro ri h
  obtain ⟨a, v, rfl, g, q⟩ := h
  cases ro
  exact d_getItem hu I g ri fun w' s' I' r' => ⟨v, H, I', r', q⟩
theorem PGet.or {t t' : V → V → Hp → VK → Prop} (h : PGet X t) (h' : PGet X t') : PGet X (fun o i H Q => t o i H Q ∨ t' o i H Q) := by
  intro pins s σ H o i ov iv Q I r1 r2 q
  rcases q with q | q
  · exact h pins s σ H o i ov iv Q I r1 r2 q
  · exact h' pins s σ H o i ov iv Q I r1 r2 q
def mGetIt (x y : MV) : M MV := fun st => match dicOf st x with
  | some kvs => (match asKey y with
    | some k => (match look kvs k with | some m => .ok m st | none => .bad)
    | none => .bad)
  | none => match asInt y, listOf st x with
    | some i, some xs => (match atI xs i with | some m => .ok m st | none => .bad)
    | _, _ => .bad
theorem gd (hu : X.A.units + 1 < cLine) : ∃ t, PGet X t ∧ ∀ W θ st σ H o i om im Q, HR cm X.K θ st H → RM X.K θ st H o om → RM X.K θ st H i im → Out (RM X.K) cm X.K W θ st σ H Q (mGetIt om im st) → t o i H Q := by
  refine ⟨_, PGet.or get_list (get_dic hu), fun W θ st σ H x y v u Q h rx ry o => ?_⟩
  unfold mGetIt at o
  split at o
  · rename_i kvs ek
    obtain ⟨i, a, ws, _, hi, ea, rfl, hH, rf⟩ := dic_of h rx ek
    split at o
    · rename_i k eky
      split at o
      · rename_i m el
        rw [key_of ry eky]
        rcases look_of k rf with ⟨l1, l2⟩ | ⟨m', w, l1, l2, rm⟩
        · rw [l1] at el; cases el
        · rw [l1] at el; cases el
          exact .inr ⟨_, w, rfl, by rw [← l2]; exact DGet.k hH, o.val h rm⟩
      · exact False.elim o
    · exact False.elim o
  · split at o
    · rename_i i xs ei ex
      split at o
      · rename_i m em
        obtain ⟨p, ys, rfl, hp, rp⟩ := list_of h rx ex
        obtain ⟨w, e1, rw'⟩ := atI_rel rp em
        exact .inl ⟨p, ys, i, w, rfl, int_of ry ei, .of hp, e1, o.val h rw'⟩
      · exact False.elim o
    · exact False.elim o
/-- a[i] op= e -/
def sAugS (g : MV → MV → M MV) (fo fi fe : Env → M MV) : Env → Sto → SRes := fun ρ => sb (bnd (fo ρ) fun o => bnd (fi ρ) fun i => bnd (mGetIt o i) fun x => bnd (fe ρ) fun y => bnd (g x y) fun z => mSetIt o i z) ρ fun _ st => .nx ρ st
theorem ds_augS {op : Operator} {g : MV → MV → M MV} (hu : X.A.units + 1 < cLine) (hop : OD X cm (inplaceOp op) g) (ho : DE X cm W o fo) (hi : DE X cm W i fi) (he : DE X cm W e fe)
    (ha : ∀ ov iv new, augStore i ov iv new = (do holding [new, ov, iv] (setItem ov iv new); release [new, ov, iv] []; pure .next) := by intros; rfl) : DS X cm W (.AugAssign (.Subscript o i tpos) op e pos) (sAugS g fo fi fe) := by
  obtain ⟨te, pe, qe⟩ := he
  obtain ⟨to, po, qo⟩ := ho
  obtain ⟨ti, pi, qi⟩ := hi
  obtain ⟨t, ps, qs⟩ := sd (X := X) (cm := cm) hu
  obtain ⟨tg, pg, qg⟩ := gd (X := X) (cm := cm) hu
  obtain ⟨r, hr, qr⟩ := hop
  refine ⟨_, ps_augS po pi pg pe hr ps ha, fun θ st σ ρ H D h er ot => ?_⟩
  have o1 : Out (RU X.K) cm X.K W θ st σ H (fun _ H' => D.nx σ H') (bnd (fo ρ) (fun o => bnd (fi ρ) fun i => bnd (mGetIt o i) fun x => bnd (fe ρ) fun y => bnd (g x y) fun z => mSetIt o i z) st) :=
    OutS.bind er ot fun v st1 θ1 H1 x g1 h1 r1 o1 => o1 θ1 H1 σ .refl h1 (er.mono g1)
  refine qo θ st σ ρ H _ h er (o1.bind fun ov st1 θ1 H1 x1 g1 h1 r1 o2 => ?_)
  refine qi θ1 st1 σ ρ H1 _ h1 (er.mono g1) (o2.bind fun iv st2 θ2 H2 x2 g2 h2 r2 o3 => ?_)
  refine qg W θ2 st2 σ H2 x1 x2 ov iv _ h2 (r1.mono g2) r2 (o3.bind fun old st3 θ3 H3 x3 g3 h3 r3 o4 => ?_)
  refine qe θ3 st3 σ ρ H3 _ h3 (((er.mono g1).mono g2).mono g3) (o4.bind fun y st4 θ4 H4 x4 g4 h4 r4 o5 => ?_)
  refine qr W θ4 st4 σ H4 x3 x4 old y _ h4 (r3.mono g4) r4 (o5.bind fun z st5 θ5 H5 x5 g5 h5 r5 o6 => ?_)
  exact qs W θ5 st5 σ H5 x1 x2 x5 ov iv z _ h5 (r1.mono (((g2.trans g3).trans g4).trans g5)) (r2.mono ((g3.trans g4).trans g5)) r5 o6
end
end Dm

set_option Elab.async false
set_option linter.all false
set_option maxRecDepth 100000
/-! The machine: what is walked, for, while, comprehensions. -/
namespace Dm
open PySem PySem.Spec PyProof.Rows L2

/-! ### what is walked: what each turn gives, and when the thing walked is still as it was -/
structure ItM where
  ys : List (M MV)
  ok : Sto → Prop
/-- the machine's turns stand for the iterator's -/
structure ItR (cm : Str → Addr) (K : PySem.W.Frag) (θ : Th) (st : Sto) (H : Hp) (J : It) (I : ItM) : Prop where
  goes : ∀ θ' st' H' i, Gr θ st H θ' st' H' → HR cm K θ' st' H' → I.ok st' → i < I.ys.length → J.go i H'
  stops : ∀ θ' st' H', Gr θ st H θ' st' H' → HR cm K θ' st' H' → I.ok st' → J.stop I.ys.length H'
  yields : ∀ θ' st' H' i y x H'', Gr θ st H θ' st' H' → HR cm K θ' st' H' → I.ok st' → I.ys[i]? = some y → J.yld i H' x H'' → y st' ≠ .bad → ∃ θ'' st'' v, y st' = .ok v st'' ∧ Gr θ' st' H' θ'' st'' H'' ∧ HR cm K θ'' st'' H'' ∧ RM K θ'' st'' H'' x v
def DI (X : Cx) (cm : Str → Addr) (W : WX) (tg iter : Expr) (f : Env → M ItM) : Prop :=
  DG (fun K θ st H J I => ItR cm K θ st H J I) X cm W (PI X tg iter) f
open Classical in
/-- for target in ..: body -/
noncomputable def mFor (ok : Sto → Prop) (g : MV → Env → M Env) (body : Env → Sto → SRes) : List (M MV) → Env → Sto → SRes
  | [], ρ, st => if ok st then .nx ρ st else .bad
  | y :: ys, ρ, st => if ok st then sb (bnd y fun v => g v ρ) ρ (fun ρ1 st1 => match body ρ1 st1 with
    | .nx ρ2 st2 => mFor ok g body ys ρ2 st2
    | .ct ρ2 st2 => mFor ok g body ys ρ2 st2
    | .bk ρ2 st2 => .nx ρ2 st2
    | r => r) st else .bad
noncomputable def sFor (fi : Env → M ItM) (g : MV → Env → M Env) (body : Env → Sto → SRes) : Env → Sto → SRes := fun ρ => sb (fi ρ) ρ fun I st => mFor I.ok g body I.ys ρ st
section
variable {X : Cx} {cm : Str → Addr} {W : WX} {pos p tpos : Pos} {tg iter a b c e o i elt : Expr} {es ifs : List Expr} {ss : List Stmt} {fa fb fo fe : Env → M MV} {gs : Env → M (List MV)} {fi : Env → M ItM} {g : MV → Env → M Env} {body : Env → Sto → SRes} {gc : Env → M Bool}
theorem ds_for (hp : PassesOwn (model X.prog X.w) X.A X.env X.xe) (hc : X.calm = true) {vs : List Nat} (hi : DI X cm W tg iter fi) (hg : DGt X cm tg vs g) (hb : DSs X cm W ss body) (hs : ∀ x, foldedSetIterable iter X.env x = pure x := by intro _; rfl) : DS X cm W (.For tg iter ss [] pos) (sFor fi g body) := by
  obtain ⟨ti, pi, qi⟩ := hi
  obtain ⟨tt, pt, qt⟩ := hg
  obtain ⟨tb, pb, qb⟩ := hb
  refine ⟨_, ps_for hp hc pi pt pb hs, fun θ st σ ρ H D h er o => qi θ st σ ρ H _ h er (OutS.bind (RX := fun θ st H J I => ItR cm X.K θ st H J I) er o fun I st1 θ1 H1 J g1 h1 ir o1 => ?_)⟩
  have er1 := er.mono g1
  -- what holds ahead of turn k: the rest of the machine's loop gives what is wanted
  refine ⟨fun k m σ' H' => m = I.ys.length - k ∧ k ≤ I.ys.length ∧ ∃ θ' st' ρ', Gr θ1 st1 H1 θ' st' H' ∧ HR cm X.K θ' st' H' ∧ ER X.K θ' st' H' σ' ρ' ∧ OutS cm X.K W θ' st' H' D (mFor I.ok g body (I.ys.drop k) ρ' st'), ⟨_, rfl, Nat.zero_le _, θ1, st1, ρ, .refl, h1, er1, by rw [List.drop_zero]; exact o1⟩, ?_⟩
  rintro k m σ' H' ⟨rfl, hk, θ', st', ρ', g', h', er', o'⟩
  by_cases hlt : k < I.ys.length
  · rw [List.drop_eq_getElem_cons hlt] at o'
    have ey : I.ys[k]? = some I.ys[k] := List.getElem?_eq_getElem hlt
    unfold mFor at o'
    split at o'
    · rename_i hok
      refine .inr ⟨ir.goes θ' st' H' k g' h' hok hlt, fun σ2 H2 => k + 1 ≤ I.ys.length ∧ ∃ θ2 st2 ρ2, Gr θ1 st1 H1 θ2 st2 H2 ∧ HR cm X.K θ2 st2 H2 ∧ ER X.K θ2 st2 H2 σ2 ρ2 ∧ OutS cm X.K W θ2 st2 H2 D (mFor I.ok g body (I.ys.drop (k + 1)) ρ2 st2), fun σ2 H2 q => ⟨I.ys.length - (k + 1), by omega, rfl, q⟩, fun x H2 yl => ?_⟩
      have nb : (I.ys[k]) st' ≠ .bad := fun z => by
        unfold sb bnd at o'
        simp only [z] at o'
        exact o'
      obtain ⟨θ2, st2, v, e2, g2, h2, r2⟩ := ir.yields θ' st' H' k _ x H2 g' h' hok ey yl nb
      have er2 := er'.mono g2
      have o2 : OutS cm X.K W θ2 st2 H2 D (sb (g v ρ') ρ' (fun ρ1 st1 => match body ρ1 st1 with
        | .nx ρ2 st2 => mFor I.ok g body (I.ys.drop (k + 1)) ρ2 st2
        | .ct ρ2 st2 => mFor I.ok g body (I.ys.drop (k + 1)) ρ2 st2
        | .bk ρ2 st2 => .nx ρ2 st2
        | r => r) st2) := by
        have z := OutS.up g2 o'
        unfold sb bnd at z
        simp only [e2] at z
        exact z
      refine qt W θ2 st2 σ' ρ' H2 x v _ h2 er2 r2 (Out.imp (RX := ER X.K) (OutS.bind (RX := ER X.K) er2 o2 fun ρ3 st3 θ3 H3 σ3 g3 h3 er3 o3 => ?_) fun _ _ _ _ _ r => r.1)
      refine qb θ3 st3 σ3 ρ3 H3 _ h3 er3 ?_
      have gg : Gr θ1 st1 H1 θ3 st3 H3 := (g'.trans g2).trans g3
      cases q : body ρ3 st3 with
      | nx ρ4 st4 =>
        rw [q] at o3
        exact fun θ4 H4 σ4 g4 h4 er4 => ⟨hlt, θ4, st4, ρ4, gg.trans g4, h4, er4, OutS.up g4 o3⟩
      | ct ρ4 st4 =>
        rw [q] at o3
        exact fun θ4 H4 σ4 g4 h4 er4 => ⟨hlt, θ4, st4, ρ4, gg.trans g4, h4, er4, OutS.up g4 o3⟩
      | bk ρ4 st4 => rw [q] at o3; exact o3
      | rt v st4 => rw [q] at o3; exact o3
      | exc c fs ρ4 st4 => rw [q] at o3; exact o3
      | bad => rw [q] at o3; exact o3
    · exact False.elim o'
  · have e : k = I.ys.length := by omega
    subst e
    rw [List.drop_length] at o'
    unfold mFor at o'
    split at o'
    · rename_i hok
      exact .inl ⟨ir.stops θ' st' H' g' h' hok, o' θ' H' σ' .refl h' er'⟩
    · exact False.elim o'
/-! ### while -/
def mWhile (gc : Env → M Bool) (body : Env → Sto → SRes) : Nat → Env → Sto → SRes
  | 0, _, _ => .bad
  | n + 1, ρ, st => sb (gc ρ) ρ (fun k st1 => if k = true then (match body ρ st1 with
    | .nx ρ2 st2 => mWhile gc body n ρ2 st2
    | .ct ρ2 st2 => mWhile gc body n ρ2 st2
    | .bk ρ2 st2 => .nx ρ2 st2
    | r => r) else .nx ρ st1) st
theorem ds_while (n : Nat) (hp : PassesOwn (model X.prog X.w) X.A X.env X.xe) (hc : DT X cm W c gc) (hb : DSs X cm W ss body) : DS X cm W (.While c ss [] pos) (mWhile gc body n) := by
  obtain ⟨tc, pc, qc⟩ := hc
  obtain ⟨tb, pb, qb⟩ := hb
  refine ⟨_, ps_while hp pc pb, fun θ st σ ρ H D h er o => ?_⟩
  refine ⟨fun m σ' H' => ∃ θ' st' ρ', HR cm X.K θ' st' H' ∧ ER X.K θ' st' H' σ' ρ' ∧ OutS cm X.K W θ' st' H' D (mWhile gc body m ρ' st'), ⟨n, θ, st, ρ, h, er, o⟩, ?_⟩
  rintro m σ' H' ⟨θ', st', ρ', h', er', o'⟩
  cases m with
  | zero => exact False.elim o'
  | succ m =>
    unfold mWhile at o'
    refine qc θ' st' σ' ρ' H' _ h' er' (OutS.bind (RX := RB X.K) er' o' fun k st1 θ1 H1 b g1 h1 r1 o1 => ?_)
    have r1 : b = k := r1
    subst r1
    cases b with
    | true =>
      rw [if_pos rfl] at o1 ⊢
      refine ⟨fun σ2 H2 => ∃ θ2 st2 ρ2, HR cm X.K θ2 st2 H2 ∧ ER X.K θ2 st2 H2 σ2 ρ2 ∧ OutS cm X.K W θ2 st2 H2 D (mWhile gc body m ρ2 st2), fun σ2 H2 q => ⟨m, Nat.lt_succ_self _, q⟩, qb θ1 st1 σ' ρ' H1 _ h1 (er'.mono g1) ?_⟩
      cases q : body ρ' st1 with
      | nx ρ4 st4 =>
        rw [q] at o1
        exact fun θ4 H4 σ4 g4 h4 er4 => ⟨θ4, st4, ρ4, h4, er4, OutS.up g4 o1⟩
      | ct ρ4 st4 =>
        rw [q] at o1
        exact fun θ4 H4 σ4 g4 h4 er4 => ⟨θ4, st4, ρ4, h4, er4, OutS.up g4 o1⟩
      | bk ρ4 st4 => rw [q] at o1; exact o1
      | rt v st4 => rw [q] at o1; exact o1
      | exc c fs ρ4 st4 => rw [q] at o1; exact o1
      | bad => rw [q] at o1; exact o1
    | false =>
      rw [if_neg Bool.false_ne_true] at o1 ⊢
      exact o1 θ1 H1 σ' .refl h1 (er'.mono g1)

/-! ### the iterables -/
/-- the items of a list or a tuple -/
def itSeq (fa : Env → M MV) : Env → M ItM := fun ρ => bnd (fa ρ) fun v st => match seqOf st v with
  | some xs => .ok ⟨xs.map fun x => ret x, fun s => seqOf s v = some xs⟩ st
  | none => .bad
theorem ret_get {xs : List MV} {i : Nat} {y : M MV} (e : (xs.map fun x => (ret x : M MV))[i]? = some y) : ∃ x, xs[i]? = some x ∧ y = ret x := by
  rw [List.getElem?_map] at e
  cases q : xs[i]? with
  | none => rw [q] at e; cases e
  | some x => rw [q] at e; cases e; exact ⟨x, rfl, rfl⟩
theorem seq_stays {K : PySem.W.Frag} {θ θ' : Th} {st st' : Sto} {H H' : Hp} {x : V} {v : MV} {xs : List MV} (h : HR cm K θ' st' H') (g : Gr θ st H θ' st' H') (r : RM K θ st H x v) (e : seqOf st' v = some xs) :
    ∃ p ys, x = .ref p ∧ (H' p = some (.lst ys) ∨ H' p = some (.tup ys)) ∧ RMs K θ' st' H' ys xs := seq_of h (r.mono g) e
/-- a walk whose items stand in a sequence -/
theorem itr_of {K : PySem.W.Frag} {θ : Th} {st : Sto} {H : Hp} {J : It} {xs : List MV} {ok : Sto → Prop}
    (hw : ∀ θ' st' H', Gr θ st H θ' st' H' → HR cm K θ' st' H' → ok st' → ∃ vs G, RMs K θ' st' H' vs xs ∧ G H' ∧ Walk J vs.length G (YAt vs)) : ItR cm K θ st H J ⟨xs.map fun x => ret x, ok⟩ := by
  refine ⟨fun θ' st' H' i g h k hi => ?_, fun θ' st' H' g h k => ?_, fun θ' st' H' i y x H'' g h k e yl nb => ?_⟩
  · obtain ⟨vs, G, r, gh, w⟩ := hw θ' st' H' g h k
    refine w.goes i H' ?_ gh
    rw [r.len]
    simpa using hi
  · obtain ⟨vs, G, r, gh, w⟩ := hw θ' st' H' g h k
    have z := w.stops H' gh
    rw [r.len] at z
    rw [List.length_map]
    exact z
  · obtain ⟨vs, G, r, gh, w⟩ := hw θ' st' H' g h k
    obtain ⟨m, em, rfl⟩ := ret_get e
    have hi : i < vs.length := by
      rw [r.len]
      exact (List.getElem?_eq_some_iff.mp em).1
    obtain ⟨e1, e2⟩ := w.yields i H' x H'' hi gh yl
    subst e1
    obtain ⟨v, ev, rv⟩ := r.get em
    rw [e2] at ev
    cases ev
    exact ⟨θ', st', m, rfl, .refl, h, rv⟩
theorem seq_of2 {K : PySem.W.Frag} {θ : Th} {st : Sto} {H : Hp} {p : Addr} {v : MV} {xs : List MV} {ys : List V} (h : HR cm K θ st H) (r : RM K θ st H (.ref p) v) (e : seqOf st v = some xs) : (∃ ys, H p = some (.lst ys) ∧ RMs K θ st H ys xs) ∨ ∃ ys, H p = some (.tup ys) ∧ RMs K θ st H ys xs := by
  obtain ⟨p', ys, e1, hp, rp⟩ := seq_of h r e
  cases e1
  rcases hp with hp | hp
  · exact .inl ⟨ys, hp, rp⟩
  · exact .inr ⟨ys, hp, rp⟩
/-- a list is walked -/
def itList (fa : Env → M MV) : Env → M ItM := fun ρ => bnd (fa ρ) fun v st => match listOf st v with
  | some xs => .ok ⟨xs.map fun x => ret x, fun s => listOf s v = some xs⟩ st
  | none => .bad
theorem di_list (ha : DE X cm W a fa) : DI X cm W tg a (itList fa) := by
  obtain ⟨ta, pa, qa⟩ := ha
  refine ⟨_, pi_list pa, fun θ st σ ρ H Q h er o => qa θ st σ ρ H _ h er (o.bind fun v st1 θ1 H1 x g1 h1 r1 o1 => ?_)⟩
  cases q : listOf st1 v with
  | none => simp only [q] at o1; exact False.elim o1
  | some xs =>
    simp only [q] at o1
    obtain ⟨p, ys, rfl, hp, rp⟩ := list_of h1 r1 q
    refine ⟨p, rfl, ⟨ys, .of hp⟩, o1.val h1 (itr_of fun θ' st' H' g h k => ?_)⟩
    obtain ⟨p', zs, e1, hp', rp'⟩ := list_of h (r1.mono g) k
    cases e1
    exact ⟨zs, fun H => SqL X.K H p zs, rp', .of hp', walk_list⟩
def itTup (fa : Env → M MV) : Env → M ItM := fun ρ => bnd (fa ρ) fun v st => match tupOf st v with
  | some xs => .ok ⟨xs.map fun x => ret x, fun s => tupOf s v = some xs⟩ st
  | none => .bad
theorem di_tup (ha : DE X cm W a fa) : DI X cm W tg a (itTup fa) := by
  obtain ⟨ta, pa, qa⟩ := ha
  refine ⟨_, pi_tup pa, fun θ st σ ρ H Q h er o => qa θ st σ ρ H _ h er (o.bind fun v st1 θ1 H1 x g1 h1 r1 o1 => ?_)⟩
  cases q : tupOf st1 v with
  | none => simp only [q] at o1; exact False.elim o1
  | some xs =>
    simp only [q] at o1
    obtain ⟨p, ys, rfl, hp, rp⟩ := tup_of h1 r1 q
    refine ⟨p, rfl, ⟨ys, .of hp⟩, o1.val h1 (itr_of fun θ' st' H' g h k => ?_)⟩
    obtain ⟨p', zs, e1, hp', rp'⟩ := tup_of h (r1.mono g) k
    cases e1
    exact ⟨zs, fun H => SqT X.K H p zs, rp', .of hp', walk_tup⟩
/-- range(n) -/
def upTo (lo : Int) (n : Nat) : List MV := (List.range n).map fun (k : Nat) => MV.d (.int (lo + (k : Int)))
def itRange1 (gs : Env → M (List MV)) : Env → M ItM := fun ρ => bnd (gs ρ) fun vs st => match vs with
  | [x] => (match asInt x with
    | some j => if -(2 ^ 62) ≤ j ∧ j < 2 ^ 62 then .ok ⟨(upTo 0 j.toNat).map fun x => ret x, fun _ => True⟩ st else .bad
    | none => .bad)
  | _ => .bad
theorem itr_range {K : PySem.W.Frag} {θ : Th} {st : Sto} {H : Hp} (lo : Int) (n : Nat) : ItR cm K θ st H (Itr lo n) ⟨(upTo lo n).map fun x => ret x, fun _ => True⟩ := by
  refine ⟨fun θ' st' H' i g h k hi => ?_, fun θ' st' H' g h k => ?_, fun θ' st' H' i y x H'' g h k e yl nb => ?_⟩
  · have z : i < n := by simpa [upTo] using hi
    exact z
  · show n ≤ _
    simp [upTo]
  · obtain ⟨m, em, rfl⟩ := ret_get e
    obtain ⟨e1, e2⟩ := yl
    subst e1 e2
    unfold upTo at em
    rw [List.getElem?_map] at em
    cases q : (List.range n)[i]? with
    | none => rw [q] at em; cases em
    | some k =>
      rw [q] at em
      have hk : k = i := by
        obtain ⟨h1, h2⟩ := List.getElem?_eq_some_iff.mp q
        rw [List.getElem_range] at h2
        exact h2.symm
      cases em
      subst hk
      exact ⟨θ', st', _, rfl, .refl, h, .int _⟩
theorem di_range1 (hg : Gl X "range") (hm : X.mg "range" = none) (ha : DA X cm W [a] gs) (hs : starEach [a] X.env = [(false, eval a X.env)] := by rfl) : DI X cm W tg (.Call (.Name "range" p) [a] [] pos) (itRange1 gs) := by
  obtain ⟨ta, pa, qa⟩ := ha
  refine ⟨_, pi_range1 hg hm pa hs, fun θ st σ ρ H Q h er o => qa θ st σ ρ H _ h er (o.bind fun vs st1 θ1 H1 xs g1 h1 r1 o1 => ?_)⟩
  match vs, r1, o1 with
  | [m], r1, o1 =>
    obtain ⟨x, rfl, rx⟩ := rms1 r1
    cases q : asInt m with
    | none => simp only [q] at o1; exact False.elim o1
    | some j =>
      simp only [q] at o1
      split at o1
      · rename_i hj
        exact ⟨j, by rw [int_of rx q], hj.1, hj.2, o1.val h1 (itr_range 0 j.toNat)⟩
      · exact False.elim o1
  | [], _, o1 => exact False.elim o1
  | _ :: _ :: _, _, o1 => exact False.elim o1
/-- a text, sign by sign -/
def signs (z : Str) : List MV := z.cps.toList.map fun (c : Nat) => MV.d (.str ⟨#[c]⟩)
def itStr (fa : Env → M MV) : Env → M ItM := fun ρ => bnd (fa ρ) fun v st => match asStr v with
  | some z => .ok ⟨(signs z).map fun x => ret x, fun _ => True⟩ st
  | none => .bad
theorem di_str (ha : DE X cm W a fa) : DI X cm W tg a (itStr fa) := by
  obtain ⟨ta, pa, qa⟩ := ha
  refine ⟨_, pi_str pa, fun θ st σ ρ H Q h er o => qa θ st σ ρ H _ h er (o.bind fun v st1 θ1 H1 x g1 h1 r1 o1 => ?_)⟩
  cases q : asStr v with
  | none => simp only [q] at o1; exact False.elim o1
  | some z =>
    simp only [q] at o1
    refine ⟨z, str_of r1 q, o1.val h1 ⟨fun θ' st' H' i g h k hi => ?_, fun θ' st' H' g h k => ?_, fun θ' st' H' i y x H'' g h k e yl nb => ?_⟩⟩
    · have z : i < z.cps.size := by simpa [signs] using hi
      exact z
    · show z.cps.size ≤ _
      simp [signs]
    · obtain ⟨m, em, rfl⟩ := ret_get e
      obtain ⟨e1, c, ec, e2⟩ := yl
      subst e1 e2
      unfold signs at em
      rw [List.getElem?_map] at em
      have ec' : z.cps.toList[i]? = some c := by simpa using ec
      rw [ec'] at em
      cases em
      exact ⟨θ', st', _, rfl, .refl, h, .str _⟩
/-- pairs: each turn lays a new tuple -/
theorem itr_pair {K : PySem.W.Frag} {θ : Th} {st : Sto} {H : Hp} {J : It} {xs : List (MV × MV)} {ok : Sto → Prop}
    (hw : ∀ θ' st' H', Gr θ st H θ' st' H' → HR cm K θ' st' H' → ok st' → ∃ (as bs : Nat → Option V) (G : Hp → Prop), (∀ i q, xs[i]? = some q → ∃ v w, as i = some v ∧ bs i = some w ∧ RM K θ' st' H' v q.1 ∧ RM K θ' st' H' w q.2) ∧ G H' ∧ Walk J xs.length G (YPair as bs)) :
    ItR cm K θ st H J ⟨xs.map fun q => mkT [q.1, q.2], ok⟩ := by
  refine ⟨fun θ' st' H' i g h k hi => ?_, fun θ' st' H' g h k => ?_, fun θ' st' H' i y x H'' g h k e yl nb => ?_⟩
  · obtain ⟨as, bs, G, r, gh, w⟩ := hw θ' st' H' g h k
    exact w.goes i H' (by simpa using hi) gh
  · obtain ⟨as, bs, G, r, gh, w⟩ := hw θ' st' H' g h k
    rw [List.length_map]
    exact w.stops H' gh
  · obtain ⟨as, bs, G, r, gh, w⟩ := hw θ' st' H' g h k
    have hi : i < xs.length := by
      have z := (List.getElem?_eq_some_iff.mp e).1
      simpa using z
    rw [List.getElem?_map] at e
    cases q : xs[i]? with
    | none => rw [q] at e; cases e
    | some pr =>
      rw [q] at e
      cases e
      obtain ⟨T, v, w', e1, hT, e2, ev, ew⟩ := w.yields i H' x H'' hi gh yl
      subst e1 e2
      obtain ⟨v', w2, e3, e4, rv, rw2⟩ := r i pr q
      rw [ev] at e3
      cases e3
      rw [ew] at e4
      cases e4
      have rr : RMs K θ' st' H' [v, w'] [pr.1, pr.2] := .cons rv (.cons rw2 .nil)
      have hz : [pr.1, pr.2].length ≤ sizeLine := by rw [sizeLine_eq]; show 2 ≤ 16777216; decide
      cases ed : datas [pr.1, pr.2] with
      | some ds =>
        refine ⟨θ', st', .d (.tuple ds), ?_, gr_fresh h hT _, hr_fresh h hT _, .tup upd_same (h.apart hT) (DDs.mono (gr_fresh h hT _) (dds_of rr ed))⟩
        show mkT [pr.1, pr.2] st' = _
        unfold mkT
        rw [if_pos hz, ed]
      | none =>
        refine ⟨_, st'.new (.tup [pr.1, pr.2]), .c st'.n, ?_, gr_cell h hT _ _, hr_cell h hT ⟨_, rfl, RMs.mono (gr_cell h hT _ _) rr⟩, ⟨Nat.lt_succ_self _, by rw [thn_new]⟩⟩
        show mkT [pr.1, pr.2] st' = _
        unfold mkT
        rw [if_pos hz, ed]
def numbered (xs : List MV) : List (MV × MV) := xs.zipIdx.map fun q => (.d (.int (q.2 : Nat)), q.1)
/-- enumerate(xs) -/
def itEnum (gs : Env → M (List MV)) : Env → M ItM := fun ρ => bnd (gs ρ) fun vs st => match vs with
  | [v] => (match listOf st v with
    | some xs => .ok ⟨(numbered xs).map fun q => mkT [q.1, q.2], fun s => listOf s v = some xs⟩ st
    | none => .bad)
  | _ => .bad
theorem numbered_get {xs : List MV} {i : Nat} {q : MV × MV} (e : (numbered xs)[i]? = some q) : q.1 = .d (.int (i : Nat)) ∧ xs[i]? = some q.2 := by
  unfold numbered at e
  rw [List.getElem?_map, List.getElem?_zipIdx] at e
  cases h : xs[i]? with
  | none => rw [h] at e; cases e
  | some x => rw [h] at e; cases e; exact ⟨by simp, rfl⟩
theorem di_enum {elts : List Expr} {kk : Nat} (hg : Gl X "enumerate") (hm : X.mg "enumerate" = none) (ha : DA X cm W [a] gs) (hs : starEach [a] X.env = [(false, eval a X.env)] := by rfl) : DI X cm W (.Tuple elts kk tpos) (.Call (.Name "enumerate" p) [a] [] pos) (itEnum gs) := by
  obtain ⟨ta, pa, qa⟩ := ha
  refine ⟨_, pi_enum hg hm pa hs, fun θ st σ ρ H Q h er o => qa θ st σ ρ H _ h er (o.bind fun vs st1 θ1 H1 xs g1 h1 r1 o1 => ?_)⟩
  match vs, r1, o1 with
  | [v], r1, o1 =>
    obtain ⟨x, rfl, rx⟩ := rms1 r1
    cases q : listOf st1 v with
    | none => simp only [q] at o1; exact False.elim o1
    | some zs =>
      simp only [q] at o1
      obtain ⟨p, ys, rfl, hp, rp⟩ := list_of h1 rx q
      refine ⟨p, ys, rfl, .of hp, o1.val h1 (itr_pair fun θ' st' H' g h k => ?_)⟩
      obtain ⟨p', us, e1, hp', rp'⟩ := list_of h (rx.mono g) k
      cases e1
      refine ⟨_, _, fun H => SqL X.K H p us, fun i pr e => ?_, .of hp', by rw [show (numbered zs).length = us.length from by rw [rp'.len]; simp [numbered]]; exact walk_enum⟩
      obtain ⟨e1, e2⟩ := numbered_get e
      obtain ⟨w, ew, rw'⟩ := rp'.get e2
      exact ⟨_, w, rfl, ew, by rw [e1]; exact DD.int _, rw'⟩
  | [], _, o1 => exact False.elim o1
  | _ :: _ :: _, _, o1 => exact False.elim o1
end
end Dm

set_option Elab.async false
set_option linter.all false
set_option maxRecDepth 100000
/-! The machine: list comprehensions. -/
namespace Dm
open PySem PySem.Spec PyProof.Rows L2

def nox {α : Type} (m : M α) : M α := fun st => match m st with
  | .exc _ _ _ => .bad
  | r => r
abbrev W0 : WX := fun _ _ _ _ => False
theorem nox_out {α β : Type} {RX : Th → Sto → Hp → β → α → Prop} {cm : Str → Addr} {K : PySem.W.Frag} {W : WX} {θ : Th} {st : Sto} {σ : L2.St} {H : Hp} {Q : β → Hp → Prop} {m : M α} (o : Out RX cm K W θ st σ H Q (nox m st)) {σ' : L2.St} : Out RX cm K W0 θ st σ' H Q (m st) := by
  unfold nox at o
  cases e : m st with
  | ok v s => rw [e] at o; exact o
  | exc c fs s => rw [e] at o; exact False.elim o
  | bad => rw [e] at o; exact o
/-! ### the readings, told by the machine alone -/
def tOf (cm : Str → Addr) (K : PySem.W.Frag) (f : Env → M MV) : TE := fun σ H Q => ∃ θ st ρ, HR cm K θ st H ∧ ER K θ st H σ ρ ∧ Out (RM K) cm K W0 θ st σ H Q (f ρ st)
def bOf (cm : Str → Addr) (K : PySem.W.Frag) (f : Env → M Bool) : TT := fun σ H Q => ∃ θ st ρ, HR cm K θ st H ∧ ER K θ st H σ ρ ∧ Out (RB K) cm K W0 θ st σ H Q (f ρ st)
def gOf (cm : Str → Addr) (K : PySem.W.Frag) (vs : List Nat) (f : MV → Env → M Env) : TG := fun x σ H Q => ∃ θ st ρ v, HR cm K θ st H ∧ ER K θ st H σ ρ ∧ RM K θ st H x v ∧ Out (RFix K vs σ) cm K W0 θ st σ H Q (f v ρ st)
section
variable {X : Cx} {cm : Str → Addr} {W : WX} {pos p tpos : Pos} {tg iter a b c e o i elt : Expr} {es ifs : List Expr} {fa fb fo fe : Env → M MV} {fi : Env → M ItM} {g : MV → Env → M Env} {gc : Env → M Bool} {vs : List Nat}
theorem pe_of (h : DE X cm W0 e fe) : PE X e (tOf cm X.K fe) := by
  obtain ⟨t, p, q⟩ := h
  exact ⟨fun pins s σ H Q I ⟨θ, st, ρ, h, er, o⟩ => p.run pins s σ H Q I (q θ st σ ρ H Q h er o)⟩
theorem pg_of (h : DGt X cm tg vs g) : PG X tg (gOf cm X.K vs g) := by
  obtain ⟨t, p, q⟩ := h
  exact ⟨fun pins s σ H x u Q I r ⟨θ, st, ρ, v, h, er, rv, o⟩ => p.run pins s σ H x u Q I r (q W0 θ st σ ρ H x v Q h er rv o)⟩
/-- the tests of a clause -/
def DTs (X : Cx) (cm : Str → Addr) (ifs : List Expr) (f : Env → M Bool) : Prop := DG RB X cm W0 (PTs X ifs) f
theorem dts_nil : DTs X cm [] (fun _ => ret true) := ⟨_, pts_nil, fun θ st σ ρ H Q h er o => o.val h rfl⟩
theorem dts_one (h : DT X cm W0 c gc) : DTs X cm [c] gc := let ⟨t, p, q⟩ := h; ⟨t, pts_one p, q⟩
theorem pts_of (h : DTs X cm ifs gc) : PTs X ifs (bOf cm X.K gc) := by
  obtain ⟨t, p, q⟩ := h
  exact ⟨fun pins s σ H Q I ⟨θ, st, ρ, h, er, o⟩ => p.run pins s σ H Q I (q θ st σ ρ H Q h er o)⟩

def wipeM (ρ : Env) : List Nat → Env
  | [] => ρ
  | v :: vs => (wipeM ρ vs).set v none
theorem wipe_er {K : PySem.W.Frag} {θ : Th} {st : Sto} {H : Hp} {σ : L2.St} {ρ : Env} (er : ER K θ st H σ ρ) : ∀ vs, ER K θ st H (wipe σ vs) (wipeM ρ vs)
  | [] => er
  | v :: vs => ER.set (x := none) (m := none) True.intro v (wipe_er er vs)
theorem wipe_get (σ : L2.St) (j : Nat) : ∀ vs, (wipe σ vs)[j]? = if j ∈ vs ∧ j < σ.length then some none else σ[j]?
  | [] => by simp [wipe]
  | v :: vs => by
    unfold wipe
    by_cases h : j = v
    · subst h
      by_cases hl : j < σ.length
      · rw [List.getElem?_set_self (by rw [wipe_length]; exact hl), if_pos ⟨List.mem_cons_self, hl⟩]
      · rw [if_neg fun z => hl z.2, List.getElem?_eq_none (by rw [List.length_set, wipe_length]; omega), List.getElem?_eq_none (by omega)]
    · rw [List.getElem?_set_ne (Ne.symm h), wipe_get σ j vs]
      by_cases hm : j ∈ vs ∧ j < σ.length
      · rw [if_pos hm, if_pos ⟨List.mem_cons_of_mem _ hm.1, hm.2⟩]
      · rw [if_neg hm, if_neg fun z => hm ⟨(List.mem_cons.mp z.1).resolve_left h, z.2⟩]
theorem fix_wipe {vs ws : List Nat} {σ σ' : L2.St} (h : Fix vs (wipe σ ws) σ') (hs : ∀ v ∈ vs, v ∈ ws) : wipe σ' ws = wipe σ ws := by
  refine List.ext_getElem? fun j => ?_
  have hl : σ'.length = σ.length := by rw [h.1, wipe_length]
  rw [wipe_get, wipe_get, hl]
  by_cases hm : j ∈ ws ∧ j < σ.length
  · rw [if_pos hm, if_pos hm]
  · rw [if_neg hm, if_neg hm]
    by_cases hj : j ∈ vs
    · have h1 : ¬ j < σ.length := fun z => hm ⟨hs j hj, z⟩
      rw [List.getElem?_eq_none (by omega), List.getElem?_eq_none (by omega)]
    · rw [h.2 j hj, wipe_get, if_neg hm]
open Classical in
/-- the turns of a comprehension; the new list stands at the place d -/
noncomputable def mComp (ok : Sto → Prop) (g : MV → Env → M Env) (gc : Env → M Bool) (fe : Env → M MV) (d : Nat) (ρ : Env) : List (M MV) → M Unit
  | [] => fun st => if ok st then .ok () st else .bad
  | y :: ys => fun st => if ok st then bnd y (fun v => bnd (nox (g v ρ)) fun ρ1 => bnd (nox (gc ρ1)) fun b => if b = true then bnd (nox (fe ρ1)) fun z s => (match s.o d with
      | some (.lst acc) => if acc.length < sizeLine then mComp ok g gc fe d ρ ys (s.put d (.lst (acc ++ [z]))) else .bad
      | _ => .bad)
    else mComp ok g gc fe d ρ ys) st else .bad
/-- the new list is kept as a place, or becomes data where it holds data alone -/
def mKeep (d : Nat) : M MV := fun st => match st.o d with
  | some (.lst _) => .ok (.c d) st
  | _ => .bad
def mFrz (d : Nat) : M MV := fun st => match st.o d with
  | some (.lst xs) => (match datas xs with
    | some ds => .ok (.d (.list ds)) (st.kill d)
    | none => .ok (.c d) st)
  | _ => .bad
noncomputable def mLc (k : Nat → M MV) (vs : List Nat) (fi : Env → M ItM) (g : MV → Env → M Env) (gc : Env → M Bool) (fe : Env → M MV) : Env → M MV := fun ρ => bnd (fi ρ) fun I st =>
  bnd (mComp I.ok g gc fe st.n (wipeM ρ vs) I.ys) (fun _ => k st.n) (st.new (.lst []))
/-- what becomes of the new list -/
def KOk (k : Nat → M MV) : Prop := ∀ {cm : Str → Addr} {K : PySem.W.Frag} {θ : Th} {st : Sto} {H : Hp} {W : WX} {σ : L2.St} {d : Nat} {Q : VK}, HR cm K θ st H → d < st.n → Out (RM K) cm K W θ st σ H Q (k d st) → Q (.ref (θ d)) H
theorem kKeep : KOk mKeep := by
  intro cm K θ st H W σ d Q h hd o
  unfold mKeep at o
  split at o
  · exact o.val h ⟨hd, rfl⟩
  · exact False.elim o
theorem kFrz : KOk mFrz := by
  intro cm K θ st H W σ d Q h hd o
  unfold mFrz at o
  split at o
  · rename_i xs ex
    split at o
    · rename_i ds eds
      obtain ⟨ho, hH, ys, rfl, r⟩ := h.obj d _ ex
      have hs : (st.o d).isSome = true := by rw [ex]; rfl
      exact o θ H _ gr_kill (hr_kill h) (.lst hH (nc_kill h hs) (DDs.mono gr_kill (dds_of r eds)))
    · exact o.val h ⟨hd, rfl⟩
  · exact False.elim o
theorem lc_out {k : Nat → M MV} {ws : List Nat} {ti : TI} (hk : KOk k) (hsub : ∀ v ∈ vs, v ∈ ws)
    (qi : ∀ θ st σ ρ H Q, HR cm X.K θ st H → ER X.K θ st H σ ρ → Out (fun θ st H J I => ItR cm X.K θ st H J I) cm X.K W θ st σ H Q (fi ρ st) → ti σ H Q) :
    ∀ θ st σ ρ H Q, HR cm X.K θ st H → ER X.K θ st H σ ρ → Out (RM X.K) cm X.K W θ st σ H Q (mLc k ws fi g gc fe ρ st) → tLc ti (gOf cm X.K vs g) (bOf cm X.K gc) (tOf cm X.K fe) ws σ H Q := by
  intro θ st σ ρ H Q h er o
  refine qi θ st σ ρ H _ h er (o.bind fun I st1 θ1 H1 J g1 h1 ir o1 => ?_)
  intro D hD
  have er1 := er.mono g1
  have g2 : Gr θ1 st1 H1 (thn θ1 st1 D) (st1.new (.lst [])) (upd H1 D (.lst [])) := gr_cell h1 hD _ _
  have h2 : HR cm X.K (thn θ1 st1 D) (st1.new (.lst [])) (upd H1 D (.lst [])) := hr_cell h1 hD ⟨[], rfl, .nil⟩
  have o2 := Out.up g2 o1
  have hdn : st1.n < (st1.new (.lst [])).n := Nat.lt_succ_self _
  have hdt : thn θ1 st1 D st1.n = D := thn_new
  generalize hθ : thn θ1 st1 D = θ2 at g2 h2 o2 hdt
  generalize hs2 : st1.new (.lst []) = st2 at g2 h2 o2 hdn
  generalize hH2 : upd H1 D (.lst []) = H2 at g2 h2 o2
  have er2 := wipe_er (er1.mono g2) ws
  refine ⟨fun j m H' => m = I.ys.length - j ∧ j ≤ I.ys.length ∧ ∃ θ' st', Gr θ2 st2 H2 θ' st' H' ∧ HR cm X.K θ' st' H' ∧ Out (RM X.K) cm X.K W θ' st' σ H' Q (bnd (mComp I.ok g gc fe st1.n (wipeM ρ ws) (I.ys.drop j)) (fun _ => k st1.n) st'), ⟨_, rfl, Nat.zero_le _, θ2, st2, .refl, h2, by rw [List.drop_zero]; exact o2⟩, ?_⟩
  rintro j m H' ⟨rfl, hj, θ', st', g', h', o'⟩
  have eD : θ' st1.n = D := (g'.th _ hdn).trans hdt
  by_cases hlt : j < I.ys.length
  · rw [List.drop_eq_getElem_cons hlt] at o'
    have ey : I.ys[j]? = some I.ys[j] := List.getElem?_eq_getElem hlt
    have o'' : I.ok st' ∧ Out (RM X.K) cm X.K W θ' st' σ H' Q (bnd (I.ys[j]) (fun v => bnd (nox (g v (wipeM ρ ws))) fun ρ1 => bnd (nox (gc ρ1)) fun b => bnd (if b = true then bnd (nox (fe ρ1)) fun z s => (match s.o st1.n with
      | some (.lst acc) => if acc.length < sizeLine then mComp I.ok g gc fe st1.n (wipeM ρ ws) (I.ys.drop (j + 1)) (s.put st1.n (.lst (acc ++ [z]))) else .bad
      | _ => .bad)
      else mComp I.ok g gc fe st1.n (wipeM ρ ws) (I.ys.drop (j + 1))) fun _ => k st1.n) st') := by
      unfold mComp at o'
      unfold bnd at o' ⊢
      by_cases hok : I.ok st'
      · simp only [if_pos hok] at o'
        refine ⟨hok, ?_⟩
        cases q : (I.ys[j]) st' with
        | ok v s =>
          simp only [q] at o' ⊢
          cases q2 : nox (g v (wipeM ρ ws)) s with
          | ok ρ1 s1 =>
            simp only [q2] at o' ⊢
            cases q3 : nox (gc ρ1) s1 with
            | ok b s2 => simp only [q3] at o' ⊢; exact o'
            | exc c fs s2 => simp only [q3] at o' ⊢; exact o'
            | bad => simp only [q3] at o' ⊢; exact o'
          | exc c fs s1 => simp only [q2] at o' ⊢; exact o'
          | bad => simp only [q2] at o' ⊢; exact o'
        | exc c fs s => simp only [q] at o' ⊢; exact o'
        | bad => simp only [q] at o' ⊢; exact o'
      · simp only [if_neg hok] at o'
        exact False.elim o'
    obtain ⟨hok, o3⟩ := o''
    have g20 : Gr θ1 st1 H1 θ' st' H' := g2.trans g'
    refine .inr ⟨ir.goes θ' st' H' j g20 h' hok hlt, fun H'' => j + 1 ≤ I.ys.length ∧ ∃ θ'' st'', Gr θ2 st2 H2 θ'' st'' H'' ∧ HR cm X.K θ'' st'' H'' ∧ Out (RM X.K) cm X.K W θ'' st'' σ H'' Q (bnd (mComp I.ok g gc fe st1.n (wipeM ρ ws) (I.ys.drop (j + 1))) (fun _ => k st1.n) st''), fun H'' q => ⟨I.ys.length - (j + 1), by omega, rfl, q⟩, fun x H3 yl => ?_⟩
    have nb : (I.ys[j]) st' ≠ .bad := fun z => by
      unfold bnd at o3
      simp only [z] at o3
      exact o3
    obtain ⟨θ3, st3, v, e3, g3, h3, r3⟩ := ir.yields θ' st' H' j _ x H3 g20 h' hok ey yl nb
    have o4 := Out.up g3 o3
    rw [bnd_ok e3] at o4
    have er3 : ER X.K θ3 st3 H3 (wipe σ ws) (wipeM ρ ws) := ((er2.mono g').mono g3)
    refine ⟨θ3, st3, wipeM ρ ws, v, h3, er3, r3, nox_out (W := W) (σ := σ) (o4.bind fun ρ1 st4 θ4 H4 σ4 g4 h4 er4 o5 => ?_)⟩
    refine ⟨fix_wipe er4.2 hsub, θ4, st4, ρ1, h4, er4.1, nox_out (W := W) (σ := σ) (o5.bind fun b st5 θ5 H5 b' g5 h5 rb o6 => ?_)⟩
    have rb : b' = b := rb
    subst rb
    have gg5 : Gr θ2 st2 H2 θ5 st5 H5 := ((g'.trans g3).trans g4).trans g5
    cases b' with
    | false =>
      simp only [Bool.false_eq_true, if_false] at o6 ⊢
      exact ⟨hlt, θ5, st5, gg5, h5, o6⟩
    | true =>
      simp only [if_true] at o6 ⊢
      have o7 : Out (RM X.K) cm X.K W θ5 st5 σ H5 Q (bnd (nox (fe ρ1)) (fun z s => match s.o st1.n with
        | some (.lst acc) => if acc.length < sizeLine then bnd (mComp I.ok g gc fe st1.n (wipeM ρ ws) (I.ys.drop (j + 1))) (fun _ => k st1.n) (s.put st1.n (.lst (acc ++ [z]))) else .bad
        | _ => .bad) st5) := by
        unfold bnd at o6 ⊢
        cases q : nox (fe ρ1) st5 with
        | exc c fs s => simp only [q] at o6 ⊢; exact o6
        | bad => simp only [q] at o6 ⊢; exact o6
        | ok z s =>
          simp only [q] at o6 ⊢
          cases q2 : s.o st1.n with
          | none => simp only [q2] at o6; exact False.elim o6
          | some ob =>
            cases ob with
            | lst acc =>
              simp only [q2] at o6 ⊢
              by_cases hz : acc.length < sizeLine
              · simp only [if_pos hz] at o6 ⊢; exact o6
              · simp only [if_neg hz] at o6; exact False.elim o6
            | _ => simp only [q2] at o6; exact False.elim o6
      refine ⟨θ5, st5, ρ1, h5, er4.1.mono g5, nox_out (W := W) (σ := σ) (o7.bind fun z st6 θ6 H6 y g6 h6 r6 o8 => ?_)⟩
      have eD6 : θ6 st1.n = D := by rw [g6.th _ (Nat.lt_of_lt_of_le hdn gg5.n), gg5.th _ hdn]; exact hdt
      cases q2 : st6.o st1.n with
      | none => simp only [q2] at o8; exact False.elim o8
      | some ob =>
        cases ob with
        | lst acc =>
          simp only [q2] at o8
          by_cases hz : acc.length < sizeLine
          · simp only [if_pos hz] at o8
            obtain ⟨ho, hH, ys, rfl, rr⟩ := h6.obj _ _ q2
            rw [eD6] at hH
            have hs : (st6.o st1.n).isSome = true := by rw [q2]; rfl
            have gp : Gr θ6 st6 H6 θ6 (st6.put st1.n (.lst (acc ++ [z]))) (upd H6 (θ6 st1.n) (.lst (ys ++ [y]))) := gr_put hs _ _
            have hp : HR cm X.K θ6 (st6.put st1.n (.lst (acc ++ [z]))) (upd H6 (θ6 st1.n) (.lst (ys ++ [y]))) := hr_put h6 hs ⟨_, rfl, RMs.mono gp (rr.app (.cons r6 .nil))⟩
            refine ⟨ys, hH, by rw [rr.len]; exact hz, hlt, θ6, st6.put st1.n (.lst (acc ++ [z])), ?_, ?_, ?_⟩
            · have := (gg5.trans g6).trans gp
              rw [eD6] at this
              exact this
            · rw [← eD6]; exact hp
            · have := Out.up gp o8
              rw [eD6] at this
              exact this
          · simp only [if_neg hz] at o8; exact False.elim o8
        | _ => simp only [q2] at o8; exact False.elim o8
  · have e : j = I.ys.length := by omega
    subst e
    rw [List.drop_length] at o'
    have o'' : I.ok st' ∧ Out (RM X.K) cm X.K W θ' st' σ H' Q (k st1.n st') := by
      unfold mComp bnd at o'
      by_cases hok : I.ok st'
      · simp only [if_pos hok] at o'
        exact ⟨hok, o'⟩
      · simp only [if_neg hok] at o'
        exact False.elim o'
    refine .inl ⟨ir.stops θ' st' H' (g2.trans g') h' o''.1, ?_⟩
    have z := hk h' (Nat.lt_of_lt_of_le hdn g'.n) o''.2
    rw [eD] at z
    exact z
/-- the contexts of a comprehension's block -/
abbrev Blk (X : Cx) (scope : Scope) (P : Cx → Prop) : Prop := ∀ (s : Shared) (H : Hp) (C : Addr) (cl : List (Str × Addr)) (fp : List Addr), P (X.blk s H scope (compEnvC scope cl C X.env) fp)
theorem de_lc {k : Nat → M MV} {scope : Scope} {own : List (Str × Nat)} (hk : KOk k) (hc : X.calm = true) (hN : X.N.Nodup) (hi : DI X cm W tg iter fi) (ok : BlkOk X.N X.env.scope scope own)
    (hg : Blk X scope fun Y => DGt Y cm tg vs g) (ht : Blk X scope fun Y => DTs Y cm ifs gc) (he : Blk X scope fun Y => DE Y cm W0 elt fe) (hsub : ∀ v ∈ vs, v ∈ own.map (·.2) := by decide) (hs : ∀ x, foldedSetIterable iter X.env x = pure x := by intro _; rfl) :
    DE X cm W (.ListComp elt [⟨tg, iter, ifs, 0⟩] scope pos) (mLc k (own.map (·.2)) fi g gc fe) := by
  obtain ⟨ti, pi, qi⟩ := hi
  exact ⟨_, pe_lc (g := gOf cm X.K vs g) (tt := bOf cm X.K gc) (te := tOf cm X.K fe) hc hN pi ok (fun s H C cl fp => pg_of (hg s H C cl fp)) (fun s H C cl fp => pts_of (ht s H C cl fp)) (fun s H C cl fp => pe_of (he s H C cl fp)) hs, lc_out hk hsub qi⟩
theorem ds_setLc {k : Nat → M MV} {j : Nat} {y : Str} {py spos : Pos} {scope : Scope} {own : List (Str × Nat)} (hk : KOk k) (hc : X.calm = true) (hN : X.N.Nodup) (hy : X.N[j]? = some y) (hyl : X.env.scope.names.lookup y = some .local)
    (hsw : swapsWith (.ListComp elt [⟨tg, iter, ifs, 0⟩] scope pos) (some (.Name y py)) spos.line X.env = pure true) (hi : DI X cm W tg iter fi) (ok : BlkOk X.N X.env.scope scope own)
    (hg : Blk X scope fun Y => DGt Y cm tg vs g) (ht : Blk X scope fun Y => DTs Y cm ifs gc) (he : Blk X scope fun Y => DE Y cm W0 elt fe) (hsub : ∀ v ∈ vs, v ∈ own.map (·.2) := by decide) (hs : ∀ x, foldedSetIterable iter X.env x = pure x := by intro _; rfl) :
    DS X cm W (.Assign [.Name y py] (.ListComp elt [⟨tg, iter, ifs, 0⟩] scope pos) spos) (sSet j (mLc k (own.map (·.2)) fi g gc fe)) := by
  obtain ⟨ti, pi, qi⟩ := hi
  refine ⟨_, ps_setLc (g := gOf cm X.K vs g) (tt := bOf cm X.K gc) (te := tOf cm X.K fe) hc hN hy hyl hsw pi ok (fun s H C cl fp => pg_of (hg s H C cl fp)) (fun s H C cl fp => pts_of (ht s H C cl fp)) (fun s H C cl fp => pe_of (he s H C cl fp)) hs, fun θ st σ ρ H D h er o => ?_⟩
  exact lc_out hk hsub qi θ st σ ρ H _ h er (OutS.bind er o fun v st1 θ1 H1 x g1 h1 r1 o1 => o1 θ1 H1 _ .refl h1 (ER.set (x := some x) (m := some v) r1 j (er.mono g1)))
end
end Dm

set_option Elab.async false
set_option linter.all false
set_option maxRecDepth 100000
/-! The machine: defs and their calls. -/
namespace Dm
open PySem PySem.Spec PyProof.Rows L2

/-! ### room -/
structure RoomD (hot : Bool) (k : Nat) (A : Around) : Prop where
  hd : hot = false → A.handled = none
  dp : A.depth + 3 * k + 5 < recursionLimit
  un : A.units + 16 * k + 600 < cLine
  gd : A.guards = some []
section
variable {hot : Bool} {j k : Nat} {A : Around}
theorem RoomD.mono (r : RoomD hot k A) (h : j ≤ k) : RoomD hot j A := ⟨r.hd, by have := r.dp; omega, by have := r.un; omega, r.gd⟩
theorem RoomD.deep (r : RoomD hot (k + 1) A) (env : PySem.Env) : RoomD hot k (A.deeper env) :=
  ⟨r.hd, by have := r.dp; show A.depth + 1 + 3 * k + 5 < _; omega, by have := r.un; show A.units + 3 + 16 * k + 600 < _; omega, r.gd⟩
theorem RoomD.room (r : RoomD false k A) : Room k A := ⟨r.hd rfl, r.dp, by have := r.un; omega⟩
theorem RoomD.dlt (r : RoomD hot k A) : A.depth < recursionLimit := by have := r.dp; omega
theorem RoomD.u1 (r : RoomD hot k A) : A.units + 1 < cLine := by have := r.un; omega
theorem RoomD.u64 (r : RoomD hot k A) : A.units + 64 < cLine := by have := r.un; omega
theorem RoomD.u500 (r : RoomD hot k A) : A.units + 500 < cLine := by have := r.un; omega
end

/-! ### the context of a def's body -/
def cxD (hot : Bool) (P : Program) (w : World) (K : PySem.W.Frag) (mg : Str → Option Value) (base : Heap) (N : List Str) (qual : Str) (scope : Scope) (f : Addr) (cd : Value) (A : Around) (outer : List PySem.Env) (s : Shared) (H : Hp) (E : XK) : Cx :=
  { cxOf (L2.CX P w) P w K mg base N qual scope f cd A outer s H E with calm := !hot }
theorem inv_d {hot : Bool} {P : Program} {w : World} {K : PySem.W.Frag} {mg : Str → Option Value} {base : Heap} {N ps : List Str} {qual : Str} {scope : Scope} {f : Addr} {cd : Value} {A : Around} {outer : List PySem.Env} {s s1 : Shared} {H : Hp} {E : XK} {us : List Value} {vs : List V}
    (S : FnScope N ps scope) (hd : hot = false → A.handled = none) (e0 : Env0 P w K mg base A outer s H) (hl : vs.length = ps.length) (r : Vals vs us)
    (x : InCallC s s.heap.objs.size (bindL (envOfC qual scope s.heap.objs.size f cd).kindOf (ps.zip us) fun _ => none) (cellsFrom (s.heap.objs.size + 1) scope.names []) (bindC (envOfC qual scope s.heap.objs.size f cd).kindOf (ps.zip us) fun _ => none) s1) :
    Inv (cxD hot P w K mg base N qual scope f cd A outer s H E) [] (L2.start N vs) H s1 := by
  have e1 : Env0 P w K mg base { A with handled := none } outer s H := ⟨e0.frames, e0.mod, e0.bs, e0.bsz, e0.funs, e0.frf, e0.hok, e0.bare⟩
  have I := inv_start (CX := L2.CX P w) (E := E) (f := f) (cd := cd) (qual := qual) S (show ({ A with handled := none } : Around).handled = none from rfl) e1 hl r x
  have ok := I.ok
  exact ⟨⟨ok.mod, ok.kind, ok.glob, ok.blt, ok.above, ok.inj, ok.has, ok.cab, fun z => hd (by cases hot with | false => rfl | true => exact absurd (show false = true from z) (by decide)), ok.frames, ok.stk, ok.exf, ok.bs, ok.bsz, ok.noex, ok.exfs, ok.funs, ok.frf⟩,
    I.os, I.bare, I.base, I.loc, I.cell, I.free, I.freeC, I.pin, I.hok, I.len⟩

/-! ### what a def does -/
abbrev MFn := List MV → M MV
def mFn (n N : Nat) (fb : Env → Sto → SRes) : MFn := fun ms st => if ms.length = n then (match fb (ms.map some ++ List.replicate (N - ms.length) none) st with
  | .nx _ s => .ok (.d .none) s
  | .rt v s => .ok v s
  | .exc c fs _ s => .exc c fs s
  | _ => .bad) else .bad
structure FnD (P : Program) (w : World) (K : PySem.W.Frag) (mg : Str → Option Value) (base : Heap) (cm : Str → Addr) (hot : Bool) (k : Nat) (f : Addr) (fd : FuncData) (ps : List Str) (m : MFn) : Prop where
  len : ∀ ms st, m ms st ≠ .bad → ms.length = ps.length
  run : ∀ (A : Around) (outer : List PySem.Env) (s : Shared) (H : Hp) (args : Args) (us : List Value) (vs : List V) (Q : VK) (E : XK) (θ : Th) (st : Sto) (ms : List MV), RoomD hot k A → Env0 P w K mg base A outer s H → BindsTo s fd args (ps.zip us) → Vals vs us →
    HR cm K θ st H → RMs K θ st H vs ms → Out (RM K) cm K (fun c d _ H => E c d H) θ st [] H Q (m ms st) → codeAny (model P w) A (.call (.ref f) args) (CR (L2.CX P w) outer P w H s Q E) s
theorem Out.ok {α β : Type} {RX : Th → Sto → Hp → β → α → Prop} {cm : Str → Addr} {K : PySem.W.Frag} {W : WX} {θ : Th} {st : Sto} {σ : L2.St} {H : Hp} {Q : β → Hp → Prop} {r : Res α} (o : Out RX cm K W θ st σ H Q r) : r ≠ .bad := fun z => by
  rw [z] at o
  exact o
theorem start_er {K : PySem.W.Frag} {θ : Th} {st : Sto} {H : Hp} (n : Nat) : ∀ {vs : List V} {ms : List MV}, RMs K θ st H vs ms → ER K θ st H (vs.map some ++ List.replicate n none) (ms.map some ++ List.replicate n none)
  | _, _, .cons h t => .cons h (start_er n t)
  | _, _, .nil => by
    induction n with
    | zero => exact .nil
    | succ n ih => exact .cons True.intro ih
theorem fnd_of {P : Program} {w : World} {K : PySem.W.Frag} {mg : Str → Option Value} {base : Heap} {cm : Str → Addr} {hot : Bool} {k : Nat} {f : Addr} {fd : FuncData} {x qual : Str} {sd : Stmt} {N ps : List Str} {fb : Env → Sto → SRes}
    (F : L2.Fun K x qual sd f fd) (S : FnScope N ps (defScope sd))
    (hbody : ∀ (cdv : Value) (A : Around) (outer : List PySem.Env) (s : Shared) (H : Hp) (E : XK), RoomD hot k (A.deeper (envOfC qual (defScope sd) s.heap.objs.size f cdv)) →
      DSs (cxD hot P w K mg base N qual (defScope sd) f cdv A outer s H E) cm (fun c d _ H => E c d H) (defBody sd) fb) : FnD P w K mg base cm hot (k + 1) f fd ps (mFn ps.length N.length fb) := by
  obtain ⟨oc, od, kV, doc, pm, an, cdv, ct, osl, rfl, lk, hcd⟩ := F.ex
  refine ⟨fun ms st hb => ?_, fun A outer s H args us vs Q E θ st ms hr e0 hb r h rm o => ?_⟩
  · unfold mFn at hb
    by_cases hl : ms.length = ps.length
    · exact hl
    · rw [if_neg hl] at hb; exact absurd rfl hb
  · unfold mFn at o
    by_cases hl : ms.length = ps.length
    · rw [if_pos hl] at o
      have hlv : vs.length = ps.length := rm.len.trans hl
      have KX : K.In s.heap := e0.mod.kin.keeps fun b o e => (e0.bs b o e).1
      have lim : s.heap.NoLimit := e0.mod.nolimit.keeps fun b o e => (e0.bs b o e).1
      refine codeAny_call_function hr.dlt (KX _ _ lk) rfl S.co S.gen rfl (PySem.W.codeRec_of KX hcd) (hb _ _ _ _ ?_)
      refine wpAny_newFunctionEnv_cells S.kind (fun ⟨n, v⟩ hy => ?_) fun env he s1 x => ?_
      · rcases S.par n (List.of_mem_zip hy).1 with q | q
        · exact .inl q
        · exact .inr ⟨q, PySem.W.cellsFrom_some _ _ _ (.inl q)⟩
      · subst he
        refine ⟨lim.keeps x.toInCall.keep, codeAny_func ?_⟩
        obtain ⟨t, ht, hq⟩ := hbody cdv A outer s H E (hr.deep _)
        have I : Inv (cxD hot P w K mg base N qual (defScope sd) f cdv A outer s H E) [] (L2.start N vs) H s1 := inv_d S hr.hd e0 hlv r x
        have er : ER K θ st H (L2.start N vs) (ms.map some ++ List.replicate (N.length - ms.length) none) := by
          unfold L2.start
          rw [rm.len]
          exact start_er _ rm
        have hD := hq θ st (L2.start N vs) _ H { nx := fun _ H' => Q .non H', rt := Q } h er (by
          cases q : fb (ms.map some ++ List.replicate (N.length - ms.length) none) st with
          | nx ρ' s' => rw [q] at o; exact fun θ' H' σ' g h' _ => o θ' H' .non g h' DD.non
          | rt v s' => rw [q] at o; exact o
          | bk ρ' s' => rw [q] at o; exact False.elim o
          | ct ρ' s' => rw [q] at o; exact False.elim o
          | exc c fs ρ' s' => rw [q] at o; exact fun θ' H' σ' d g h' _ xd => o θ' H' d g h' xd
          | bad => rw [q] at o; exact False.elim o)
        refine wpAny_mono (ht.run [] s1 (L2.start N vs) H _ I hD) (fun fl s' hs => ?_) fun e s' hs => hs
        cases fl with
        | ret u =>
          obtain ⟨v, σ', H', J, rv, q⟩ := hs
          exact ⟨v, H', J.os, J.bare, J.base, J.hok, rv, q⟩
        | next =>
          obtain ⟨σ', H', J, q⟩ := hs
          exact ⟨V.non, H', J.os, J.bare, J.base, J.hok, rfl, q⟩
        | brk =>
          obtain ⟨_, _, _, q⟩ := hs
          exact False.elim q
        | cont =>
          obtain ⟨_, _, _, q⟩ := hs
          exact False.elim q
    · rw [if_neg hl] at o; exact False.elim o

/-! ### calls -/
def mCall (m : MFn) (gs : Env → M (List MV)) : Env → M MV := fun ρ => bnd (gs ρ) fun vs => m vs
section
variable {X : Cx} {cm : Str → Addr} {W : WX} {hot : Bool} {k : Nat} {f : Addr} {fd : FuncData} {ps : List Str} {m : MFn} {x : Str} {p pos : Pos} {e : Expr} {es : List Expr} {gs : Env → M (List MV)}
theorem run_d {pins : List (Addr × Obj)} {σ : L2.St} {H : Hp} {s : Shared} {Q : VK} {us : List Value} {vs : List V} {θ : Th} {st : Sto} {ms : List MV} (F : FnD X.prog X.w X.K X.mg X.base cm hot k f fd ps m) (hr : RoomD hot k X.A) (hb : Binds X.K fd ps []) (tk : Takes X W)
    (I : Inv X pins σ H s) (r : Vals vs us) (h : HR cm X.K θ st H) (rm : RMs X.K θ st H vs ms) (o : Out (RM X.K) cm X.K W θ st σ H Q (m ms st)) : wpAny (model X.prog X.w) X.A (call (.ref f) us) (EP X pins σ Q) X.xe s := by
  have hl : us.length = ps.length := by rw [← r.length, rm.len]; exact F.len _ _ o.ok
  have b := hb s us I.kIn (by rw [List.append_nil]; exact hl)
  rw [List.append_nil] at b
  refine wpAny_call (codeAny_mono (F.run X.A X.stack s H ⟨us, []⟩ us vs Q (WE W σ) θ st ms hr I.env0 b r h rm (by
    cases q : m ms st with
    | ok v s' => rw [q] at o; exact o
    | exc c fs s' => rw [q] at o; exact o
    | bad => rw [q] at o; exact o)) fun r s' hq => ?_)
  cases r with
  | error e => exact passAt tk σ pins H s e s' I hq
  | ok fl =>
    cases fl with
    | ret u => exact I.after hq
    | next => exact False.elim hq
    | brk => exact False.elim hq
    | cont => exact False.elim hq
/-- f(..), f a def of the module -/
theorem de_call (F : FnD X.prog X.w X.K X.mg X.base cm hot k f fd ps m) (hr : RoomD hot k X.A) (hb : Binds X.K fd ps []) (hm : X.mg x = some (.ref f)) (hk : PySem.W.keepIn X.K (.ref f) = true) (tk : Takes X W) (ha : DA X cm W (e :: es) gs) (hg : Gl X x)
    (hdb : (x == ("__debug__" : Str)) = false := by decide) (he : starEach (e :: es) X.env = (false, eval e X.env) :: starEach es X.env := by rfl) (hpl : (backTo pos (starEach es X.env)).any (·.1) = false := by rfl) :
    DE X cm W (.Call (.Name x p) (e :: es) [] pos) (mCall m gs) := by
  obtain ⟨t, pa, qa⟩ := ha
  refine ⟨fun σ H Q => t σ H fun vs H1 => ∃ θ st ms, HR cm X.K θ st H1 ∧ RMs X.K θ st H1 vs ms ∧ Out (RM X.K) cm X.K W θ st σ H1 Q (m ms st), ⟨fun pins s σ H Q I h => ?_⟩, fun θ st σ ρ H Q h er o => ?_⟩
  · refine wpAny_Call_Name_kw (ld_glob I hg hm ?_ hdb)
    refine PySem.W.callWith_K (h₀ := X.base) I.ok.mod.kin hk (L2.thn (pa.run pos pins s σ H _ I h) fun us s1 ⟨vs, H1, I1, r, q⟩ => ⟨I1.kIn, ?_⟩) he hpl
    obtain ⟨θ, st, ms, h1, rm, o⟩ := q
    exact run_d F hr hb tk I1 r h1 rm o
  · exact qa θ st σ ρ H _ h er (o.bind fun vs st1 θ1 H1 xs g1 h1 r1 o1 => ⟨θ1, st1, vs, h1, r1, o1⟩)
theorem de_call0 (F : FnD X.prog X.w X.K X.mg X.base cm hot k f fd ps m) (hr : RoomD hot k X.A) (hb : Binds X.K fd ps []) (hm : X.mg x = some (.ref f)) (hk : PySem.W.keepIn X.K (.ref f) = true) (tk : Takes X W) (hg : Gl X x)
    (hdb : (x == ("__debug__" : Str)) = false := by decide) : DE X cm W (.Call (.Name x p) [] [] pos) (fun _ => m []) := by
  refine ⟨fun σ H Q => ∃ θ st, HR cm X.K θ st H ∧ Out (RM X.K) cm X.K W θ st σ H Q (m [] st), ⟨fun pins s σ H Q I h => ?_⟩, fun θ st σ ρ H Q h er o => ⟨θ, st, h, o⟩⟩
  refine wpAny_Call_Name_kw (ld_glob I hg hm ?_ hdb)
  obtain ⟨θ, st, h1, o⟩ := h
  exact PySem.W.callWith_K0 I.kIn hk (run_d (us := []) F hr hb tk I .nil h1 .nil o)
end

/-! ### the law -/
def st0 : Sto := ⟨0, fun _ => none⟩
/-- at the law's entry: nothing but the script stands in the abstract heap, and only where the module has no such object -/
def hpS (tr : Bool) (a : Addr) (ob : Obj) (xs : List V) : Hp := fun b => if tr = true ∧ b = a then some (.frz ob (.lst xs)) else none
theorem hpS_out {tr : Bool} {a b : Addr} {ob : Obj} {xs : List V} (h : b ≠ a) : hpS tr a ob xs b = none := if_neg fun z => h z.2
theorem hpS_at {a : Addr} {ob : Obj} {xs : List V} : hpS true a ob xs a = some (.frz ob (.lst xs)) := if_pos ⟨rfl, rfl⟩
theorem hpS_some {tr : Bool} {a b : Addr} {ob : Obj} {xs : List V} {u : HO} (h : hpS tr a ob xs b = some u) : tr = true ∧ b = a ∧ u = .frz ob (.lst xs) := by
  unfold hpS at h
  split at h
  · rename_i hc
    exact ⟨hc.1, hc.2, (Option.some.inj h).symm⟩
  · cases h
theorem fun_law {P : Program} {w : World} {K : PySem.W.Frag} {mg mb : Str → Option Value} {cm : Str → Addr} {k : Nat} {fa a : Addr} {fd : FuncData} {x : Str} {m : MFn} {s₁ : Shared} {vs : List Value} {ns : List Int}
    (KX : K.In s₁.heap) (hns : s₁.heap.Ns mainGlobals mg) (hb : s₁.heap.Ns builtinsNs mb) (hbb : ∀ x : Str, x ≠ "__name__" → mb x = bootBuiltins x) (hlim : s₁.heap.NoLimit) (hg : s₁.gens = #[])
    (ha : s₁.heap.get? a = some { cls := .type "list", data := .seq vs.toArray }) (hi : IntsAre vs ns) (hl : ns.length ≤ sizeLine) (hr : RoomD false k callerA)
    (F : ∀ base : Heap, K.In base → base.Ns mainGlobals mg → FnD P w K mg base cm false k fa fd [x] m) (hbind : ∀ (s : Shared) (u : Value), BindsTo s fd ⟨[u], []⟩ [(x, u)])
    (hm : ∃ st, m [.scr ns] st0 = .ok (.d (.bool true)) st) :
    codeAny (model P w) callerA (.call (.ref fa) ⟨[.ref a], []⟩) (fun r s' => r = .ok (.ret (.bool true)) ∧ OldK s₁.heap s'.heap ∧ s'.os = s₁.os ∧ AllBare s'.gens) s₁ := by
  have rv := vals_ints hi
  have lv : vs.length = ns.length := hi.length
  obtain ⟨tr, htr⟩ : ∃ tr : Bool, tr = (K.lookup a).isNone := ⟨_, rfl⟩
  obtain ⟨H, eH⟩ : ∃ H : Hp, H = hpS tr a { cls := .type "list", data := .seq vs.toArray } (ns.map V.int) := ⟨_, rfl⟩
  have hout : ∀ b, b ≠ a → H b = none := fun b hn => by rw [eH]; exact hpS_out hn
  have hsome : ∀ b u, H b = some u → tr = true ∧ b = a ∧ u = .frz { cls := .type "list", data := .seq vs.toArray } (.lst (ns.map V.int)) := fun b u e => by rw [eH] at e; exact hpS_some e
  have hdict : ∀ (b : Addr) (o : Obj) (es : Array DictEntry) (ep : Nat), s₁.heap.get? b = some o → o.data = .dict es ep → H b = none := fun b o es ep e d => by
    by_cases hn : b = a
    · subst hn
      rw [ha] at e
      cases e
      exact absurd d (by intro z; cases z)
    · exact hout b hn
  have toNs : ∀ (b : Addr) (mm : Str → Option Value), s₁.heap.Ns b mm → (hidT s₁.heap H).Ns b mm := fun b mm hn => by
    obtain ⟨o, es, ep, e, d, rr⟩ := hn
    exact ⟨o, es, ep, hidT_get e (hdict b o es ep e d), d, rr⟩
  have toK : K.In (hidT s₁.heap H) := fun b o e => by
    refine hidT_get (KX b o e) ?_
    cases q : H b with
    | none => rfl
    | some u =>
      obtain ⟨h1, h2, _⟩ := hsome b u q
      rw [htr, ← h2, e] at h1
      cases h1
  obtain ⟨mc, hl1, hl2⟩ := hlim
  have hok : HOk P w H s₁.heap := fun b u e => by
    obtain ⟨_, rfl, rfl⟩ := hsome b u e
    exact ⟨ha, by rw [List.length_map]; exact hl, vs, _, rv, ha⟩
  have e0 : Env0 P w K mg (hidT s₁.heap H) callerA [] s₁ H :=
    { frames := rfl, mod := ⟨toK, toNs _ _ hns, ⟨mb, toNs _ _ hb, hbb⟩, ⟨mc, toNs _ _ hl1, hl2⟩⟩, bs := fun b o e => of_hidT e, bsz := Nat.le_of_eq (hidT_size _ _), funs := trivial,
      frf := fun b hb => absurd (show b ∈ ([] : List Addr) from hb) (by simp), hok := hok, bare := .of_eq hg }
  have h0 : HR cm K (fun _ => 0) st0 H := ⟨fun i j hi => absurd hi (by simp [st0]), fun _ _ => rfl, fun i o e => by cases e⟩
  have rs : RM K (fun _ => 0) st0 H (.ref a) (.scr ns) := by
    refine ⟨a, rfl, ?_⟩
    cases q : K.lookup a with
    | some o =>
      have e := KX a o q
      rw [ha] at e
      cases e
      exact .inr (.inr ⟨_, vs.toArray, _, q, rfl, rfl, rfl, by rw [List.size_toArray, lv]; exact hl, by simpa using rv⟩)
    | none =>
      have ht : tr = true := by rw [htr, q]; rfl
      refine .inl ⟨.inr ⟨{ cls := .type "list", data := .seq vs.toArray }, ?_⟩, fun i hi => absurd hi (by simp [st0])⟩
      rw [eH, ht]
      exact hpS_at
  obtain ⟨stE, em⟩ := hm
  refine codeAny_mono ((F _ toK (toNs _ _ hns)).run callerA [] s₁ H ⟨[.ref a], []⟩ [.ref a] [.ref a] (fun v _ => v = .bl true) (fun _ _ _ => False) (fun _ => 0) st0 [.scr ns] hr e0 (hbind s₁ (.ref a)) (.cons rfl .nil) h0 (.cons rs .nil) (by
    rw [em]
    intro θ' H' v _ _ rr
    cases rr
    rfl)) fun r s' h => ?_
  cases r with
  | error e =>
    obtain ⟨_, _, _, _, _, _, _, _, _, _, _, _, z⟩ := h
    exact z.elim
  | ok fl =>
    cases fl with
    | ret u =>
      obtain ⟨v, H', os, bare, un, hok', rr, q⟩ := h
      have q : v = .bl true := q
      subst q
      have rr : u = Value.bool true := rr
      subst rr
      refine ⟨rfl, .of_keep fun b o e => ?_, os, bare⟩
      cases q : H b with
      | none => exact un.keep b o e q (fun z => absurd (show b ∈ ([] : List Addr) from z) (by simp)) (by simp)
      | some u =>
        obtain ⟨_, e2, e3⟩ := hsome b u q
        subst e2 e3
        obtain ⟨e4, _⟩ := hok' _ _ (un.frzs _ _ _ q)
        rw [ha] at e
        cases e
        exact e4
    | next => exact False.elim h
    | brk => exact False.elim h
    | cont => exact False.elim h
/-- the whole: a row's walk, by the law's mirror -/
theorem walk_d {l : PySem.W.OpenLaw} {n k : Nat} {q : Program} {loose : List Str} {XP : (Str → Option Value) → Heap → Prop} {YP : World → Heap → Prop} {d : DefRec} {K : Params → PySem.W.Frag} {x : Str} {m : World → MFn}
    (hn : l.most = some n) (hn2 : n ≤ sizeLine) (hdf : d.params.defaults = []) (hr : RoomD false k callerA)
    (hY : ∀ (w : World) (h : Heap), YP w h → (K w.params).In h)
    (F : ∀ (w : World) (mg : Str → Option Value) (fa : Addr) (h : Heap), (K w.params).In h → h.Ns mainGlobals mg → mg d.name = some (.ref fa) →
      ∃ (fd : FuncData) (cm : Str → Addr), (∀ (s : Shared) (u : Value), BindsTo s fd ⟨[u], []⟩ [(x, u)]) ∧
        ∀ base : Heap, (K w.params).In base → base.Ns mainGlobals mg → FnD l.prog w (K w.params) mg base cm false k fa fd [x] (m w))
    (hm : ∀ (w : World) (ns : List Int), ns.length ≤ n → (∀ z ∈ ns, Builtin.Int.intBits z ≤ 1048576) → ∃ st, m w [.scr ns] st0 = .ok (.d (.bool true)) st) :
    PySem.W.WalkO q loose XP YP l.row.toRowW d [] (fun f vs => PySem.call f vs) := by
  refine Att.attach_callB hn hdf fun w s₀ s₁ mg mb fa o pm cd doc a vs ns G Y ho hd hcd hmg hobj hints hlen hbits hg => ?_
  obtain ⟨fd, cm, hb, hF⟩ := F w mg fa _ (hY w _ Y) G.T.g hmg
  exact fun_law (hY w _ Y) G.T.g G.T.b G.T.builtins G.T.nolimit hg hobj hints (Nat.le_trans hlen hn2) hr hF hb (hm w ns hlen hbits)
end Dm

set_option Elab.async false
set_option linter.all false
set_option maxRecDepth 100000
/-! The machine: repr. -/
namespace Dm
open PySem PySem.Spec PyProof.Rows L2

/-! ### an exception of an own class, made without arguments, shown -/
/-- the name of a class of the module -/
def nmIn (K : PySem.W.Frag) (C : Addr) : Option Str := match K.lookup C with
  | some o => (match o.data with | .cls cd => some cd.name | _ => none)
  | none => none
def headOf (c : Str) : Str := Str.ofString ((c.toString.cutAt '.').getLastD "")
/-- what repr wants to know of an own class -/
structure ExN (cm : Str → Addr) (K : PySem.W.Frag) (c : Str) : Prop where
  nm : nmIn K (cm c) = some c
  rp : PySem.W.findIn K (.ref (cm c)) "__repr__" = some (some (.builtin "BaseException.__repr__"))
  sb : PySem.W.subIn K (.ref (cm c)) (.type "BaseException") = some true
section
variable {prog : Program} {w : World} {A : Around} {E : Value → Shared → Prop} {s : Shared} {K : PySem.W.Frag} {C e t0 : Addr} {c : Str}
theorem nm_looks {M : Model} {h : Heap} (X : K.In h) (hn : nmIn K C = some c) : PySem.W.Looks M h (typeNameWhole (.ref C)) c.toString := by
  intro A Q E s k q
  unfold nmIn at hn
  cases hl : K.lookup C with
  | none => rw [hl] at hn; cases hn
  | some o =>
    rw [hl] at hn
    cases hd : o.data with
    | cls cd =>
      simp only [hd] at hn
      cases hn
      unfold typeNameWhole classData
      refine wpAny_bind (wpAny_bind (wpAny_load (k _ _ (X _ _ hl)) ?_))
      simp only [hd]
      exact wpAny_pure (wpAny_pure q)
    | _ => simp only [hd] at hn; cases hn
theorem exc_name {M : Model} {Q : String → Shared → Prop} (x : ExcC K C e t0 s.heap) (hn : nmIn K C = some c) (hq : Q c.toString s) : wpAny M A (typeNameOfWhole (.ref e)) Q E s := by
  unfold typeNameOfWhole shownTypeOf
  refine wpAny_bind (wpAny_bind (x.LT.here ?_))
  simp only [show (Value.ref C == Value.type "builtin_function_or_method") = false from rfl, Bool.false_eq_true, if_false]
  exact wpAny_pure ((nm_looks x.1 hn).here hq)
/-- the empty tuple's text under a head -/
theorem exc_body (b : Nat) (hg : ∃ g, A.guards = some g ∧ Clear g t0) (hu : A.units + 1 < cLine) {Q : Fin → Shared → Prop} (x : ExcC K C e t0 s.heap) (ht : s.heap.TupAt t0 []) (hn : nmIn K C = some c)
    (hq : ∀ h' u tk, (∀ b o, s.heap.get? b = some o → h'.get? b = some o) → Q (.done (.ret (.str (headOf c ++ tupleText []) u))) { s with heap := h', toks := tk }) (hsz : b + (headOf c ++ tupleText []).length ≤ sizeLine) :
    wpAny (model prog w) A (Builtin.bexcReprAt b ⟨[.ref e], []⟩) Q E s := by
  obtain ⟨g, hg, hcl⟩ := hg
  obtain ⟨ot, k, hto, htc, htd⟩ := id ht
  rw [strLen_append] at hsz
  unfold Builtin.bexcReprAt
  refine wpAny_bind (m := slotArgs "__repr__" 0 _) (wpAny_pure ?_)
  dsimp only
  refine wpAny_bind (exc_name x hn ?_)
  refine wpAny_bind (bexcArgs_C x ht ?_)
  dsimp only
  rw [show Str.ofString ((c.toString.cutAt '.').getLastD "") = headOf c from rfl]
  generalize headOf c = hd at hsz hq ⊢
  have rk : ReprK prog w (t0 :: []) s.heap (0 + 1) (.ref t0) (tupleText []) := ReprK.tuple hto htc htd (by simp) .nil
  refine wpAny_bind (rk (b + (hd).length) (by omega) A g E s _ hg (fun b hb => by simp at hb; rw [hb]; exact hcl) hu (fun _ _ e => e) fun h' tk hk => ?_)
  unfold retStr
  have hz : (hd ++ tupleText []).length ≤ sizeLine := by rw [strLen_append]; omega
  refine wpAny_bind (wpAny_mkStr (x := hd ++ tupleText []) ?_ hz)
  exact wpAny_pure (hq h' _ _ hk)
theorem exc_special (x : ExcC K C e t0 s.heap) (hr : PySem.W.findIn K (.ref C) "__repr__" = some (some (.builtin "BaseException.__repr__"))) {M : Model} : PySem.W.Looks M s.heap (specialOf (.ref e) "__repr__") (some (.builtin "BaseException.__repr__")) := by
  intro A Q E s' k q
  unfold specialOf
  exact wpAny_bind (x.LT A _ E s' k ((PySem.W.looks_findIn x.1 hr) A _ E s' k q))
theorem bex_bind (v : Value) : bindSpecial (.builtin "BaseException.__repr__") v = pure (.builtin "BaseException.__repr__", [v]) := F.excStr_Exception.repr.bind v
theorem exc_by {last : Value → List Value → Sem Value} {Q : Option Value → Shared → Prop} (x : ExcC K C e t0 s.heap) (hr : PySem.W.findIn K (.ref C) "__repr__" = some (some (.builtin "BaseException.__repr__")))
    (h : wpAny (model prog w) A (last (.builtin "BaseException.__repr__") [.ref e]) (fun v => Q (some v)) E s) : wpAny (model prog w) A (callSpecialIfBoundBy? last (.ref e) "__repr__") Q E s := by
  simp only [callSpecialIfBoundBy?, bindSpecialIfBound?]
  refine wpAny_holding (wpAny_bind (wpAny_bind ((exc_special x hr).here ?_)))
  simp only [bex_bind]
  have fin : wpAny (model prog w) A (do let r ← last (.builtin "BaseException.__repr__") [.ref e]; pure (some r)) Q E s := wpAny_bind (wpAny_mono h (fun _ _ z => wpAny_pure z) fun _ _ z => z)
  refine wpAny_bind (wpAny_askSetting (wpAny_ite ?_))
  split
  · exact wpAny_bind (wpAny_pure (wpAny_pure fin))
  · exact wpAny_tryCatch (wpAny_bind (wpAny_pure (wpAny_pure fin)))
theorem exc_check (x : ExcC K C e t0 s.heap) (hB : PySem.W.subIn K (.ref C) (.type "BaseException") = some true) {Q : Unit → Shared → Prop} (q : Q () s) : wpAny (model prog w) A (checkBuiltinCall "BaseException.__repr__" ⟨[.ref e], []⟩) Q E s :=
  @PySem.W.check_slot (model prog w) A E s "BaseException.__repr__" "BaseException" "__repr__" (.ref e) [] [] Q (by decide +kernel) (by decide +kernel) (x.LI hB) (F.args_bexc_repr _) q
/-- NoRow() as a part of something that is shown -/
theorem repr_exc {d : Nat} (hd : 2 ≤ d) (x : ExcC K C e t0 s.heap) (ht : s.heap.TupAt t0 []) (hn : nmIn K C = some c) (hr : PySem.W.findIn K (.ref C) "__repr__" = some (some (.builtin "BaseException.__repr__")))
    (hB : PySem.W.subIn K (.ref C) (.type "BaseException") = some true) : ReprK prog w [t0] s.heap d (.ref e) (headOf c ++ tupleText []) := by
  intro base hb A g E s' Q hg hcl hu hk hQ
  have x' : ExcC K C e t0 s'.heap := by
    obtain ⟨h1, o, vs, h2, h3⟩ := x
    exact ⟨h1.keeps hk, o, vs, hk _ _ h2, h3⟩
  have ht' : s'.heap.TupAt t0 [] := by
    obtain ⟨o, n, h1, h2⟩ := ht
    exact ⟨o, n, hk _ _ h1, h2⟩
  refine wpAny_pyReprUnder_ref (by omega) ?_
  unfold pyReprObjUnder pyReprObjBy
  refine wpAny_bind (wpAny_cRoomFor (by omega) ?_)
  refine wpAny_bind ((exc_special x' hr).here ?_)
  refine wpAny_bind (exc_by x' hr ?_)
  show wpAny _ _ (call (.builtin "BaseException.__repr__.under") [.ref e, rawInt base]) _ _ _
  refine wpAny_call (codeAny_call_builtin F.plain_bexc_repr_under F.entry_bexc_repr_under ?_)
  rw [F.check_bexc_repr_under]
  refine wpAny_pure ?_
  unfold Builtin.«BaseException.__repr__.under»
  rw [reprTwin_eq]
  refine wpAny_bind (exc_check x' hB ?_)
  refine exc_body (A := A.in1) base ⟨g, hg, hcl t0 (by simp)⟩ (by show A.units + 1 + 1 < cLine; omega) x' ht' hn (fun h' u tk k => ?_) hb
  exact wpAny_bind (wpAny_isInstance (T := "str") (b := true) rfl isSubtype_str_str (wpAny_pure ⟨_, _, rfl, hQ h' tk k⟩))
/-- repr(NoRow()) -/
theorem repr_exc_top (hg : A.guards = some []) (hu : A.units + 3 < cLine) (x : ExcC K C e t0 s.heap) (ht : s.heap.TupAt t0 []) (hn : nmIn K C = some c) (hr : PySem.W.findIn K (.ref C) "__repr__" = some (some (.builtin "BaseException.__repr__")))
    (hB : PySem.W.subIn K (.ref C) (.type "BaseException") = some true) {Q : Value → Shared → Prop} (hz : (headOf c ++ tupleText []).length ≤ sizeLine)
    (hQ : ∀ h' u tk, (∀ b o, s.heap.get? b = some o → h'.get? b = some o) → Q (.str (headOf c ++ tupleText []) u) { s with heap := h', toks := tk }) : wpAny (model prog w) A (call (.builtin "repr") [.ref e]) Q E s := by
  refine Calls.call_function_entry F.kind_repr F.plain_repr F.entry_repr (F.args_repr1 _) ?_
  unfold Builtin.«repr»
  refine wpAny_bind (m := oneArg "repr" _) (wpAny_pure ?_)
  refine wpAny_bind (m := cRoomFor _ _) (wpAny_cRoomFor (by show A.units + 1 < cLine; omega) ?_)
  refine wpAny_bind ((exc_special x hr).here ?_)
  refine wpAny_bind (m := callSpecialIfBound? (.ref e) (Str.ofString "__repr__")) ?_
  refine exc_by (last := fun g first => call g (first ++ [])) x hr ?_
  show wpAny _ _ (call (.builtin "BaseException.__repr__") [.ref e]) _ _ _
  refine wpAny_call (codeAny_call_builtin F.excStr_Exception.repr.plain F.entry_bexc_repr ?_)
  refine exc_check x hB ?_
  unfold Builtin.«BaseException.__repr__»
  refine exc_body (A := A.in1.in1) 0 ⟨[], hg, Clear.nil _⟩ (by show A.units + 1 + 1 + 1 < cLine; omega) x ht hn (fun h' u tk k => ?_) (by rw [Nat.zero_add]; exact hz)
  exact wpAny_bind (wpAny_isInstance (T := "str") (b := true) rfl isSubtype_str_str (wpAny_pure ⟨_, rfl, hQ h' u tk k⟩))
end

/-! ### data, shown -/
section
variable {K : PySem.W.Frag} {H : Hp} {nc : Addr → Prop}
mutual
theorem DD.det : ∀ {v : V} {x y : PyData}, DD K H nc v x → DD K H nc v y → x = y
  | _, _, _, .non, .non => rfl
  | _, _, _, .bl _, .bl _ => rfl
  | _, _, _, .int _, .int _ => rfl
  | _, _, _, .str _, .str _ => rfl
  | _, _, _, .lst h _ t, .lst h' _ t' => by
    rw [h] at h'; cases h'
    rw [DDs.det t t']
  | _, _, _, .tup h _ t, .tup h' _ t' => by
    rw [h] at h'; cases h'
    rw [DDs.det t t']
  | _, _, _, .lst h _ t, .tup h' _ t' => by rw [h] at h'; cases h'
  | _, _, _, .tup h _ t, .lst h' _ t' => by rw [h] at h'; cases h'
theorem DDs.det : ∀ {vs : List V} {xs ys : List PyData}, DDs K H nc vs xs → DDs K H nc vs ys → xs = ys
  | _, _, _, .nil, .nil => rfl
  | _, _, _, .cons h t, .cons h' t' => by rw [DD.det h h', DDs.det t t']
end
mutual
theorem DD.flat : ∀ {v : V} {x : PyData}, DD K H nc v x → x.hasDict = false
  | _, _, .non => by simp only [PyData.hasDict]
  | _, _, .bl _ => by simp only [PyData.hasDict]
  | _, _, .int _ => by simp only [PyData.hasDict]
  | _, _, .str _ => by simp only [PyData.hasDict]
  | _, _, .lst _ _ t => by simp only [PyData.hasDict]; exact DDs.flat t
  | _, _, .tup _ _ t => by simp only [PyData.hasDict]; exact DDs.flat t
theorem DDs.flat : ∀ {vs : List V} {xs : List PyData}, DDs K H nc vs xs → PyData.hasDictAll xs = false
  | _, _, .nil => by simp only [PyData.hasDictAll]
  | _, _, .cons h t => by simp only [PyData.hasDictAll, DD.flat h, DDs.flat t, Bool.or_self]
end
/-- the places of data no deeper than n -/
def DdAt (K : PySem.W.Frag) (H : Hp) (nc : Addr → Prop) (n : Nat) (bs : List Addr) : Prop := ∀ b ∈ bs, nc b ∧ ∃ y, DD K H nc (.ref b) y ∧ y.depth ≤ n
theorem DdAt.mono {n m : Nat} {bs : List Addr} (h : DdAt K H nc n bs) (l : n ≤ m) : DdAt K H nc m bs := fun b hb => let ⟨h1, y, h2, h3⟩ := h b hb; ⟨h1, y, h2, Nat.le_trans h3 l⟩
theorem DdAt.cons {n : Nat} {a : Addr} {bs : List Addr} {x : PyData} (h : DdAt K H nc n bs) (hn : nc a) (hd : DD K H nc (.ref a) x) (l : n ≤ x.depth) : DdAt K H nc x.depth (a :: bs) := fun b hb => by
  rcases List.mem_cons.mp hb with rfl | hb
  · exact ⟨hn, x, hd, Nat.le_refl _⟩
  · exact h.mono l b hb
theorem DdAt.not {n : Nat} {a : Addr} {bs : List Addr} {x : PyData} (h : DdAt K H nc n bs) (hd : DD K H nc (.ref a) x) (l : n < x.depth) : a ∉ bs := fun hm => by
  obtain ⟨_, y, h2, h3⟩ := h a hm
  rw [DD.det hd h2] at l
  omega
end
section
variable {X : Cx} {pins : List (Addr × Obj)} {σ : L2.St} {H : Hp} {s : Shared} {nc : Addr → Prop}
theorem rep_list {d : Nat} {a : Addr} {bs : List Addr} {us : List Value} {n : Nat} {o : Obj} {ts : List Str} (h1 : s.heap.get? a = some o) (h2 : o.cls = .type "list") (h3 : o.data = .seq us.toArray n) (hna : a ∉ bs) (hk : ReprAllK X.prog X.w bs s.heap d us ts) :
    ReprK X.prog X.w (a :: bs) s.heap (d + 1) (.ref a) (listText ts) := by
  cases us with
  | nil =>
    cases hk
    rw [listText_nil]
    exact (ReprK.listEmpty h1 h2 h3).more (fun _ z => z) 
  | cons u us => exact ReprK.list h1 h2 h3 hna (by simpa using hk.length_eq) (fun i y e => hk.item i y (by simpa using e))
mutual
theorem rep_dd (I : Inv X pins σ H s) : ∀ {v : V} {x : PyData} {u : Value}, DD X.K H nc v x → RelV v u → x.showable = true → x.shown.length ≤ sizeLine → ∃ bs, DdAt X.K H nc x.depth bs ∧ ReprK X.prog X.w bs s.heap x.depth u x.shown
  | _, _, _, .non, rfl, _, _ => ⟨[], (fun _ h => nomatch h), by simp only [PyData.shown]; exact .of_is ReprIs.none _ _ _⟩
  | _, _, _, .bl b, rfl, _, _ => ⟨[], (fun _ h => nomatch h), by simp only [PyData.shown]; exact .of_is (ReprIs.bool b) _ _ _⟩
  | _, _, _, .int i, ⟨t, rfl⟩, hs, _ => ⟨[], (fun _ h => nomatch h), by simp only [PyData.shown]; exact .of_is (ReprIs.int t (by simpa [PyData.showable] using hs)) _ _ _⟩
  | _, _, _, .str x, ⟨t, rfl⟩, _, hz => ⟨[], (fun _ h => nomatch h), by simp only [PyData.shown]; exact .of_is (ReprIs.str x t (by simpa only [PyData.shown] using hz)) _ _ _⟩
  | _, _, _, .lst (a := a) (ds := ds) h n t, rfl, hs, hz => by
    have hz' : (listText (PyData.shownAll ds)).length ≤ sizeLine := by simpa only [PyData.shown] using hz
    obtain ⟨us, rv, ⟨o, m, h1, h2, _, h4⟩, _⟩ := I.list (.inl (.of h))
    obtain ⟨bs, hb, hk⟩ := rep_dds I t rv (by simpa [PyData.showable] using hs) (fun q hq => Nat.le_trans (listText_mem_le hq) hz')
    have hd := DD.lst h n t
    have lt : PyData.depthAll ds < (PyData.list ds).depth := by simp only [PyData.depth]; omega
    refine ⟨a :: bs, hb.cons n hd (Nat.le_of_lt lt), ?_⟩
    simp only [PyData.depth, PyData.shown]
    exact rep_list h1 h2 h4 (hb.not hd lt) hk
  | _, _, _, .tup (a := a) (ds := ds) h n t, rfl, hs, hz => by
    have hz' : (tupleText (PyData.shownAll ds)).length ≤ sizeLine := by simpa only [PyData.shown] using hz
    obtain ⟨us, rv, ⟨o, h1, h2, m, h4⟩, _⟩ := I.tuple (.inl (.of h))
    obtain ⟨bs, hb, hk⟩ := rep_dds I t rv (by simpa [PyData.showable] using hs) (fun q hq => Nat.le_trans (tupleText_mem_le hq) hz')
    have hd := DD.tup h n t
    have lt : PyData.depthAll ds < (PyData.tuple ds).depth := by simp only [PyData.depth]; omega
    refine ⟨a :: bs, hb.cons n hd (Nat.le_of_lt lt), ?_⟩
    simp only [PyData.depth, PyData.shown]
    exact ReprK.tuple h1 h2 h4 (hb.not hd lt) (by simpa using hk)
theorem rep_dds (I : Inv X pins σ H s) : ∀ {vs : List V} {xs : List PyData} {us : List Value}, DDs X.K H nc vs xs → Vals vs us → PyData.showableAll xs = true → (∀ t ∈ PyData.shownAll xs, t.length ≤ sizeLine) → ∃ bs, DdAt X.K H nc (PyData.depthAll xs) bs ∧ ReprAllK X.prog X.w bs s.heap (PyData.depthAll xs) us (PyData.shownAll xs)
  | _, _, _, .nil, .nil, _, _ => ⟨[], (fun _ h => nomatch h), by simp only [PyData.shownAll]; exact .nil⟩
  | _, _, _, .cons (d := d) (ds := ds) h t, .cons r rs, hs, hz => by
    have hs' : d.showable = true ∧ PyData.showableAll ds = true := by simpa [PyData.showableAll] using hs
    obtain ⟨b1, hb1, k1⟩ := rep_dd I h r hs'.1 (hz _ (by simp only [PyData.shownAll]; exact List.mem_cons_self ..))
    obtain ⟨b2, hb2, k2⟩ := rep_dds I t rs hs'.2 (fun t ht => hz t (by simp only [PyData.shownAll]; exact List.mem_cons_of_mem _ ht))
    have l1 : d.depth ≤ PyData.depthAll (d :: ds) := by simp only [PyData.depthAll]; exact Nat.le_max_left _ _
    have l2 : PyData.depthAll ds ≤ PyData.depthAll (d :: ds) := by simp only [PyData.depthAll]; exact Nat.le_max_right _ _
    refine ⟨b1 ++ b2, fun b hb => (List.mem_append.mp hb).elim (fun z => hb1.mono l1 b z) (fun z => hb2.mono l2 b z), ?_⟩
    simp only [PyData.shownAll]
    exact .cons ((k1.more fun b hb => List.mem_append_left _ hb).level_le l1) (k2.more_le (fun b hb => List.mem_append_right _ hb) l2)
end
end

/-! ### values, shown -/
def keyText : Key → Str
  | .inl i => toString i
  | .inr x => reprText x
def keyFits : Key → Bool
  | .inl i => decide (i.natAbs.log2 < 1920)
  | .inr x => decide ((reprText x).length ≤ sizeLine)
def pairText (k : Key) (t : Str) : Str := keyText k ++ ": " ++ t
/-- a value's text; ps: the places around it -/
def showM (ex : List Str) : Nat → List Nat → Sto → MV → Option Str
  | _, _, _, .d x => if x.showable = true ∧ x.shown.length ≤ sizeLine ∧ x.depth ≤ 64 then some x.shown else none
  | n + 1, ps, st, .c i => if i ∈ ps then none else (match st.o i with
    | some (.lst xs) => (xs.mapM (showM ex n (i :: ps) st)).map listText
    | some (.tup xs) => (xs.mapM (showM ex n (i :: ps) st)).map tupleText
    | some (.dic kvs) => (kvs.mapM fun p => if keyFits p.1 = true then (showM ex n (i :: ps) st p.2).map (pairText p.1) else none).map dictText
    | some (.exc0 c) => if c ∈ ex then some (headOf c ++ tupleText []) else none
    | _ => none)
  | _, _, _, _ => none
/-- what may stand around -/
def Away (θ : Th) (st : Sto) (ps : List Nat) (bs : List Addr) : Prop := ∀ b ∈ bs, NC θ st b ∨ ∃ j, j ∉ ps ∧ (st.o j).isSome = true ∧ b = θ j
section
variable {X : Cx} {cm : Str → Addr} {pins : List (Addr × Obj)} {σ : L2.St} {H : Hp} {s : Shared} {θ : Th} {st : Sto} {ex : List Str}
theorem Away.nil {ps : List Nat} : Away θ st ps [] := fun _ h => nomatch h
theorem Away.app {ps : List Nat} {bs cs : List Addr} (h : Away θ st ps bs) (h' : Away θ st ps cs) : Away θ st ps (bs ++ cs) := fun b hb => (List.mem_append.mp hb).elim (h b) (h' b)
theorem Away.in_ {ps : List Nat} {i : Nat} {bs : List Addr} (h : Away θ st (i :: ps) bs) (hi : i ∉ ps) (hs : (st.o i).isSome = true) : Away θ st ps (θ i :: bs) := fun b hb => by
  rcases List.mem_cons.mp hb with rfl | hb
  · exact .inr ⟨i, hi, hs, rfl⟩
  · rcases h b hb with h | ⟨j, h1, h2⟩
    · exact .inl h
    · exact .inr ⟨j, fun z => h1 (List.mem_cons_of_mem _ z), h2⟩
theorem Away.not {ps : List Nat} {i : Nat} {bs : List Addr} {K : PySem.W.Frag} (hr : HR cm K θ st H) (h : Away θ st (i :: ps) bs) (hs : (st.o i).isSome = true) : θ i ∉ bs := fun hm => by
  rcases h _ hm with h | ⟨j, h1, h2, h3⟩
  · exact h i hs rfl
  · exact h1 (by rw [hr.inj i j hs h2 h3]; exact List.mem_cons_self)
theorem key_shown {k : Key} {v : Value} (hv : (mixKind X.prog X.w).is k v = true) (hf : keyFits k = true) (as : List Addr) (h : Heap) (d : Nat) : ReprK X.prog X.w as h d v (keyText k) := by
  rcases keyIs_shape hv with ⟨i, t, rfl, rfl⟩ | ⟨x, t, rfl, rfl⟩
  · exact .of_is (ReprIs.int t (by simpa [keyFits] using hf)) _ _ _
  · exact .of_is (ReprIs.str x t (by simpa [keyFits] using hf)) _ _ _
/-- a value as a part -/
def ShOk (X : Cx) (cm : Str → Addr) (θ : Th) (st : Sto) (H : Hp) (s : Shared) (ex : List Str) (n : Nat) : Prop := ∀ (ps : List Nat) (v : V) (m : MV) (u : Value) (t : Str), RM X.K θ st H v m → RelV v u → showM ex n ps st m = some t → ∃ bs, Away θ st ps bs ∧ ReprK X.prog X.w bs s.heap (n + 66) u t
theorem sh_all {n : Nat} (ih : ShOk X cm θ st H s ex n) {ps : List Nat} : ∀ {vs : List V} {ms : List MV} {us : List Value} {ts : List Str}, RMs X.K θ st H vs ms → Vals vs us → ms.mapM (showM ex n ps st) = some ts → ∃ bs, Away θ st ps bs ∧ ReprAllK X.prog X.w bs s.heap (n + 66) us ts
  | _, _, _, ts, .nil, .nil, e => by
    simp only [List.mapM_nil] at e
    cases e
    exact ⟨[], .nil, .nil⟩
  | _, m :: ms, _, ts, .cons h t, .cons r rs, e => by
    rw [List.mapM_cons] at e
    cases q : showM ex n ps st m with
    | none => rw [q] at e; cases e
    | some x =>
      cases q' : ms.mapM (showM ex n ps st) with
      | none => rw [q, q'] at e; cases e
      | some xs =>
        rw [q, q'] at e
        cases e
        obtain ⟨b1, a1, k1⟩ := ih ps _ _ _ _ h r q
        obtain ⟨b2, a2, k2⟩ := sh_all ih t rs q'
        exact ⟨b1 ++ b2, a1.app a2, .cons (k1.more fun b hb => List.mem_append_left _ hb) (k2.more_le (fun b hb => List.mem_append_right _ hb) (Nat.le_refl _))⟩
theorem ent_more {as as' : List Addr} {h : Heap} {d : Nat} (hs : ∀ b ∈ as, b ∈ as') : ∀ {es : List DictEntry} {ts : List Str}, ReprEntriesK X.prog X.w as h d es ts → ReprEntriesK X.prog X.w as' h d es ts
  | _, _, .nil => .nil
  | _, _, .cons a b c => .cons (a.more hs) (b.more hs) (ent_more hs c)
theorem sh_kvs {n : Nat} (ih : ShOk X cm θ st H s ex n) {ps : List Nat} : ∀ {kws : List (Key × V)} {kvs : List (Key × MV)} {vs : List (Key × Value)} {es : List DictEntry} {ts : List Str}, RFs X.K θ st H kws kvs → KV kws vs → Pairs (mixKind X.prog X.w) es vs →
    kvs.mapM (fun p => if keyFits p.1 = true then (showM ex n ps st p.2).map (pairText p.1) else none) = some ts → ∃ bs, Away θ st ps bs ∧ ReprEntriesK X.prog X.w bs s.heap (n + 66) es ts
  | _, _, _, _, ts, .nil, .nil, .nil, e => by
    simp only [List.mapM_nil] at e
    cases e
    exact ⟨[], .nil, .nil⟩
  | _, p :: kvs, _, _, ts, .cons h t, .cons r rs, .cons k1 k2 kr, e => by
    rw [List.mapM_cons] at e
    by_cases hf : keyFits p.1 = true
    · cases q : showM ex n ps st p.2 with
      | none => rw [if_pos hf, q] at e; cases e
      | some x =>
        cases q' : kvs.mapM (fun p => if keyFits p.1 = true then (showM ex n ps st p.2).map (pairText p.1) else none) with
        | none => rw [if_pos hf, q, q'] at e; cases e
        | some xs =>
          rw [if_pos hf, q, q'] at e
          cases e
          obtain ⟨h1, h2⟩ := h
          obtain ⟨r1, r2⟩ := r
          obtain ⟨b1, a1, w1⟩ := ih ps _ _ _ _ h2 r2 q
          obtain ⟨b2, a2, w2⟩ := sh_kvs ih t rs kr q'
          rw [← r1, h1] at k1
          rw [← k2] at w1
          exact ⟨b1 ++ b2, a1.app a2, .cons (key_shown k1 hf _ _ _) (w1.more fun b hb => List.mem_append_left _ hb) (ent_more (fun b hb => List.mem_append_right _ hb) w2)⟩
    · rw [if_neg hf] at e; cases e
theorem exc0_at (I : Inv X pins σ H s) (h : HR cm X.K θ st H) {i : Nat} {c : Str} (e : st.o i = some (.exc0 c)) : ∃ t0, ExcC X.K (cm c) (θ i) t0 s.heap ∧ s.heap.TupAt t0 [] ∧ NC θ st t0 := by
  obtain ⟨ho, h1, t0, rfl, h2, h3⟩ := h.obj i _ e
  obtain ⟨g1, _⟩ := I.hok _ _ h1
  obtain ⟨us, rv, ⟨o, q1, q2, m, q4⟩, _⟩ := I.tuple (.inl (.of h2))
  cases rv
  exact ⟨t0, ⟨I.kIn, _, _, g1, rfl, rfl, rfl⟩, ⟨o, m, q1, q2, q4⟩, h3⟩
theorem sh_ok (I : Inv X pins σ H s) (h : HR cm X.K θ st H) (he : ∀ c ∈ ex, ExN cm X.K c) : ∀ n, ShOk X cm θ st H s ex n := by
  intro n
  induction n with
  | zero =>
    intro ps v m u t r rv e
    cases m with
    | d x =>
      unfold showM at e
      by_cases hc : x.showable = true ∧ x.shown.length ≤ sizeLine ∧ x.depth ≤ 64
      · rw [if_pos hc] at e
        cases e
        obtain ⟨bs, hb, hk⟩ := rep_dd I r rv hc.1 hc.2.1
        exact ⟨bs, fun b hb' => .inl (hb b hb').1, hk.level_le (by have := hc.2.2; omega)⟩
      · rw [if_neg hc] at e; cases e
    | c i => cases e
    | scr ns => cases e
  | succ n ih =>
    intro ps v m u t r rv e
    cases m with
    | d x =>
      unfold showM at e
      by_cases hc : x.showable = true ∧ x.shown.length ≤ sizeLine ∧ x.depth ≤ 64
      · rw [if_pos hc] at e
        cases e
        obtain ⟨bs, hb, hk⟩ := rep_dd I r rv hc.1 hc.2.1
        exact ⟨bs, fun b hb' => .inl (hb b hb').1, hk.level_le (by have := hc.2.2; omega)⟩
      · rw [if_neg hc] at e; cases e
    | scr ns => cases e
    | c i =>
      obtain ⟨_, rfl⟩ := r
      cases (show u = Value.ref (θ i) from rv)
      unfold showM at e
      by_cases hi : i ∈ ps
      · rw [if_pos hi] at e; cases e
      · rw [if_neg hi] at e
        cases q : st.o i with
        | none => rw [q] at e; cases e
        | some ob =>
          rw [q] at e
          have hs : (st.o i).isSome = true := by rw [q]; rfl
          obtain ⟨ho, h1, hr⟩ := h.obj i _ q
          cases ob with
          | lst xs =>
            obtain ⟨ys, rfl, rp⟩ := hr
            cases q' : xs.mapM (showM ex n (i :: ps) st) with
            | none => simp only [q'] at e; cases e
            | some ts =>
              simp only [q'] at e
              cases e
              obtain ⟨us, rv, ⟨o, m, h1, h2, _, h4⟩, _⟩ := I.list (.inl (.of h1))
              obtain ⟨bs, a, k⟩ := sh_all ih rp rv q'
              exact ⟨θ i :: bs, a.in_ hi hs, (rep_list h1 h2 h4 (a.not (K := X.K) h hs) k).level_le (by omega)⟩
          | tup xs =>
            obtain ⟨ys, rfl, rp⟩ := hr
            cases q' : xs.mapM (showM ex n (i :: ps) st) with
            | none => simp only [q'] at e; cases e
            | some ts =>
              simp only [q'] at e
              cases e
              obtain ⟨us, rv, ⟨o, h1, h2, m, h4⟩, _⟩ := I.tuple (.inl (.of h1))
              obtain ⟨bs, a, k⟩ := sh_all ih rp rv q'
              exact ⟨θ i :: bs, a.in_ hi hs, (ReprK.tuple h1 h2 h4 (a.not (K := X.K) h hs) (by simpa using k)).level_le (by omega)⟩
          | dic kvs =>
            obtain ⟨kws, rfl, rf⟩ := hr
            cases q' : kvs.mapM (fun p => if keyFits p.1 = true then (showM ex n (i :: ps) st p.2).map (pairText p.1) else none) with
            | none => simp only [q'] at e; cases e
            | some ts =>
              simp only [q'] at e
              cases e
              obtain ⟨_, sys, vs, kv, o, es, ep, g1, g2, g3, _, g5, _⟩ := I.hok _ _ h1
              obtain ⟨bs, a, k⟩ := sh_kvs ih rf kv g5 q'
              exact ⟨θ i :: bs, a.in_ hi hs, (ReprK.dict g1 g2.1 g3 sys (a.not (K := X.K) h hs) k).level_le (by omega)⟩
          | exc0 c =>
            by_cases hc : c ∈ ex
            · simp only [if_pos hc] at e
              cases e
              obtain ⟨t0, x, ht, nc⟩ := exc0_at I h q
              have z := he c hc
              exact ⟨[t0], fun b hb => .inl (by simp at hb; rw [hb]; exact nc), repr_exc (by omega) x ht z.nm z.rp z.sb⟩
            · simp only [if_neg hc] at e; cases e
          | ins c fs => simp only at e; cases e
          | exc c fs => simp only at e; cases e
/-- repr(x) -/
def mRepr (ex : List Str) : List MV → M MV
  | [x] => fun st => match showM ex 20 [] st x with
    | some t => if t.length ≤ sizeLine then .ok (.d (.str t)) st else .bad
    | none => .bad
  | _ => bad
theorem clear_all {bs : List Addr} : ∀ b ∈ bs, Clear [] b := fun b _ => Clear.nil b
theorem repr_sc {u : Value} {x : PyData} (hx : x.showable = true) (hz : x.shown.length ≤ sizeLine) {v : V} (r : DD X.K H (NC θ st) v x) (rv : RelV v u) (hg : X.A.guards = some []) (hu : X.A.units + 500 < cLine) (hd : x.depth ≤ 64) (I : Inv X pins σ H s) {Q : VK} (q : Q (.str x.shown) H) :
    wpAny (model X.prog X.w) X.A (call (.builtin "repr") [u]) (EP X pins σ Q) X.xe s := by
  have hr := r
  obtain ⟨as, rd⟩ := Dp.reads I x v u (dp_of r) rv
  have fin : ∀ h' u tk, (∀ b o, s.heap.get? b = some o → h'.get? b = some o) → EP X pins σ Q (.str x.shown u) { s with heap := h', toks := tk } := fun h' u tk k => ⟨.str x.shown, H, I.kept k, ⟨u, rfl⟩, q⟩
  cases r with
  | non =>
    cases rv
    simp only [PyData.shown] at fin
    exact P.repr_of_none (fin s.heap _ _ fun _ _ e => e)
  | bl b =>
    cases rv
    simp only [PyData.shown] at fin
    exact P.repr_of_bool (fin s.heap _ _ fun _ _ e => e)
  | int i =>
    obtain ⟨t, rfl⟩ := rv
    simp only [PyData.shown] at fin
    exact P.repr_of_int (by simpa [PyData.showable] using hx) (fin s.heap _ _ fun _ _ e => e)
  | str z =>
    obtain ⟨t, rfl⟩ := rv
    simp only [PyData.shown] at fin hz
    exact P.repr_of_str (fin s.heap _ _ fun _ _ e => e) hz
  | lst h n t =>
    cases rv
    rename_i a xs ds
    refine repr_of_reads' rd hx (PyData.noDict_hsm (DD.flat (nc := NC θ st) hr)) hg (by omega) (fun _ _ e => e) fin hz
  | tup h n t =>
    cases rv
    rename_i a xs ds
    refine repr_of_reads' rd hx (PyData.noDict_hsm (DD.flat (nc := NC θ st) hr)) hg (by omega) (fun _ _ e => e) fin hz
theorem cd_repr (hg : X.A.guards = some []) (hu : X.A.units + 500 < cLine) (he : ∀ c ∈ ex, ExN cm X.K c) : CD X cm (.builtin "repr") (mRepr ex) := by
  refine ⟨fun xs H Q => ∃ x θ st m t, xs = [x] ∧ HR cm X.K θ st H ∧ RM X.K θ st H x m ∧ showM ex 20 [] st m = some t ∧ t.length ≤ sizeLine ∧ Q (.str t) H, ?_, fun W θ st σ H xs vs Q h r o => ?_⟩
  · intro pins s σ H xs us Q I r h
    obtain ⟨x, θ, st, m, t, rfl, h, rm, e, hz, q⟩ := h
    cases r with
    | cons rv r0 =>
      rename_i u us
      cases r0
      have fin : ∀ h' u tk, (∀ b o, s.heap.get? b = some o → h'.get? b = some o) → EP X pins σ Q (.str t u) { s with heap := h', toks := tk } := fun h' u tk k => ⟨.str t, H, I.kept k, ⟨u, rfl⟩, q⟩
      have fin2 : ∀ h' u tk, (∀ b o, s.heap.get? b = some o → h'.get? b = some o) → ∃ x t1, Value.str t u = .str x t1 ∧ EP X pins σ Q (.str t u) { s with heap := h', toks := tk } := fun h' u tk k => ⟨_, _, rfl, fin h' u tk k⟩
      cases m with
      | d p =>
        unfold showM at e
        by_cases hc : p.showable = true ∧ p.shown.length ≤ sizeLine ∧ p.depth ≤ 64
        · rw [if_pos hc] at e
          cases e
          exact repr_sc hc.1 hc.2.1 rm rv hg hu hc.2.2 I q
        · rw [if_neg hc] at e; cases e
      | scr ns => cases e
      | c i =>
        have ih := sh_ok I h he 19
        obtain ⟨_, rfl⟩ := rm
        cases (show u = Value.ref (θ i) from rv)
        unfold showM at e
        rw [if_neg (by simp)] at e
        cases qo : st.o i with
        | none => rw [qo] at e; cases e
        | some ob =>
          rw [qo] at e
          have hs : (st.o i).isSome = true := by rw [qo]; rfl
          obtain ⟨ho, h1, hr⟩ := h.obj i _ qo
          cases ob with
          | lst xs =>
            obtain ⟨ys, rfl, rp⟩ := hr
            cases q' : xs.mapM (showM ex 19 (i :: []) st) with
            | none => simp only [q'] at e; cases e
            | some ts =>
              simp only [q'] at e
              cases e
              obtain ⟨us, rv, ⟨o, m, h1, h2, _, h4⟩, _⟩ := I.list (.inl (.of h1))
              obtain ⟨bs, a, k⟩ := sh_all ih rp rv q'
              refine call_repr_slot (by omega) ⟨o, h1, h2⟩ PySem.F.slot_list_repr.toG ?_
              cases us with
              | nil =>
                cases k
                rw [listText_nil] at fin2
                exact call_list_repr_empty ⟨o, h1, h2⟩ h1 h4 (fin2 s.heap _ _ fun _ _ e => e)
              | cons u us => exact call_list_reprK h1 h2 h4 (a.not (K := X.K) h hs) (by simpa using k.length_eq) (fun i y e => k.item i y (by simpa using e)) hg (fun b _ => Clear.nil b) (by show X.A.units + 1 + (19 + 66 + 1) < cLine; omega) (fun _ _ e => e) fin2 hz
          | tup xs =>
            obtain ⟨ys, rfl, rp⟩ := hr
            cases q' : xs.mapM (showM ex 19 (i :: []) st) with
            | none => simp only [q'] at e; cases e
            | some ts =>
              simp only [q'] at e
              cases e
              obtain ⟨us, rv, ⟨o, h1, h2, m, h4⟩, _⟩ := I.tuple (.inl (.of h1))
              obtain ⟨bs, a, k⟩ := sh_all ih rp rv q'
              refine call_repr_slot (by omega) ⟨o, h1, h2⟩ PySem.F.slot_tuple_repr ?_
              exact call_tuple_reprK h1 h2 h4 (a.not (K := X.K) h hs) (by simpa using k) hg (fun b _ => Clear.nil b) (by show X.A.units + 1 + (19 + 66 + 1) < cLine; omega) (fun _ _ e => e) fin2 hz
          | dic kvs =>
            obtain ⟨kws, rfl, rf⟩ := hr
            cases q' : kvs.mapM (fun p => if keyFits p.1 = true then (showM ex 19 (i :: []) st p.2).map (pairText p.1) else none) with
            | none => simp only [q'] at e; cases e
            | some ts =>
              simp only [q'] at e
              cases e
              obtain ⟨_, sys, vs, kv, o, es, ep, g1, g2, g3, _, g5, _⟩ := I.hok _ _ h1
              obtain ⟨bs, a, k⟩ := sh_kvs ih rf kv g5 q'
              refine call_repr_slot (by omega) ⟨o, g1, g2.1⟩ PySem.F.slot_dict_repr ?_
              exact call_dict_reprK g1 g2.1 g3 sys (a.not (K := X.K) h hs) k hg (fun b _ => Clear.nil b) (by show X.A.units + 1 + (19 + 66 + 1) < cLine; omega) (fun _ _ e => e) fin2 hz
          | exc0 c =>
            by_cases hc : c ∈ ex
            · simp only [if_pos hc] at e
              cases e
              obtain ⟨t0, x, ht, nc⟩ := exc0_at I h qo
              have z := he c hc
              exact repr_exc_top hg (by omega) x ht z.nm z.rp z.sb hz fin
            · simp only [if_neg hc] at e; cases e
          | ins c fs => simp only at e; cases e
          | exc c fs => simp only at e; cases e
  · match vs, r, o with
    | [m], r, o =>
      obtain ⟨x, rfl, rx⟩ := rms1 r
      have o : Out (RM X.K) cm X.K W θ st σ H Q (match showM ex 20 [] st m with
        | some t => if t.length ≤ sizeLine then .ok (.d (.str t)) st else .bad
        | none => .bad) := o
      split at o
      · rename_i t et
        split at o
        · rename_i hz
          exact ⟨x, θ, st, m, t, rfl, h, rx, et, hz, o.val h (.str _)⟩
        · exact False.elim o
      · exact False.elim o
    | [], r, o => exact False.elim o
    | _ :: _ :: _, r, o => exact False.elim o
end
end Dm

set_option Elab.async false
set_option linter.all false
set_option maxRecDepth 100000
/-! The machine: an own exception as a value. -/
namespace Dm
open PySem PySem.Spec PyProof.Rows L2

abbrev veTail : List Value := [.type "ValueError", .type "Exception", .type "BaseException", .type "object"]
/-- what it takes to make one without arguments -/
structure ExM (X : Cx) (cm : Str → Addr) (x : Str) (c : Str) : Prop where
  q : PySem.W.excIn X.K (cm c) veTail "ValueError.__new__" = true
  g : X.mg x = some (.ref (cm c))
  k : PySem.W.keepIn X.K (.ref (cm c)) = true
def mExc0 (c : Str) : Env → M MV := fun _ st => .ok (.c st.n) (st.new (.exc0 c))
section
variable {X : Cx} {cm : Str → Addr} {W : WX} {pos p : Pos} {x c : Str}
theorem de_exc0 (m : ExM X cm x c) (hg : Gl X x) (hdb : (x == ("__debug__" : Str)) = false := by decide) : DE X cm W (.Call (.Name x p) [] [] pos) (mExc0 c) := by
  refine ⟨fun σ H Q => ∀ t e, H t = none → upd H t (.tup []) e = none → Q (.ref e) (upd (upd H t (.tup [])) e (Ex0 (.ref (cm c)) t e)), ⟨fun pins s σ H Q I h => ?_⟩, fun θ st σ ρ H Q h er o t e ht he => ?_⟩
  · refine wpAny_Call_Name_kw (ld_glob I hg m.g ?_ hdb)
    refine PySem.W.callWith_K0 I.kIn m.k ?_
    obtain ⟨bm, N, nm, qn, bs, hdct, sn, sub, ab, col, dd, k0, k1, k2, k3, k5, mN, hC, hN, hni, T⟩ := exc_obj I.kIn m.q
    refine wpAny_call_exc_subT PySem.F.excBase_ValueError T hC hN hni (fun h' a hm => ?_) (by show 0 ≤ sizeLine; omega)
    obtain ⟨t, h1, h2, h3⟩ := hm.there
    have hne : t ≠ a := fun z => by
      rw [z, h1] at h3
      cases h3
    have nt : H t = none := I.hok.gone h2
    have na : H a = none := I.hok.gone hm.new
    obtain ⟨G, g1, g2⟩ := restrict h' fun b => decide (b ≠ a)
    have gk : ∀ b, b ≠ a → G.get? b = h'.get? b := fun b hb => g1 b (decide_eq_true hb)
    have ga : G.get? a = none := g2 a (decide_eq_false fun z => z rfl)
    have k1 : ∀ b u, s.heap.get? b = some u → G.get? b = some u := fun b u e => by
      rw [gk b fun z => by rw [z, hm.new] at e; cases e]
      exact hm.keeps b u e
    have k2 : ∀ b u, G.get? b = some u → h'.get? b = some u := fun b u e => by
      rw [← gk b fun z => by rw [z, ga] at e; cases e]
      exact e
    have I1 : Inv X pins σ (upd H t (.tup [])) { s with heap := G, toks := s.toks } := I.laidN k1 h2 nt ⟨Nat.zero_le _, [], .nil, { cls := .type "tuple", data := .seq ([] : List Value).toArray }, by rw [gk t hne]; exact h3, rfl, _, rfl⟩
    have na2 : upd H t (.tup []) a = none := by rw [upd_ne hne.symm]; exact na
    have I2 := I1.laidN (h' := h') (o := Ex0 (.ref (cm c)) t a) (t' := s.toks) k2 ga na2 ⟨h1, ⟨_, h1⟩, fun _ _ z k => k _ z⟩
    exact ⟨.ref a, _, I2, rfl, h t a nt na2⟩
  · have g1 := gr_fresh h ht (.tup [])
    have h1 := hr_fresh h ht (.tup [])
    have nt : NC θ st t := h.apart ht
    have g2 := gr_cell h1 he (Ex0 (.ref (cm c)) t e) (.exc0 c)
    obtain ⟨q1, q2⟩ := g2.fz t (.tup []) upd_same nt
    have h2 := hr_cell h1 he (u := Ex0 (.ref (cm c)) t e) (o := .exc0 c) ⟨t, rfl, q1, q2⟩
    exact o _ _ _ (g1.trans g2) h2 ⟨Nat.lt_succ_self _, by rw [thn_new]⟩
end
end Dm

set_option Elab.async false
set_option linter.all false
set_option maxRecDepth 100000
/-! The machine: defs by names; the program's facts; the head. -/
namespace Dm
open PySem PySem.Spec PyProof.Rows L2

/-! ### a def by its name -/
structure CallF (P : Program) (w : World) (K : PySem.W.Frag) (mg : Str → Option Value) (base : Heap) (cm : Str → Addr) (hot : Bool) (k : Nat) (x : Str) (m : MFn) : Prop where
  ex : ∃ (f : Addr) (fd : FuncData) (ps : List Str), FnD P w K mg base cm hot k f fd ps m ∧ Binds K fd ps [] ∧ mg x = some (.ref f) ∧ PySem.W.keepIn K (.ref f) = true
theorem FnD.mono {P : Program} {w : World} {K : PySem.W.Frag} {mg : Str → Option Value} {base : Heap} {cm : Str → Addr} {hot : Bool} {j k : Nat} {f : Addr} {fd : FuncData} {ps : List Str} {m : MFn} (F : FnD P w K mg base cm hot j f fd ps m) (h : j ≤ k) : FnD P w K mg base cm hot k f fd ps m :=
  ⟨F.len, fun A outer s H args us vs Q E θ st ms hr => F.run A outer s H args us vs Q E θ st ms (hr.mono h)⟩
section
variable {X : Cx} {cm : Str → Addr} {W : WX} {hot : Bool} {j k : Nat} {m : MFn} {x : Str} {p pos : Pos} {e : Expr} {es : List Expr} {gs : Env → M (List MV)}
theorem de_cf (F : CallF X.prog X.w X.K X.mg X.base cm hot j x m) (hr : RoomD hot k X.A) (hj : j ≤ k) (tk : Takes X W) (ha : DA X cm W (e :: es) gs) (hg : Gl X x) (hdb : (x == ("__debug__" : Str)) = false := by decide)
    (he : starEach (e :: es) X.env = (false, eval e X.env) :: starEach es X.env := by rfl) (hpl : (backTo pos (starEach es X.env)).any (·.1) = false := by rfl) : DE X cm W (.Call (.Name x p) (e :: es) [] pos) (mCall m gs) := by
  obtain ⟨f, fd, ps, h1, h2, h3, h4⟩ := F.ex
  exact de_call (h1.mono hj) hr h2 h3 h4 tk ha hg hdb he hpl
theorem de_cf0 (F : CallF X.prog X.w X.K X.mg X.base cm hot j x m) (hr : RoomD hot k X.A) (hj : j ≤ k) (tk : Takes X W) (hg : Gl X x) (hdb : (x == ("__debug__" : Str)) = false := by decide) : DE X cm W (.Call (.Name x p) [] [] pos) (fun _ => m []) := by
  obtain ⟨f, fd, ps, h1, h2, h3, h4⟩ := F.ex
  exact de_call0 (h1.mono hj) hr h2 h3 h4 tk hg hdb
end
section
variable {P : Program} {w : World} {K : PySem.W.Frag} {mg : Str → Option Value} {base : Heap} {cm : Str → Addr} {hot : Bool} {k : Nat} {x qual : Str} {sd : Stmt} {N ps : List Str} {fb : Env → Sto → SRes} {f : Addr} {fd : FuncData}
theorem takesD {scope : Scope} {cd : Value} {A : Around} {outer : List PySem.Env} {s : Shared} {H : Hp} {E : XK} : Takes (cxD hot P w K mg base N qual scope f cd A outer s H E) (fun c d _ H => E c d H) := takes_of rfl rfl rfl rfl
theorem passesD {scope : Scope} {cd : Value} {A : Around} {outer : List PySem.Env} {s : Shared} {H : Hp} {E : XK} :
    PassesOwn (model (cxD hot P w K mg base N qual scope f cd A outer s H E).prog (cxD hot P w K mg base N qual scope f cd A outer s H E).w) (cxD hot P w K mg base N qual scope f cd A outer s H E).A (cxD hot P w K mg base N qual scope f cd A outer s H E).env (cxD hot P w K mg base N qual scope f cd A outer s H E).xe :=
  passes_of (X := cxD hot P w K mg base N qual scope f cd A outer s H E) rfl
theorem funOf (F : FunD K x qual (defArgs sd) (defBody sd) (defScope sd) [] [] f fd) : L2.Fun K x qual sd f fd := by
  obtain ⟨oc, od, dV, kV, doc, pm, an, cdv, ct, osl, rfl, lk, hcd, hD, _⟩ := F.ex
  rcases hD with ⟨_, rfl⟩ | ⟨e, _⟩
  · exact ⟨⟨oc, od, kV, doc, pm, an, cdv, ct, osl, rfl, lk, hcd⟩, F.kp⟩
  · exact absurd rfl e
theorem callF_of (F : ∃ fd, FunD K x qual (defArgs sd) (defBody sd) (defScope sd) [] [] f fd) (g : mg x = some (.ref f)) (S : FnScope N ps (defScope sd))
    (hb : ∀ (kV doc pm : Value) (an : Option Addr) (cdv ct : Value) (us : List Value), us.length = ps.length → bindArgs (PySem.W.fnOf x qual (defArgs sd) (defBody sd) (defScope sd) .none kV doc pm an cdv ct) ⟨us, []⟩ = pure (ps.zip us))
    (hbody : ∀ (cdv : Value) (A : Around) (outer : List PySem.Env) (s : Shared) (H : Hp) (E : XK), RoomD hot k (A.deeper (envOfC qual (defScope sd) s.heap.objs.size f cdv)) →
      DSs (cxD hot P w K mg base N qual (defScope sd) f cdv A outer s H E) cm (fun c d _ H => E c d H) (defBody sd) fb) : CallF P w K mg base cm hot (k + 1) x (mFn ps.length N.length fb) := by
  obtain ⟨fd, F⟩ := F
  exact ⟨f, fd, ps, fnd_of (funOf F) S hbody, F.bindsN hb, g, F.kp⟩
end

/-! ### facts -/
/-- a class: a built-in one, an own one -/
abbrev ClsN : Type := String ⊕ Str
def ClsN.val (K : PySem.W.Frag) : ClsN → Value
  | .inl n => .type n
  | .inr c => .ref (He.ga K c)
inductive Fx where
  /-- an own exception class that repr may meet -/
  | shown (c : Str)
  /-- instances, exceptions of the class, asked by isinstance -/
  | insC (c : Str)
  | excC (c : Str)
  /-- is the first a subclass of the second -/
  | isi (t c : ClsN) (b : Bool)
def objGet : Bool := true
def Fx.ok (K : PySem.W.Frag) : Fx → Bool
  | .shown c => decide (nmIn K (He.ga K c) = some c) && (He.eqO (PySem.W.findIn K (.ref (He.ga K c)) "__repr__") (some (some (.builtin "BaseException.__repr__"))) && decide (PySem.W.subIn K (.ref (He.ga K c)) (.type "BaseException") = some true))
  | .insC c => (He.Fa.cls c).ok K && (He.eqO (PySem.W.findIn K (.ref (He.ga K c)) "__class__") (some (some (.builtin "object.__class__"))) && (He.eqO (PySem.W.specialIn K (.builtin "object.__class__") "__get__") (some (some (.builtin "getset_descriptor.__get__"))) &&
      (decide (PySem.W.takesIn K (.builtin "object.__class__") = some true) && decide (PySem.W.mroIn K (He.ga K c) (.type "object") = some true))))
  | .excC c => He.eqO (PySem.W.findIn K (.ref (He.ga K c)) "__getattribute__") (some (some (.builtin "BaseException.__getattribute__"))) && (He.eqO (PySem.W.findIn K (.ref (He.ga K c)) "__getattr__") (some none) && (decide (PySem.W.subIn K (.ref (He.ga K c)) (.type "BaseException") = some true) &&
      (PySem.W.hasDictIn K (He.ga K c) && (He.eqO (PySem.W.findIn K (.ref (He.ga K c)) "__class__") (some (some (.builtin "object.__class__"))) && (He.eqO (PySem.W.specialIn K (.builtin "object.__class__") "__get__") (some (some (.builtin "getset_descriptor.__get__"))) &&
      (decide (PySem.W.takesIn K (.builtin "object.__class__") = some true) && decide (PySem.W.mroIn K (He.ga K c) (.type "object") = some true)))))))
  | .isi t c b => decide (PySem.W.kitOne K (t.val K) (c.val K) = some b)
/-- the classes' addresses -/
abbrev cmK (K : PySem.W.Frag) : Str → Addr := fun c => He.ga K c
section
variable {K : PySem.W.Frag} {c : Str}
theorem shown_ok (h : (Fx.shown c).ok K = true) : ExN (cmK K) K c := by
  obtain ⟨h1, h⟩ := He.ba h
  obtain ⟨h2, h3⟩ := He.ba h
  exact ⟨of_decide_eq_true h1, He.eqO_ok h2, of_decide_eq_true h3⟩
theorem insC_ok (h : (Fx.insC c).ok K = true) : InsC K (cmK K c) := by
  obtain ⟨h1, h⟩ := He.ba h
  obtain ⟨h2, h⟩ := He.ba h
  obtain ⟨h3, h⟩ := He.ba h
  obtain ⟨h4, h5⟩ := He.ba h
  exact ⟨He.cls_ok h1, He.eqO_ok h2, He.eqO_ok h3, of_decide_eq_true h4, of_decide_eq_true h5⟩
theorem excC_ok (h : (Fx.excC c).ok K = true) : L2.ExcC K (cmK K c) := by
  obtain ⟨h1, h⟩ := He.ba h
  obtain ⟨h2, h⟩ := He.ba h
  obtain ⟨h3, h⟩ := He.ba h
  obtain ⟨h4, h⟩ := He.ba h
  obtain ⟨h5, h⟩ := He.ba h
  obtain ⟨h6, h⟩ := He.ba h
  obtain ⟨h7, h8⟩ := He.ba h
  exact ⟨He.eqO_ok h1, He.eqO_ok h2, of_decide_eq_true h3, h4, He.eqO_ok h5, He.eqO_ok h6, of_decide_eq_true h7, of_decide_eq_true h8⟩
theorem exM_ok {X : Cx} (hK : X.K = K) (h : (He.Fa.exc c).ok K = true) (g : X.mg c = some (.ref (He.ga K c))) : ExM X (cmK K) c c := by
  obtain ⟨h1, h2, _⟩ := He.exc_ok h
  subst hK
  exact ⟨h1, g, h2⟩
end

/-! ### the head -/
abbrev SaysM (fa : List He.Fa) (fn : List He.DefD) (fx : List Fx) (w : World) (h : Heap) (K : PySem.W.Frag) : Prop := He.SaysX fa fn [] [] (fun K => fx.all fun f => f.ok K) w h K
abbrev hookM (n : Nat) (fa : List He.Fa) (fn : List He.DefD) (fx : List Fx) : PySem.W.Hook := He.hookX n fa fn [] [] (fun K => fx.all fun f => f.ok K)
theorem fx_of {fa : List He.Fa} {fn : List He.DefD} {fx : List Fx} {w : World} {h : Heap} {K : PySem.W.Frag} (c : SaysM fa fn fx w h K) {f : Fx} (hf : f ∈ fx) : f.ok K = true := List.all_eq_true.mp c.more f hf
theorem walk_dE {l : PySem.W.OpenLaw} {n k : Nat} {q : Program} {loose : List Str} {XP : (Str → Option Value) → Heap → Prop} {YP : World → Heap → Prop} {d : DefRec} {x : Str} {m : MFn}
    (hn : l.most = some n) (hn2 : n ≤ sizeLine) (hdf : d.params.defaults = []) (hr : RoomD false k callerA)
    (F : ∀ (w : World) (mg : Str → Option Value) (fa : Addr) (h : Heap), YP w h → h.Ns mainGlobals mg → mg d.name = some (.ref fa) →
      ∃ (K : PySem.W.Frag) (fd : FuncData) (cm : Str → Addr), K.In h ∧ (∀ (s : Shared) (u : Value), BindsTo s fd ⟨[u], []⟩ [(x, u)]) ∧
        ∀ base : Heap, K.In base → base.Ns mainGlobals mg → FnD l.prog w K mg base cm false k fa fd [x] m)
    (hm : ∀ (ns : List Int), ns.length ≤ n → (∀ z ∈ ns, Builtin.Int.intBits z ≤ 1048576) → ∃ st, m [.scr ns] st0 = .ok (.d (.bool true)) st) :
    PySem.W.WalkO q loose XP YP l.row.toRowW d [] (fun f vs => PySem.call f vs) := by
  refine Att.attach_callB hn hdf fun w s₀ s₁ mg mb fa o pm cd doc a vs ns G Y ho hd hcd hmg hobj hints hlen hbits hg => ?_
  obtain ⟨K, fd, cm, KX, hb, hF⟩ := F w mg fa _ Y G.T.g hmg
  exact fun_law KX G.T.g G.T.b G.T.builtins G.T.nolimit hg hobj hints (Nat.le_trans hlen hn2) hr hF hb (hm ns hlen hbits)

theorem fx_at {fa : List He.Fa} {fn : List He.DefD} {fx : List Fx} {w : World} {h : Heap} {K : PySem.W.Frag} (c : SaysM fa fn fx w h K) (i : Nat) {f : Fx} (hf : fx[i]? = some f := by rfl) : f.ok K = true := fx_of c (List.mem_of_getElem? hf)
theorem isi_ok {K : PySem.W.Frag} {t c : ClsN} {b : Bool} (h : (Fx.isi t c b).ok K = true) : PySem.W.kitOne K (t.val K) (c.val K) = some b := of_decide_eq_true h
theorem allN {α : Type} {p : α → Prop} : ∀ q ∈ ([] : List α), p q := fun _ h => nomatch h
theorem allC {α : Type} {p : α → Prop} {a : α} {l : List α} (h : p a) (t : ∀ q ∈ l, p q) : ∀ q ∈ a :: l, p q := fun q hq => by
  rcases List.mem_cons.mp hq with rfl | hq
  · exact h
  · exact t q hq
section
variable {X : Cx} {cm : Str → Addr} {W : WX} {pos : Pos} {x : Str}
theorem de_gi {i : Int} (hg : Gl X x) (h : ∃ t, X.mg x = some (.int i t)) (hd : (x == ("__debug__" : Str)) = false := by decide) : DE X cm W (.Name x pos) (mC (.int i)) := by
  obtain ⟨t, e⟩ := h
  exact de_gint hg e ⟨t, rfl⟩ hd
theorem de_gs {y : Str} (hg : Gl X x) (h : ∃ t, X.mg x = some (.str y t)) (hd : (x == ("__debug__" : Str)) = false := by decide) : DE X cm W (.Name x pos) (mC (.str y)) := by
  obtain ⟨t, e⟩ := h
  exact de_gstr hg e ⟨t, rfl⟩ hd
end
end Dm

set_option Elab.async false
set_option linter.all false
set_option maxRecDepth 100000
/-! The machine's plain side: what a mirror does, by its parts. -/
namespace Dm
open PySem PySem.Spec PyProof.Rows L2

abbrev XP : Type := Str → List (Str × MV) → Sto → Prop
abbrev noX : XP := fun _ _ _ => False
def Wp {α : Type} (m : M α) (st : Sto) (Q : α → Sto → Prop) (E : XP) : Prop := match m st with
  | .ok a s => Q a s
  | .exc c fs s => E c fs s
  | .bad => False
structure Po where
  nx : Env → Sto → Prop
  rt : MV → Sto → Prop
  bk : Env → Sto → Prop := fun _ _ => False
  ct : Env → Sto → Prop := fun _ _ => False
  ex : XP := noX
def Ws (f : Env → Sto → SRes) (ρ : Env) (st : Sto) (D : Po) : Prop := match f ρ st with
  | .nx ρ s => D.nx ρ s
  | .rt v s => D.rt v s
  | .bk ρ s => D.bk ρ s
  | .ct ρ s => D.ct ρ s
  | .exc c fs _ s => D.ex c fs s
  | .bad => False
section
variable {α β : Type} {m : M α} {k : α → M β} {st : Sto} {Q Q' : α → Sto → Prop} {R : β → Sto → Prop} {E E' : XP} {D D' : Po} {ρ : Env} {f g : Env → Sto → SRes}
theorem Wp.imp (h : Wp m st Q E) (hq : ∀ a s, Q a s → Q' a s) (he : ∀ c fs s, E c fs s → E' c fs s) : Wp m st Q' E' := by
  unfold Wp at h ⊢
  cases e : m st with
  | ok a s => rw [e] at h; exact hq a s h
  | exc c fs s => rw [e] at h; exact he c fs s h
  | bad => rw [e] at h; exact h
theorem Wp.then (h : Wp m st Q noX) (hq : ∀ a s, Q a s → Q' a s) : Wp m st Q' E := h.imp hq fun _ _ _ z => z.elim
theorem Ws.imp (h : Ws f ρ st D) (h1 : ∀ ρ s, D.nx ρ s → D'.nx ρ s) (h2 : ∀ v s, D.rt v s → D'.rt v s) (h3 : ∀ ρ s, D.bk ρ s → D'.bk ρ s) (h4 : ∀ ρ s, D.ct ρ s → D'.ct ρ s) (h5 : ∀ c fs s, D.ex c fs s → D'.ex c fs s) : Ws f ρ st D' := by
  unfold Ws at h ⊢
  cases e : f ρ st with
  | nx ρ s => rw [e] at h; exact h1 _ _ h
  | rt v s => rw [e] at h; exact h2 _ _ h
  | bk ρ s => rw [e] at h; exact h3 _ _ h
  | ct ρ s => rw [e] at h; exact h4 _ _ h
  | exc c fs ρ s => rw [e] at h; exact h5 _ _ _ h
  | bad => rw [e] at h; exact h
theorem wp_of (h : Wp m st Q noX) : ∃ a s, m st = .ok a s ∧ Q a s := by
  unfold Wp at h
  cases e : m st with
  | ok a s => rw [e] at h; exact ⟨a, s, rfl, h⟩
  | exc c fs s => rw [e] at h; exact h.elim
  | bad => rw [e] at h; exact h.elim
theorem wp_bnd : Wp (bnd m k) st R E = Wp m st (fun a s => Wp (k a) s R E) E := by
  unfold Wp bnd
  cases m st <;> rfl
theorem wp_bndf : Wp (fun s => bnd m k s) st R E = Wp m st (fun a s => Wp (k a) s R E) E := wp_bnd
theorem wp_ret {a : α} : Wp (ret a) st Q E = Q a st := rfl
theorem wp_bad : Wp (bad : M α) st Q E = False := rfl
theorem wp_fun {h : Sto → Res α} : Wp (fun s => h s) st Q E = (match h st with | .ok a s => Q a s | .exc c fs s => E c fs s | .bad => False) := rfl
theorem wp_ite {c : Prop} [Decidable c] {m' : M α} : Wp (if c then m else m') st Q E = if c then Wp m st Q E else Wp m' st Q E := by split <;> rfl
theorem ws_sq : Ws (sq f g) ρ st D = Ws f ρ st { D with nx := fun ρ' s => Ws g ρ' s D } := by
  unfold Ws sq
  cases f ρ st <;> rfl
theorem ws_sb {k : α → Sto → SRes} (h : f ρ = sb m ρ k) : Ws f ρ st D = Wp m st (fun a s => Ws (fun _ => k a) ρ s D) D.ex := by
  unfold Ws
  rw [h]
  unfold sb Wp
  cases m st <;> rfl
theorem ws_nx : Ws (fun ρ st => .nx ρ st) ρ st D = D.nx ρ st := rfl
theorem ws_bk : Ws (fun ρ st => .bk ρ st) ρ st D = D.bk ρ st := rfl
theorem ws_ct : Ws (fun ρ st => .ct ρ st) ρ st D = D.ct ρ st := rfl
theorem ws_retN : Ws (fun _ st => .rt (.d .none) st) ρ st D = D.rt (.d .none) st := rfl
section
variable {fa fb fo fi fe : Env → M MV} {gc ga gb : Env → M Bool} {i : Nat} {o : MV → MV → M MV} {gs : Env → M (List MV)} {Qv : MV → Sto → Prop} {Qb : Bool → Sto → Prop} {Ql : List MV → Sto → Prop}
theorem ws_set : Ws (sSet i fa) ρ st D = Wp (fa ρ) st (fun v s => D.nx (ρ.set i (some v)) s) D.ex := by
  refine (ws_sb rfl).trans ?_
  rfl
theorem ws_expr : Ws (sExpr fa) ρ st D = Wp (fa ρ) st (fun _ s => D.nx ρ s) D.ex := by
  refine (ws_sb rfl).trans ?_
  rfl
theorem ws_ret : Ws (sRet fa) ρ st D = Wp (fa ρ) st (fun v s => D.rt v s) D.ex := by
  refine (ws_sb rfl).trans ?_
  rfl
theorem ws_if : Ws (sIf gc f g) ρ st D = Wp (gc ρ) st (fun k s => if k = true then Ws f ρ s D else Ws g ρ s D) D.ex := by
  refine (ws_sb rfl).trans ?_
  congr
  funext k s
  cases k <;> rfl
theorem ws_sub : Ws (sSub fe fo fi) ρ st D = Wp (fe ρ) st (fun v s => Wp (fo ρ) s (fun x s => Wp (fi ρ) s (fun i s => Wp (mSetIt x i v) s (fun _ s => D.nx ρ s) D.ex) D.ex) D.ex) D.ex := by
  refine (ws_sb rfl).trans ?_
  simp only [wp_bnd]
  rfl
theorem ws_augS {o : MV → MV → M MV} : Ws (sAugS o fo fi fe) ρ st D = Wp (fo ρ) st (fun x s => Wp (fi ρ) s (fun i s => Wp (mGetIt x i) s (fun y s => Wp (fe ρ) s (fun z s => Wp (o y z) s (fun w s => Wp (mSetIt x i w) s (fun _ s => D.nx ρ s) D.ex) D.ex) D.ex) D.ex) D.ex) D.ex := by
  refine (ws_sb rfl).trans ?_
  simp only [wp_bnd]
  rfl
theorem wp_m2 : Wp (m2 o fa fb ρ) st Qv E = Wp (fa ρ) st (fun x s => Wp (fb ρ) s (fun y s => Wp (o x y) s Qv E) E) E := by
  unfold m2
  simp only [wp_bnd]
theorem wp_var : Wp (mVar i ρ) st Qv E = (match ρ[i]? with | some (some v) => Qv v st | _ => False) := by
  unfold Wp mVar
  cases h : ρ[i]? with
  | none => rfl
  | some v => cases v <;> rfl
theorem wp_c {x : PyData} : Wp (mC x ρ) st Qv E = Qv (.d x) st := rfl
theorem wp_tst {m : M MV} : Wp (tst m) st Qb E = Wp m st (fun v s => match asBool v with | some b => Qb b s | none => False) E := by
  unfold tst
  rw [wp_bnd]
  congr
  funext v s
  unfold Wp
  cases asBool v <;> rfl
theorem wp_chain {o o' : MV → MV → M MV} {fc : Env → M MV} : Wp (mChain o o' fa fb fc ρ) st Qv E = Wp (fa ρ) st (fun x s => Wp (fb ρ) s (fun y s => Wp (tst (o x y)) s (fun k s => if k = true then Wp (fc ρ) s (fun z s => Wp (o' y z) s Qv E) E else Qv (.d (.bool false)) s) E) E) E := by
  unfold mChain
  simp only [wp_bnd, wp_ite, wp_ret]
theorem wp_and : Wp (mAnd ga gb ρ) st Qb E = Wp (ga ρ) st (fun k s => if k = true then Wp (gb ρ) s Qb E else Qb false s) E := by
  unfold mAnd
  simp only [wp_bnd, wp_ite, wp_ret]
theorem wp_or : Wp (mOr ga gb ρ) st Qb E = Wp (ga ρ) st (fun k s => if k = true then Qb true s else Wp (gb ρ) s Qb E) E := by
  unfold mOr
  simp only [wp_bnd, wp_ite, wp_ret]
theorem wp_not : Wp (mNot ga ρ) st Qb E = Wp (ga ρ) st (fun k s => Qb (!k) s) E := by
  unfold mNot
  simp only [wp_bnd, wp_ret]
theorem wp_andV : Wp (mAndV fa fb ρ) st Qv E = Wp (tst (fa ρ)) st (fun k s => if k = true then Wp (fb ρ) s Qv E else Qv (.d (.bool false)) s) E := by
  unfold mAndV
  simp only [wp_bnd, wp_ite, wp_ret]
theorem wp_orV : Wp (mOrV fa fb ρ) st Qv E = Wp (tst (fa ρ)) st (fun k s => if k = true then Qv (.d (.bool true)) s else Wp (fb ρ) s Qv E) E := by
  unfold mOrV
  simp only [wp_bnd, wp_ite, wp_ret]
theorem wp_notV : Wp (mNotV fa ρ) st Qv E = Wp (tst (fa ρ)) st (fun k s => Qv (.d (.bool !k)) s) E := by
  unfold mNotV
  simp only [wp_bnd, wp_ret]
theorem wp_mIf : Wp (mIf gc fa fb ρ) st Qv E = Wp (gc ρ) st (fun k s => if k = true then Wp (fa ρ) s Qv E else Wp (fb ρ) s Qv E) E := by
  unfold mIf
  simp only [wp_bnd, wp_ite]
theorem wp_nil : Wp (mNil ρ) st Ql E = Ql [] st := rfl
theorem wp_cons : Wp (mCons fa gs ρ) st Ql E = Wp (fa ρ) st (fun x s => Wp (gs ρ) s (fun xs s => Ql (x :: xs) s) E) E := by
  unfold mCons
  simp only [wp_bnd, wp_ret]
theorem wp_mk {k : List MV → M MV} : Wp (mMk k gs ρ) st Qv E = Wp (gs ρ) st (fun xs s => Wp (k xs) s Qv E) E := by
  unfold mMk
  simp only [wp_bnd]
theorem wp_call {m : MFn} : Wp (mCall m gs ρ) st Qv E = Wp (gs ρ) st (fun xs s => Wp (m xs) s Qv E) E := by
  unfold mCall
  simp only [wp_bnd]
theorem wp_fn {n N : Nat} {ms : List MV} : Wp (mFn n N f ms) st Qv E = (ms.length = n ∧ Ws f (ms.map some ++ List.replicate (N - ms.length) none) st ⟨fun _ s => Qv (.d .none) s, Qv, fun _ _ => False, fun _ _ => False, E⟩) := by
  unfold Wp mFn Ws
  by_cases h : ms.length = n
  · simp only [h, if_true, true_and]
    cases f (ms.map some ++ List.replicate (N - n) none) st <;> rfl
  · simp only [h, if_false, false_and]
theorem wp_i2 {C : Int → Int → Bool} {g : Int → Int → Int} {i j : Int} : Wp (mI2 C g (.d (.int i)) (.d (.int j))) st Qv E = (C i j = true ∧ Qv (.d (.int (g i j))) st) := by
  unfold Wp mI2
  simp only [asInt]
  by_cases h : C i j = true <;> simp [h]
theorem wp_c2 {g : Int → Int → Bool} {i j : Int} : Wp (mC2 g (.d (.int i)) (.d (.int j))) st Qv E = Qv (.d (.bool (g i j))) st := rfl
theorem wp_addI {i j : Int} : Wp (mAdd (.d (.int i)) (.d (.int j))) st Qv E = Qv (.d (.int (i + j))) st := rfl
theorem wp_addS {i j : Str} : Wp (mAdd (.d (.str i)) (.d (.str j))) st Qv E = (i.length + j.length ≤ sizeLine ∧ Qv (.d (.str (i ++ j))) st) := by
  unfold Wp mAdd
  simp only [asInt, asStr]
  by_cases h : i.length + j.length ≤ sizeLine <;> simp [h]
end
end
theorem asBool_d {b : Bool} : asBool (.d (.bool b)) = some b := rfl
theorem asInt_d {b : Int} : asInt (.d (.int b)) = some b := rfl
theorem asStr_d {b : Str} : asStr (.d (.str b)) = some b := rfl

/-! ### stores -/
theorem put_self {st : Sto} {i : Nat} {o : MO} : (st.put i o).o i = some o := if_pos rfl
theorem put_n {st : Sto} {i : Nat} {o : MO} : (st.put i o).n = st.n := rfl
theorem put_ne {st : Sto} {i j : Nat} {o : MO} (h : j ≠ i) : (st.put i o).o j = st.o j := if_neg h
theorem put_put {st : Sto} {i : Nat} {o o' : MO} : (st.put i o).put i o' = st.put i o' := by
  unfold Sto.put
  congr
  funext j
  by_cases h : j = i <;> simp [h]

/-! ### places -/
section
variable {st : Sto} {E : XP} {Qv : MV → Sto → Prop} {Qu : Unit → Sto → Prop} {b : Nat}
theorem wp_ixC {i : Int} : Wp (mIx (.c b) (.d (.int i))) st Qv E = (match st.o b with
    | some (.lst xs) => (match atI xs i with | some m => Qv m st | none => False)
    | some (.tup xs) => (match atI xs i with | some m => Qv m st | none => False)
    | some (.dic kvs) => (match look kvs (.inl i) with | some m => Qv m st | none => False)
    | _ => False) := by
  unfold Wp mIx
  cases h : st.o b with
  | none => simp only [dicOf, h, asInt, asStr, seqOf, listOf, tupOf, Option.orElse]
  | some o =>
    cases o with
    | lst xs =>
      simp only [dicOf, h, asInt, asStr, seqOf, listOf, Option.orElse]
      cases atI xs i <;> rfl
    | tup xs =>
      simp only [dicOf, h, asInt, asStr, seqOf, listOf, tupOf, Option.orElse]
      cases atI xs i <;> rfl
    | dic kvs =>
      simp only [dicOf, h, asKey]
      cases look kvs (.inl i) <;> rfl
    | _ => simp only [dicOf, h, asInt, asStr, seqOf, listOf, tupOf, Option.orElse]
theorem wp_ixCs {x : Str} : Wp (mIx (.c b) (.d (.str x))) st Qv E = (match st.o b with
    | some (.dic kvs) => (match look kvs (.inr x) with | some m => Qv m st | none => False)
    | _ => False) := by
  unfold Wp mIx
  cases h : st.o b with
  | none => simp only [dicOf, h, asInt]
  | some o =>
    cases o with
    | dic kvs =>
      simp only [dicOf, h, asKey]
      cases look kvs (.inr x) <;> rfl
    | _ => simp only [dicOf, h, asInt]
theorem wp_getC {i : Int} : Wp (mGetIt (.c b) (.d (.int i))) st Qv E = (match st.o b with
    | some (.lst xs) => (match atI xs i with | some m => Qv m st | none => False)
    | some (.dic kvs) => (match look kvs (.inl i) with | some m => Qv m st | none => False)
    | _ => False) := by
  unfold Wp mGetIt
  cases h : st.o b with
  | none => simp only [dicOf, h, asInt, listOf]
  | some o =>
    cases o with
    | lst xs =>
      simp only [dicOf, h, asInt, listOf]
      cases atI xs i <;> rfl
    | dic kvs =>
      simp only [dicOf, h, asKey]
      cases look kvs (.inl i) <;> rfl
    | _ => simp only [dicOf, h, asInt, listOf]
theorem wp_setC {i : Int} {v : MV} : Wp (mSetIt (.c b) (.d (.int i)) v) st Qu E = (match st.o b with
    | some (.lst xs) => (match ixN xs.length i with | some n => Qu () (st.put b (.lst (xs.set n v))) | none => False)
    | some (.dic kvs) => kvs.length < sizeLine ∧ Qu () (st.put b (.dic (putM kvs (.inl i) v)))
    | _ => False) := by
  unfold Wp mSetIt
  cases h : st.o b with
  | none => simp only [lstAt, dicOf, h]
  | some o =>
    cases o with
    | lst xs =>
      simp only [lstAt, h, asInt]
      cases ixN xs.length i <;> rfl
    | dic kvs =>
      simp only [lstAt, dicOf, h, asKey]
      by_cases hz : kvs.length < sizeLine <;> simp [hz]
    | _ => simp only [lstAt, dicOf, h]
theorem wp_ixD {ds : List PyData} {i : Int} : Wp (mIx (.d (.list ds)) (.d (.int i))) st Qv E = (match atI ds i with | some m => Qv (.d m) st | none => False) := by
  unfold Wp mIx
  simp only [dicOf, asInt, asStr, seqOf, listOf, Option.orElse]
  unfold atI
  rw [List.length_map]
  cases ixN ds.length i with
  | none => rfl
  | some j =>
    simp only [Option.bind, List.getElem?_map]
    cases ds[j]? <;> rfl
theorem wp_ixS {z : Str} {i : Int} : Wp (mIx (.d (.str z)) (.d (.int i))) st Qv E = (z.length ≤ sizeLine ∧ match atI z.cps.toList i with | some c => Qv (.d (.str ⟨#[c]⟩)) st | none => False) := by
  unfold Wp mIx
  simp only [dicOf, asInt, asStr]
  by_cases hz : z.length ≤ sizeLine
  · simp only [hz, if_true, true_and]
    cases atI z.cps.toList i <;> rfl
  · simp only [hz, if_false, false_and]
theorem wp_lenD {ds : List PyData} : Wp (mLen [.d (.list ds)]) st Qv E = Qv (.d (.int ds.length)) st := by
  unfold Wp mLen
  simp only [asStr, dicOf, seqOf, listOf, Option.orElse, List.length_map]
theorem wp_lenT {ds : List PyData} : Wp (mLen [.d (.tuple ds)]) st Qv E = Qv (.d (.int ds.length)) st := by
  unfold Wp mLen
  simp only [asStr, dicOf, seqOf, listOf, tupOf, Option.orElse, List.length_map]
theorem wp_lenS {z : Str} : Wp (mLen [.d (.str z)]) st Qv E = (z.length ≤ sizeLine ∧ Qv (.d (.int z.length)) st) := by
  unfold Wp mLen
  simp only [asStr]
  by_cases hz : z.length ≤ sizeLine <;> simp [hz]
theorem wp_lenC : Wp (mLen [.c b]) st Qv E = (match st.o b with
    | some (.lst xs) => Qv (.d (.int xs.length)) st
    | some (.tup xs) => Qv (.d (.int xs.length)) st
    | some (.dic xs) => Qv (.d (.int xs.length)) st
    | _ => False) := by
  unfold Wp mLen
  cases h : st.o b with
  | none => simp only [asStr, dicOf, seqOf, listOf, tupOf, h, Option.orElse]
  | some o => cases o <;> simp only [asStr, dicOf, seqOf, listOf, tupOf, h, Option.orElse]
theorem wp_eq {n : Bool} {x y : MV} {d e : PyData} (hx : dataOf 8 st x = some d) (hy : dataOf 8 st y = some e) : Wp (mEqB n x y) st Qv E = Wp (mEqB n (.d d) (.d e)) st Qv E := by
  unfold Wp mEqB
  rw [hx, hy]
  rfl
end
theorem atI0 {α : Type} {a : α} {l : List α} : atI (a :: l) 0 = some a := by simp [atI, ixN]
theorem atI1 {α : Type} {a b : α} {l : List α} : atI (a :: b :: l) 1 = some b := by
  have h : (1 : Int) < (l.length : Int) + 1 + 1 := by omega
  simp [atI, ixN, h]
theorem atI2 {α : Type} {a b c : α} {l : List α} : atI (a :: b :: c :: l) 2 = some c := by
  have h : (2 : Int) < (l.length : Int) + 1 + 1 + 1 := by omega
  simp [atI, ixN, h]
theorem atI3 {α : Type} {a b c d : α} {l : List α} : atI (a :: b :: c :: d :: l) 3 = some d := by
  have h : (3 : Int) < (l.length : Int) + 1 + 1 + 1 + 1 := by omega
  simp [atI, ixN, h]
theorem ixL0 {α : Type} {a : α} {l : List α} : ixN (a :: l).length 0 = some 0 := by simp [ixN]
theorem ixL1 {α : Type} {a b : α} {l : List α} : ixN (a :: b :: l).length 1 = some 1 := by
  have h : (1 : Int) < (l.length : Int) + 1 + 1 := by omega
  simp [ixN, h]
theorem ixL2 {α : Type} {a b c : α} {l : List α} : ixN (a :: b :: c :: l).length 2 = some 2 := by
  have h : (2 : Int) < (l.length : Int) + 1 + 1 + 1 := by omega
  simp [ixN, h]
theorem atI_nat {α : Type} {l : List α} {i : Nat} (h : i < l.length) : atI l (i : Int) = some l[i] := by
  simp [atI, ixN, h]
theorem atI_of {α : Type} {l : List α} {i : Int} (h0 : 0 ≤ i) (h : i < l.length) : ∃ a, atI l i = some a ∧ a ∈ l := by
  obtain ⟨k, rfl⟩ := Int.eq_ofNat_of_zero_le h0
  exact ⟨_, atI_nat (by omega), List.getElem_mem _⟩

/-! ### backward -/
/-- a test's two ways -/
def Br (k : Bool) (A B : Prop) : Prop := (k = true → A) ∧ (k = false → B)
/-- a truth value -/
def TB (v : MV) (F : Bool → Prop) : Prop := ∃ b, asBool v = some b ∧ F b
theorem br_eq {k : Bool} {A B : Prop} : Br k A B = if k = true then A else B := by
  unfold Br
  cases k <;> simp
section
variable {k : Bool} {A B : Prop} {F : Bool → Prop}
theorem b_t (h : A) : Br true A B := ⟨fun _ => h, fun z => absurd z (by decide)⟩
theorem b_f (h : B) : Br false A B := ⟨fun z => absurd z (by decide), fun _ => h⟩
theorem b_not (h : Br k B A) : Br (!k) A B := by
  cases k with
  | true => exact b_f (h.1 rfl)
  | false => exact b_t (h.2 rfl)
theorem b_dec {p : Prop} [Decidable p] (h1 : p → A) (h2 : ¬ p → B) : Br (decide p) A B := ⟨fun z => h1 (of_decide_eq_true z), fun z => h2 (of_decide_eq_false z)⟩
theorem b_any (h1 : k = true → A) (h2 : k = false → B) : Br k A B := ⟨h1, h2⟩
theorem t_b {b : Bool} (h : F b) : TB (.d (.bool b)) F := ⟨b, rfl, h⟩
end
section
variable {α β : Type} {m : M α} {c : α → M β} {st : Sto} {Q : α → Sto → Prop} {R : β → Sto → Prop} {E : XP} {D : Po} {ρ : Env} {f g : Env → Sto → SRes} {fa fb fc fo fi fe : Env → M MV} {gc ga gb : Env → M Bool} {i : Nat} {o o' : MV → MV → M MV} {gs : Env → M (List MV)}
  {Qv : MV → Sto → Prop} {Qb : Bool → Sto → Prop} {Ql : List MV → Sto → Prop} {Qu : Unit → Sto → Prop}
theorem w_bnd (h : Wp m st (fun a s => Wp (c a) s R E) E) : Wp (bnd m c) st R E := by rw [wp_bnd]; exact h
theorem w_ret {a : α} (h : Q a st) : Wp (ret a) st Q E := h
theorem w_sq (h : Ws f ρ st ⟨fun ρ' s => Ws g ρ' s D, D.rt, D.bk, D.ct, D.ex⟩) : Ws (sq f g) ρ st D := by rw [ws_sq]; exact h
theorem w_nx (h : D.nx ρ st) : Ws (fun ρ st => .nx ρ st) ρ st D := h
theorem w_bk (h : D.bk ρ st) : Ws (fun ρ st => .bk ρ st) ρ st D := h
theorem w_ct (h : D.ct ρ st) : Ws (fun ρ st => .ct ρ st) ρ st D := h
theorem w_retN (h : D.rt (.d .none) st) : Ws (fun _ st => .rt (.d .none) st) ρ st D := h
theorem w_set (h : Wp (fa ρ) st (fun v s => D.nx (ρ.set i (some v)) s) D.ex) : Ws (sSet i fa) ρ st D := by rw [ws_set]; exact h
theorem w_expr (h : Wp (fa ρ) st (fun _ s => D.nx ρ s) D.ex) : Ws (sExpr fa) ρ st D := by rw [ws_expr]; exact h
theorem w_retS (h : Wp (fa ρ) st (fun v s => D.rt v s) D.ex) : Ws (sRet fa) ρ st D := by rw [ws_ret]; exact h
theorem w_if (h : Wp (gc ρ) st (fun k s => Br k (Ws f ρ s D) (Ws g ρ s D)) D.ex) : Ws (sIf gc f g) ρ st D := by rw [ws_if]; simp only [br_eq] at h; exact h
theorem w_sub (h : Wp (fe ρ) st (fun v s => Wp (fo ρ) s (fun x s => Wp (fi ρ) s (fun i s => Wp (mSetIt x i v) s (fun _ s => D.nx ρ s) D.ex) D.ex) D.ex) D.ex) : Ws (sSub fe fo fi) ρ st D := by rw [ws_sub]; exact h
theorem w_augS (h : Wp (fo ρ) st (fun x s => Wp (fi ρ) s (fun i s => Wp (mGetIt x i) s (fun y s => Wp (fe ρ) s (fun z s => Wp (o y z) s (fun w s => Wp (mSetIt x i w) s (fun _ s => D.nx ρ s) D.ex) D.ex) D.ex) D.ex) D.ex) D.ex) : Ws (sAugS o fo fi fe) ρ st D := by rw [ws_augS]; exact h
theorem w_m2 (h : Wp (fa ρ) st (fun x s => Wp (fb ρ) s (fun y s => Wp (o x y) s Qv E) E) E) : Wp (m2 o fa fb ρ) st Qv E := by rw [wp_m2]; exact h
theorem w_var {v : MV} (e : ρ[i]? = some (some v)) (h : Qv v st) : Wp (mVar i ρ) st Qv E := by rw [wp_var, e]; exact h
theorem w_c {x : PyData} (h : Qv (.d x) st) : Wp (mC x ρ) st Qv E := h
theorem w_tst {m : M MV} (h : Wp m st (fun v s => TB v fun b => Qb b s) E) : Wp (tst m) st Qb E := by
  rw [wp_tst]
  refine h.imp (fun v s z => ?_) fun _ _ _ z => z
  obtain ⟨b, e, q⟩ := z
  rw [e]; exact q
theorem w_tstF {m : Env → M MV} (h : Wp (m ρ) st (fun v s => TB v fun b => Qb b s) E) : Wp ((fun ρ => tst (m ρ)) ρ) st Qb E := w_tst h
theorem w_chain (h : Wp (fa ρ) st (fun x s => Wp (fb ρ) s (fun y s => Wp (tst (o x y)) s (fun k s => Br k (Wp (fc ρ) s (fun z s => Wp (o' y z) s Qv E) E) (Qv (.d (.bool false)) s)) E) E) E) : Wp (mChain o o' fa fb fc ρ) st Qv E := by rw [wp_chain]; simp only [br_eq] at h; exact h
theorem w_and (h : Wp (ga ρ) st (fun k s => Br k (Wp (gb ρ) s Qb E) (Qb false s)) E) : Wp (mAnd ga gb ρ) st Qb E := by rw [wp_and]; simp only [br_eq] at h; exact h
theorem w_or (h : Wp (ga ρ) st (fun k s => Br k (Qb true s) (Wp (gb ρ) s Qb E)) E) : Wp (mOr ga gb ρ) st Qb E := by rw [wp_or]; simp only [br_eq] at h; exact h
theorem w_not (h : Wp (ga ρ) st (fun k s => Qb (!k) s) E) : Wp (mNot ga ρ) st Qb E := by rw [wp_not]; exact h
theorem w_andV (h : Wp (tst (fa ρ)) st (fun k s => Br k (Wp (fb ρ) s Qv E) (Qv (.d (.bool false)) s)) E) : Wp (mAndV fa fb ρ) st Qv E := by rw [wp_andV]; simp only [br_eq] at h; exact h
theorem w_orV (h : Wp (tst (fa ρ)) st (fun k s => Br k (Qv (.d (.bool true)) s) (Wp (fb ρ) s Qv E)) E) : Wp (mOrV fa fb ρ) st Qv E := by rw [wp_orV]; simp only [br_eq] at h; exact h
theorem w_notV (h : Wp (tst (fa ρ)) st (fun k s => Qv (.d (.bool !k)) s) E) : Wp (mNotV fa ρ) st Qv E := by rw [wp_notV]; exact h
theorem w_mIf (h : Wp (gc ρ) st (fun k s => Br k (Wp (fa ρ) s Qv E) (Wp (fb ρ) s Qv E)) E) : Wp (mIf gc fa fb ρ) st Qv E := by rw [wp_mIf]; simp only [br_eq] at h; exact h
theorem w_nil (h : Ql [] st) : Wp (mNil ρ) st Ql E := h
theorem w_cons (h : Wp (fa ρ) st (fun x s => Wp (gs ρ) s (fun xs s => Ql (x :: xs) s) E) E) : Wp (mCons fa gs ρ) st Ql E := by rw [wp_cons]; exact h
theorem w_mk {k : List MV → M MV} (h : Wp (gs ρ) st (fun xs s => Wp (k xs) s Qv E) E) : Wp (mMk k gs ρ) st Qv E := by rw [wp_mk]; exact h
theorem w_call {m : MFn} (h : Wp (gs ρ) st (fun xs s => Wp (m xs) s Qv E) E) : Wp (mCall m gs ρ) st Qv E := by rw [wp_call]; exact h
theorem w_fn {n N : Nat} {ms : List MV} (hl : ms.length = n) (h : Ws f (ms.map some ++ List.replicate (N - ms.length) none) st ⟨fun _ s => Qv (.d .none) s, Qv, fun _ _ => False, fun _ _ => False, E⟩) : Wp (mFn n N f ms) st Qv E := by rw [wp_fn]; exact ⟨hl, h⟩
theorem w_i2 {C : Int → Int → Bool} {g : Int → Int → Int} {i j : Int} (hc : C i j = true) (h : Qv (.d (.int (g i j))) st) : Wp (mI2 C g (.d (.int i)) (.d (.int j))) st Qv E := by rw [wp_i2]; exact ⟨hc, h⟩
theorem w_sub' {i j : Int} (h : Qv (.d (.int (i - j))) st) : Wp (mSub (.d (.int i)) (.d (.int j))) st Qv E := w_i2 rfl h
theorem w_mul {i j : Int} (hc : (-(2 ^ 64) < i ∧ i < 2 ^ 64) ∨ (-(2 ^ 64) < j ∧ j < 2 ^ 64)) (h : Qv (.d (.int (i * j))) st) : Wp (mMul (.d (.int i)) (.d (.int j))) st Qv E := w_i2 (decide_eq_true hc) h
theorem w_div {i j : Int} (hc : 0 < j ∧ j.natAbs.log2 < 9000) (h : Qv (.d (.int (i / j))) st) : Wp (mDiv (.d (.int i)) (.d (.int j))) st Qv E := w_i2 (decide_eq_true hc) h
theorem w_mod {i j : Int} (hc : 0 < j) (h : Qv (.d (.int (i % j))) st) : Wp (mMod (.d (.int i)) (.d (.int j))) st Qv E := w_i2 (decide_eq_true hc) h
theorem w_pow {i j : Int} (hc : 0 ≤ j ∧ j ≤ 1000000 ∧ i.natAbs < 2 ^ 64) (h : Qv (.d (.int (i ^ j.toNat))) st) : Wp (mPow (.d (.int i)) (.d (.int j))) st Qv E := w_i2 (decide_eq_true hc) h
theorem w_iadd {i j : Int} (h : Qv (.d (.int (i + j))) st) : Wp (mIAdd (.d (.int i)) (.d (.int j))) st Qv E := w_i2 rfl h
theorem w_isub {i j : Int} (h : Qv (.d (.int (i - j))) st) : Wp (mISub (.d (.int i)) (.d (.int j))) st Qv E := w_i2 rfl h
theorem w_lt {i j : Int} (h : Qv (.d (.bool (decide (i < j)))) st) : Wp (mLt (.d (.int i)) (.d (.int j))) st Qv E := h
theorem w_le {i j : Int} (h : Qv (.d (.bool (decide (i ≤ j)))) st) : Wp (mLe (.d (.int i)) (.d (.int j))) st Qv E := h
theorem w_gt {i j : Int} (h : Qv (.d (.bool (decide (j < i)))) st) : Wp (mGt (.d (.int i)) (.d (.int j))) st Qv E := h
theorem w_ge {i j : Int} (h : Qv (.d (.bool (decide (j ≤ i)))) st) : Wp (mGe (.d (.int i)) (.d (.int j))) st Qv E := h
theorem w_addI {i j : Int} (h : Qv (.d (.int (i + j))) st) : Wp (mAdd (.d (.int i)) (.d (.int j))) st Qv E := h
theorem w_addS {i j : Str} (hz : i.length + j.length ≤ sizeLine) (h : Qv (.d (.str (i ++ j))) st) : Wp (mAdd (.d (.str i)) (.d (.str j))) st Qv E := by rw [wp_addS]; exact ⟨hz, h⟩
theorem w_eqD {n : Bool} {d e : PyData} (hs : (SeqAt.shaped d && SeqAt.shaped e) = true) (h : Qv (.d (.bool (if n then !PyData.eqv d e else PyData.eqv d e))) st) : Wp (mEqB n (.d d) (.d e)) st Qv E := by
  unfold Wp mEqB
  simp only [dataOf, hs, if_true]
  exact h
theorem eqv_ii {i j : Int} : PyData.eqv (.int i) (.int j) = decide (i = j) := by
  simp only [PyData.eqv]
  by_cases h : i = j <;> simp [h]
theorem eqv_ss {i j : Str} : PyData.eqv (.str i) (.str j) = decide (i = j) := by
  simp only [PyData.eqv]
  by_cases h : i = j <;> simp [h]
theorem w_eqI {i j : Int} (h : Qv (.d (.bool (decide (i = j)))) st) : Wp (mEq (.d (.int i)) (.d (.int j))) st Qv E := w_eqD rfl (by rw [eqv_ii]; exact h)
theorem w_neI {i j : Int} (h : Qv (.d (.bool (!decide (i = j)))) st) : Wp (mNe (.d (.int i)) (.d (.int j))) st Qv E := w_eqD rfl (by rw [eqv_ii]; exact h)
theorem w_eqS {i j : Str} (h1 : PyData.strOk i = true) (h2 : PyData.strOk j = true) (h : Qv (.d (.bool (decide (i = j)))) st) : Wp (mEq (.d (.str i)) (.d (.str j))) st Qv E := w_eqD (by simp [SeqAt.shaped, PyData.canLay0, PyData.depth, h1, h2]) (by rw [eqv_ss]; exact h)
theorem w_neS {i j : Str} (h1 : PyData.strOk i = true) (h2 : PyData.strOk j = true) (h : Qv (.d (.bool (!decide (i = j)))) st) : Wp (mNe (.d (.str i)) (.d (.str j))) st Qv E := w_eqD (by simp [SeqAt.shaped, PyData.canLay0, PyData.depth, h1, h2]) (by rw [eqv_ss]; exact h)
theorem w_ixL {b : Nat} {i : Int} {xs : List MV} {m : MV} (h1 : st.o b = some (.lst xs)) (h2 : atI xs i = some m) (h : Qv m st) : Wp (mIx (.c b) (.d (.int i))) st Qv E := by rw [wp_ixC, h1]; simp only [h2]; exact h
theorem w_getL {b : Nat} {i : Int} {xs : List MV} {m : MV} (h1 : st.o b = some (.lst xs)) (h2 : atI xs i = some m) (h : Qv m st) : Wp (mGetIt (.c b) (.d (.int i))) st Qv E := by rw [wp_getC, h1]; simp only [h2]; exact h
theorem w_setL {b : Nat} {i : Int} {xs : List MV} {n : Nat} {v : MV} (h1 : st.o b = some (.lst xs)) (h2 : ixN xs.length i = some n) (h : Qu () (st.put b (.lst (xs.set n v)))) : Wp (mSetIt (.c b) (.d (.int i)) v) st Qu E := by rw [wp_setC, h1]; simp only [h2]; exact h
theorem w_ixD {ds : List PyData} {i : Int} {m : PyData} (h2 : atI ds i = some m) (h : Qv (.d m) st) : Wp (mIx (.d (.list ds)) (.d (.int i))) st Qv E := by rw [wp_ixD]; simp only [h2]; exact h
theorem w_ixS {z : Str} {i : Int} {c : Nat} (hz : z.length ≤ sizeLine) (h2 : atI z.cps.toList i = some c) (h : Qv (.d (.str ⟨#[c]⟩)) st) : Wp (mIx (.d (.str z)) (.d (.int i))) st Qv E := by rw [wp_ixS]; simp only [h2]; exact ⟨hz, h⟩
theorem w_lenD {ds : List PyData} (h : Qv (.d (.int ds.length)) st) : Wp (mLen [.d (.list ds)]) st Qv E := by rw [wp_lenD]; exact h
theorem w_lenT {ds : List PyData} (h : Qv (.d (.int ds.length)) st) : Wp (mLen [.d (.tuple ds)]) st Qv E := by rw [wp_lenT]; exact h
theorem w_lenS {z : Str} (hz : z.length ≤ sizeLine) (h : Qv (.d (.int z.length)) st) : Wp (mLen [.d (.str z)]) st Qv E := by rw [wp_lenS]; exact ⟨hz, h⟩
theorem w_lenL {b : Nat} {xs : List MV} (h1 : st.o b = some (.lst xs)) (h : Qv (.d (.int xs.length)) st) : Wp (mLen [.c b]) st Qv E := by rw [wp_lenC, h1]; exact h
end
end Dm

set_option Elab.async false
set_option linter.all false
set_option maxRecDepth 100000
/-! The plain side: displays, texts, the bag, comprehensions. -/
namespace Dm
open PySem PySem.Spec PyProof.Rows L2

theorem new_self {st : Sto} {o : MO} : (st.new o).o st.n = some o := if_pos rfl
theorem new_n {st : Sto} {o : MO} : (st.new o).n = st.n + 1 := rfl
theorem new_ne {st : Sto} {o : MO} {i : Nat} (h : i ≠ st.n) : (st.new o).o i = st.o i := if_neg h
theorem kill_ne {st : Sto} {i j : Nat} (h : j ≠ i) : (st.kill i).o j = st.o j := if_neg h
section
variable {α β : Type} {st : Sto} {E : XP} {ρ : Env} {Q : α → Sto → Prop} {Qv : MV → Sto → Prop} {Qi : ItM → Sto → Prop} {Qo : Option Int → Sto → Prop} {fa : Env → M MV} {gs : Env → M (List MV)} {xs : List MV} {ds : List PyData}
theorem w_mkL (hz : xs.length ≤ sizeLine) (e : datas xs = some ds) (h : Qv (.d (.list ds)) st) : Wp (mkL xs) st Qv E := by
  unfold Wp mkL
  rw [if_pos hz, e]
  exact h
theorem w_mkLp (hz : xs.length ≤ sizeLine) (e : datas xs = none) (h : Qv (.c st.n) (st.new (.lst xs))) : Wp (mkL xs) st Qv E := by
  unfold Wp mkL
  rw [if_pos hz, e]
  exact h
theorem w_mkLc (hz : xs.length ≤ sizeLine) (h : Qv (.c st.n) (st.new (.lst xs))) : Wp (mkLc xs) st Qv E := by
  unfold Wp mkLc
  rw [if_pos hz]
  exact h
theorem w_mkT (hz : xs.length ≤ sizeLine) (e : datas xs = some ds) (h : Qv (.d (.tuple ds)) st) : Wp (mkT xs) st Qv E := by
  unfold Wp mkT
  rw [if_pos hz, e]
  exact h
theorem w_mkTp (hz : xs.length ≤ sizeLine) (e : datas xs = none) (h : Qv (.c st.n) (st.new (.tup xs))) : Wp (mkT xs) st Qv E := by
  unfold Wp mkT
  rw [if_pos hz, e]
  exact h
theorem w_dict0 (h : Qv (.c st.n) (st.new (.dic []))) : Wp ((fun _ => mNew (.dic [])) ρ) st Qv E := h
theorem w_exc0 {c : Str} (h : Qv (.c st.n) (st.new (.exc0 c))) : Wp (mExc0 c ρ) st Qv E := h
theorem w_dict {fs : List ((Env → M MV) × (Env → M MV))} (h : Wp (mPairs fs ρ) (st.new (.dic [])) (fun ps s => s.o st.n = some (.dic []) ∧ ps.length ≤ 15 ∧ Qv (.c st.n) (s.put st.n (.dic (ps.foldl (fun acc kv => putM acc kv.1 kv.2) [])))) E) : Wp (mDict fs ρ) st Qv E := by
  unfold mDict
  rw [wp_bnd]
  show Wp (bnd (mPairs fs ρ) _) (st.new (.dic [])) _ _
  rw [wp_bnd]
  refine h.imp (fun ps s z => ?_) fun _ _ _ z => z
  obtain ⟨z1, z2, z3⟩ := z
  unfold Wp
  simp only [z1, z2, if_true]
  exact z3
theorem w_pairs0 {Q : List (Key × MV) → Sto → Prop} (h : Q [] st) : Wp (mPairs [] ρ) st Q E := h
theorem w_pairs {Q : List (Key × MV) → Sto → Prop} {fk fv : Env → M MV} {r : List ((Env → M MV) × (Env → M MV))} (h : Wp (fk ρ) st (fun k s => Wp (fv ρ) s (fun v s => Wp (mPairs r ρ) s (fun ps s => ∃ q, asKey k = some q ∧ Q ((q, v) :: ps) s) E) E) E) : Wp (mPairs ((fk, fv) :: r) ρ) st Q E := by
  unfold mPairs
  rw [wp_bnd]
  refine h.imp (fun k s z => ?_) fun _ _ _ z => z
  rw [wp_bnd]
  refine z.imp (fun v s z => ?_) fun _ _ _ z => z
  rw [wp_bnd]
  refine z.imp (fun ps s z => ?_) fun _ _ _ z => z
  obtain ⟨q, e, z⟩ := z
  unfold Wp
  simp only [e]
  exact z
theorem w_repr {ex : List Str} {v : MV} {t : Str} (e : showM ex 20 [] st v = some t) (hz : t.length ≤ sizeLine) (h : Qv (.d (.str t)) st) : Wp (mRepr ex [v]) st Qv E := by
  unfold Wp mRepr
  simp only [e, hz, if_true]
  exact h
theorem w_abs {i : Int} (h : Qv (.d (.int (if i < 0 then -i else i))) st) : Wp (mAbs [.d (.int i)]) st Qv E := h
theorem w_max {i j : Int} (h : Qv (.d (.int (if j > i then j else i))) st) : Wp (mMax2 [.d (.int i), .d (.int j)]) st Qv E := h
theorem w_min {i j : Int} (h : Qv (.d (.int (if j < i then j else i))) st) : Wp (mMin2 [.d (.int i), .d (.int j)]) st Qv E := h
theorem w_isi {ins exc : List Str} {tb : List (String × Bool)} {to : List (Str × Bool)} (h : Wp (fa ρ) st (fun v s => kitKnown ins exc s v = true ∧ ∃ t b, tagOf s v = some t ∧ kfT tb to t = some b ∧ Qv (.d (.bool b)) s) E) : Wp (mIsi ins exc tb to fa ρ) st Qv E := by
  unfold mIsi
  rw [wp_bnd]
  refine h.imp (fun v s z => ?_) fun _ _ _ z => z
  obtain ⟨z1, t, b, z2, z3, z4⟩ := z
  unfold Wp
  simp only [z1, z2, z3, if_true]
  exact z4
theorem w_meth {T : String} {g : MV → List MV → M MV} {fo : Env → M MV} (h : Wp (fo ρ) st (fun v s => tyOf s v = T ∧ Wp (gs ρ) s (fun vs s => Wp (g v vs) s Qv E) E) E) : Wp (mMeth T g fo gs ρ) st Qv E := by
  unfold mMeth
  rw [wp_bnd]
  refine h.imp (fun v s z => ?_) fun _ _ _ z => z
  rw [wp_bnd]
  have e : Wp (mTy T v) s (fun _ s' => Wp (bnd (gs ρ) fun vs => g v vs) s' Qv E) E := by
    have e2 : Wp (bnd (gs ρ) fun vs => g v vs) s Qv E := by
      rw [wp_bnd]
      exact z.2
    unfold Wp mTy
    simp only [z.1, if_true]
    exact e2
  exact e
theorem w_join {a : Str} {v : MV} {zs : List MV} {ss : List Str} (e : seqOf st v = some zs) (e2 : strsM zs = some ss) (hz : (ss.map (·.length)).sum + ss.length * a.length ≤ 16777216) (h : Qv (.d (.str (Txt.join a ss))) st) : Wp (mJoin (.d (.str a)) [v]) st Qv E := by
  unfold Wp mJoin
  simp only [asStr, e, e2, hz, if_true]
  exact h
theorem w_slice {k : List MV → M MV} {fl fh : Env → M (Option Int)} (h : Wp (fa ρ) st (fun x s => Wp (fl ρ) s (fun l s => Wp (fh ρ) s (fun u s => Wp (mCut k x l u) s Qv E) E) E) E) : Wp (mSlice k fa fl fh ρ) st Qv E := by
  unfold mSlice
  simp only [wp_bnd]
  exact h
theorem w_part (h : Wp (fa ρ) st (fun v s => ∃ i, asInt v = some i ∧ Qo (some i) s) E) : Wp (mPart fa ρ) st Qo E := by
  unfold mPart
  rw [wp_bnd]
  refine h.imp (fun v s z => ?_) fun _ _ _ z => z
  obtain ⟨i, e, z⟩ := z
  unfold Wp
  simp only [e]
  exact z
theorem w_retF {a : α} (h : Q a st) : Wp ((fun _ => ret a : Env → M α) ρ) st Q E := h
theorem w_cutS {k : List MV → M MV} {z : Str} {l u : Option Int} (hz : z.length ≤ sizeLine) (h : Qv (.d (.str (cutS z l u))) st) : Wp (mCut k (.d (.str z)) l u) st Qv E := by
  unfold Wp mCut
  simp only [asStr, hz, if_true]
  exact h
theorem w_cutScr {k : List MV → M MV} {ns : List Int} {l u : Option Int} (h : Wp (k (cut (ns.map fun n => MV.d (.int n)) l u)) st Qv E) : Wp (mCut k (.scr ns) l u) st Qv E := h
theorem w_cutL {k : List MV → M MV} {v : MV} {l u : Option Int} (e : listOf st v = some xs) (h : Wp (k (cut xs l u)) st Qv E) : Wp (mCut k v l u) st Qv E := by
  have hs : asStr v = none := by
    cases v with
    | d p => cases p <;> first | rfl | cases e
    | _ => rfl
  have hv : ∀ ns, v ≠ .scr ns := fun ns z => by subst z; cases e
  unfold Wp mCut
  simp only [hs]
  cases v with
  | scr ns => exact absurd rfl (hv ns)
  | d p => simp only [e]; exact h
  | c i => simp only [e]; exact h
theorem w_rev {k : List MV → M MV} (h : Wp (fa ρ) st (fun v s => ∃ zs, listOf s v = some zs ∧ Wp (k zs.reverse) s Qv E) E) : Wp (mRev k fa ρ) st Qv E := by
  unfold mRev
  rw [wp_bnd]
  refine h.imp (fun v s z => ?_) fun _ _ _ z => z
  obtain ⟨zs, e, z⟩ := z
  unfold Wp
  simp only [e]
  exact z
theorem w_itList (h : Wp (fa ρ) st (fun v s => ∃ zs, listOf s v = some zs ∧ Qi ⟨zs.map fun x => ret x, fun s' => listOf s' v = some zs⟩ s) E) : Wp (itList fa ρ) st Qi E := by
  unfold itList
  rw [wp_bnd]
  refine h.imp (fun v s z => ?_) fun _ _ _ z => z
  obtain ⟨zs, e, z⟩ := z
  unfold Wp
  simp only [e]
  exact z
theorem w_itStr (h : Wp (fa ρ) st (fun v s => ∃ z, asStr v = some z ∧ Qi ⟨(signs z).map fun x => ret x, fun _ => True⟩ s) E) : Wp (itStr fa ρ) st Qi E := by
  unfold itStr
  rw [wp_bnd]
  refine h.imp (fun v s z => ?_) fun _ _ _ z => z
  obtain ⟨zs, e, z⟩ := z
  unfold Wp
  simp only [e]
  exact z
theorem w_itRange (h : Wp (gs ρ) st (fun vs s => ∃ j : Int, vs = [.d (.int j)] ∧ -(2 ^ 62) ≤ j ∧ j < 2 ^ 62 ∧ Qi ⟨(upTo 0 j.toNat).map fun x => ret x, fun _ => True⟩ s) E) : Wp (itRange1 gs ρ) st Qi E := by
  unfold itRange1
  rw [wp_bnd]
  refine h.imp (fun v s z => ?_) fun _ _ _ z => z
  obtain ⟨j, rfl, h1, h2, z⟩ := z
  unfold Wp
  simp only [asInt, h1, h2, and_self, if_true]
  exact z
theorem w_gNm {i : Nat} {v : MV} {Qe : Env → Sto → Prop} (h : Qe (ρ.set i (some v)) st) : Wp (gNm i v ρ) st Qe E := h
theorem w_gTup {n : Nat} {g : List MV → Env → M Env} {v : MV} {Qe : Env → Sto → Prop} {zs : List MV} (e : tupOf st v = some zs) (hl : zs.length = n) (h : Wp (g zs ρ) st Qe E) : Wp (gTup n g v ρ) st Qe E := by
  unfold Wp gTup
  simp only [e, hl, if_true]
  exact h
theorem w_gCons {f : MV → Env → M Env} {g : List MV → Env → M Env} {v : MV} {r : List MV} {Qe : Env → Sto → Prop} (h : Wp (f v ρ) st (fun ρ' s => Wp (g r ρ') s Qe E) E) : Wp (gCons f g (v :: r) ρ) st Qe E := by
  show Wp (bnd (f v ρ) fun ρ' => g r ρ') st Qe E
  rw [wp_bnd]
  exact h
theorem w_gNil {Qe : Env → Sto → Prop} (h : Qe ρ st) : Wp (gNil [] ρ) st Qe E := h
end

/-! ### the bag -/
def Bag (st : Sto) (b : Nat) : Prop := b < st.n ∧ ∃ (z r t : Int) (cs : List Int), 0 ≤ t ∧ st.o b = some (.lst [.d (.int z), .d (.int r), .d (.int t), .d (.list (cs.map .int))])
/-- the bag may have been drawn from, places may have come -/
structure Step (b : Nat) (st st' : Sto) : Prop where
  n : st.n ≤ st'.n
  o : ∀ i, i < st.n → i ≠ b → st'.o i = st.o i
  bag : Bag st' b
theorem Step.refl {b : Nat} {st : Sto} (h : Bag st b) : Step b st st := ⟨Nat.le_refl _, fun _ _ _ => rfl, h⟩
theorem Step.trans {b : Nat} {s1 s2 s3 : Sto} (h : Step b s1 s2) (h' : Step b s2 s3) : Step b s1 s3 :=
  ⟨Nat.le_trans h.n h'.n, fun i hi hb => (h'.o i (Nat.lt_of_lt_of_le hi h.n) hb).trans (h.o i hi hb), h'.bag⟩
theorem Step.put {b : Nat} {s1 s2 : Sto} {z r t : Int} {cs : List Int} (h : Step b s1 s2) (ht : 0 ≤ t) : Step b s1 (s2.put b (.lst [.d (.int z), .d (.int r), .d (.int t), .d (.list (cs.map .int))])) :=
  ⟨h.n, fun i hi hb => (put_ne hb).trans (h.o i hi hb), h.bag.1, z, r, t, cs, ht, put_self⟩
theorem Step.new {b : Nat} {s1 s2 : Sto} {o : MO} (h : Step b s1 s2) : Step b s1 (s2.new o) :=
  ⟨Nat.le_trans h.n (Nat.le_succ _), fun i hi hb => (new_ne (by have := h.n; omega)).trans (h.o i hi hb), Nat.lt_succ_of_lt h.bag.1, by
    obtain ⟨h1, z, r, t, cs, ht, e⟩ := h.bag
    exact ⟨z, r, t, cs, ht, (new_ne (Nat.ne_of_lt h1)).trans e⟩⟩

/-! ### the draw: its text is the same in every law -/
def bTake : Env → Sto → SRes :=
  (sq (sIf (fun ρ => tst (m2 mEq (m2 mIx (mVar 0) (mC (.int 0))) (mC (.int 0)) ρ)) (sq (sSet 4 (mC (.int 0)))
  (sq (sIf (fun ρ => tst (m2 mLt (m2 mIx (mVar 0) (mC (.int 2))) (mMk mLen (mCons (m2 mIx (mVar 0) (mC (.int 3))) mNil)) ρ)) (sSet 4 (m2 mIx (m2 mIx (mVar 0) (mC (.int 3))) (m2 mIx (mVar 0) (mC (.int 2))))) (fun ρ st => .nx ρ st))
  (sq (sAugS mIAdd (mVar 0) (mC (.int 2)) (mC (.int 1)))
  (sq (sIf (fun ρ => tst (m2 mGe (mVar 4) (mC (.int 1000000000000000000)) ρ)) (sSub (mVar 4) (mVar 0) (mC (.int 0))) (fun ρ st => .nx ρ st))
  (sSub (m2 mMod (m2 mAdd (m2 mAdd (m2 mMul (m2 mIx (mVar 0) (mC (.int 1))) (mC (.int 48271))) (m2 mMod (mVar 4) (mC (.int 2147483647)))) (m2 mMul (mC (.int 7919)) (m2 mIx (mVar 0) (mC (.int 2))))) (mC (.int 2147483647))) (mVar 0) (mC (.int 1))))))) (fun ρ st => .nx ρ st))
  (sq (sIf (fun ρ => tst (m2 mGt (m2 mIx (mVar 0) (mC (.int 0))) (mC (.int 0)) ρ)) (sq (sSet 5 (m2 mMod (m2 mIx (mVar 0) (mC (.int 0))) (mVar 1)))
  (sq (sSub (m2 mDiv (m2 mIx (mVar 0) (mC (.int 0))) (mVar 1)) (mVar 0) (mC (.int 0)))
  (sRet (mVar 5)))) (fun ρ st => .nx ρ st))
  (sq (sSet 2 (m2 mMod (m2 mMul (m2 mAdd (m2 mIx (mVar 0) (mC (.int 1))) (mC (.int 1))) (mC (.int 39373))) (mC (.int 1000000007))))
  (sq (sSet 3 (m2 mMod (m2 mMul (m2 mMod (m2 mMul (mVar 2) (mVar 2)) (mC (.int 998244353))) (mC (.int 30011))) (mC (.int 998244353))))
  (sq (sIf (fun ρ => tst (m2 mGt (mVar 1) (mC (.int 1000000)) ρ)) (sRet (m2 mMod (m2 mAdd (m2 mMul (mVar 3) (mC (.int 1000000007))) (mVar 2)) (mVar 1))) (fun ρ st => .nx ρ st))
  (sRet (m2 mMod (m2 mDiv (mVar 3) (mC (.int 7))) (mVar 1))))))))
def mTake : MFn := mFn 2 6 bTake
theorem atI_map {α β : Type} {f : α → β} {l : List α} {i : Int} (h0 : 0 ≤ i) (h : i < ((l.map f).length : Int)) : atI (l.map f) i = some (f (l[i.toNat]'(by rw [List.length_map] at h; omega))) := by
  obtain ⟨k, rfl⟩ := Int.eq_ofNat_of_zero_le h0
  rw [List.length_map] at h
  rw [atI_nat (by rw [List.length_map]; omega), List.getElem_map]
  rfl
theorem take_ok {st : Sto} {b : Nat} {n : Int} (hB : Bag st b) (hn : 0 < n) (hb : n.natAbs.log2 < 9000) :
    Wp (mTake [.c b, .d (.int n)]) st (fun v s => ∃ k : Int, v = .d (.int k) ∧ 0 ≤ k ∧ k < n ∧ Step b st s) noX := by
  have h0 := hB
  obtain ⟨hl, z, r, t, cs, ht, h⟩ := hB
  have S0 : Step b st st := .refl h0
  refine w_fn rfl ?_
  unfold bTake
  (repeat' (first | with_reducible refine w_sq ?_ | with_reducible refine w_if ?_ | with_reducible refine w_set ?_ | with_reducible refine w_retS ?_ | with_reducible refine w_expr ?_ | with_reducible refine w_sub ?_ | with_reducible refine w_augS ?_ | with_reducible refine w_nx ?_ | with_reducible refine w_bk ?_ | with_reducible refine w_ct ?_ | with_reducible refine w_retN ?_ | with_reducible refine w_m2 ?_ | with_reducible refine w_c ?_ | with_reducible refine w_tst ?_ | with_reducible refine w_chain ?_ | with_reducible refine w_and ?_ | with_reducible refine w_or ?_ | with_reducible refine w_not ?_ | with_reducible refine w_andV ?_ | with_reducible refine w_orV ?_ | with_reducible refine w_notV ?_ | with_reducible refine w_mIf ?_ | with_reducible refine w_nil ?_ | with_reducible refine w_cons ?_ | with_reducible refine w_mk ?_ | with_reducible refine w_call ?_ | with_reducible refine w_bnd ?_ | with_reducible refine w_ret ?_ | with_reducible refine t_b ?_ | with_reducible refine b_t ?_ | with_reducible refine b_f ?_ | with_reducible refine b_not ?_ | with_reducible refine w_eqI ?_ | with_reducible refine w_neI ?_ | with_reducible refine w_lt ?_ | with_reducible refine w_le ?_ | with_reducible refine w_gt ?_ | with_reducible refine w_ge ?_ | with_reducible refine w_addI ?_ | with_reducible refine w_sub' ?_ | with_reducible refine w_iadd ?_ | with_reducible refine w_isub ?_ | with_reducible refine w_lenD ?_ | with_reducible refine w_lenT ?_ | ((with_reducible apply w_var); (exact rfl)) | ((with_reducible apply w_mod); (first | decide | assumption | omega)) | ((with_reducible apply w_div); (first | decide | (constructor <;> first | assumption | omega))) | ((with_reducible apply w_mul); (first | exact .inr (by decide) | exact .inl (by decide) | omega)) | ((with_reducible apply w_pow); (decide)) | ((with_reducible apply w_ixL); (first | assumption | exact put_self); (first | exact atI0 | exact atI1 | exact atI2 | exact atI3 | exact atI_map (by omega) (by assumption))) | ((with_reducible apply w_getL); (first | assumption | exact put_self); (first | exact atI0 | exact atI1 | exact atI2 | exact atI3 | exact atI_map (by omega) (by assumption))) | ((with_reducible apply w_setL); (first | assumption | exact put_self); (first | exact ixL0 | exact ixL1 | exact ixL2)) | ((with_reducible apply w_ixD); (first | exact atI0 | exact atI1 | exact atI2 | exact atI3 | exact atI_map (by omega) (by assumption))) | ((with_reducible apply w_lenL); (first | assumption | exact put_self)) | (with_reducible refine b_dec (fun _ => ?_) (fun _ => ?_))))
  all_goals refine ⟨_, rfl, Int.emod_nonneg _ (by omega), Int.emod_lt_of_pos _ hn, ?_⟩
  all_goals repeat' (first | exact S0 | refine Step.put ?_ (by omega))
theorem w_take {st : Sto} {b : Nat} {n : Int} {Q : MV → Sto → Prop} {E : XP} (hB : Bag st b) (hn : 0 < n) (hb : n.natAbs.log2 < 9000) (h : ∀ k s, 0 ≤ k → k < n → Step b st s → Q (.d (.int k)) s) : Wp (mTake [.c b, .d (.int n)]) st Q E :=
  (take_ok hB hn hb).then fun v s z => by
    obtain ⟨k, rfl, h1, h2, h3⟩ := z
    exact h k s h1 h2 h3
end Dm

set_option Elab.async false
set_option linter.all false
set_option maxRecDepth 100000
/-! The plain side: comprehensions and loops. -/
namespace Dm
open PySem PySem.Spec PyProof.Rows L2

theorem w_nox {α : Type} {m : M α} {st : Sto} {Q : α → Sto → Prop} {E : XP} (h : Wp m st Q noX) : Wp (nox m) st Q E := by
  unfold Wp at h
  unfold Wp nox
  cases e : m st with
  | ok a s => rw [e] at h; exact h
  | exc c fs s => rw [e] at h; exact h.elim
  | bad => rw [e] at h; exact h
section
variable {st : Sto} {E : XP} {ρ : Env} {Qv : MV → Sto → Prop} {fi : Env → M ItM} {g : MV → Env → M Env} {gc : Env → M Bool} {fe : Env → M MV} {k : Nat → M MV} {vs : List Nat} {d : Nat} {ok : Sto → Prop}
theorem w_frz {xs : List MV} {ds : List PyData} (e : st.o d = some (.lst xs)) (e2 : datas xs = some ds) (h : Qv (.d (.list ds)) (st.kill d)) : Wp (mFrz d) st Qv E := by
  unfold Wp mFrz
  simp only [e, e2]
  exact h
theorem w_frzp {xs : List MV} (e : st.o d = some (.lst xs)) (e2 : datas xs = none) (h : Qv (.c d) st) : Wp (mFrz d) st Qv E := by
  unfold Wp mFrz
  simp only [e, e2]
  exact h
theorem w_keep {xs : List MV} (e : st.o d = some (.lst xs)) (h : Qv (.c d) st) : Wp (mKeep d) st Qv E := by
  unfold Wp mKeep
  simp only [e]
  exact h
theorem w_lcI (h : Wp (fi ρ) st (fun I s => Wp (mComp I.ok g gc fe s.n (wipeM ρ vs) I.ys) (s.new (.lst [])) (fun _ s' => Wp (k s.n) s' Qv E) E) E) : Wp (mLc k vs fi g gc fe ρ) st Qv E := by
  unfold mLc
  rw [wp_bnd]
  refine h.imp (fun I s z => ?_) fun _ _ _ z => z
  have e : Wp (bnd (mComp I.ok g gc fe s.n (wipeM ρ vs) I.ys) fun _ => k s.n) (s.new (.lst [])) Qv E := by
    rw [wp_bnd]
    exact z
  exact e
/-- the turns, by what holds between them -/
theorem w_comp (Inv : Nat → List MV → Sto → Prop) (hok : ∀ j acc s, Inv j acc s → s.o d = some (.lst acc) → ok s) : ∀ (ys : List (M MV)) (j : Nat) (st : Sto) (acc : List MV), st.o d = some (.lst acc) → Inv j acc st →
    (∀ i y, ys[i]? = some y → ∀ acc s, Inv (j + i) acc s → s.o d = some (.lst acc) → Wp y s (fun v s1 => Wp (g v ρ) s1 (fun ρ1 s2 => Wp (gc ρ1) s2 (fun b s3 => Br b
      (Wp (fe ρ1) s3 (fun z s4 => s4.o d = some (.lst acc) ∧ acc.length < sizeLine ∧ Inv (j + i + 1) (acc ++ [z]) (s4.put d (.lst (acc ++ [z])))) noX) (s3.o d = some (.lst acc) ∧ Inv (j + i + 1) acc s3)) noX) noX) noX) →
    Wp (mComp ok g gc fe d ρ ys) st (fun _ s => ∃ acc, s.o d = some (.lst acc) ∧ Inv (j + ys.length) acc s) E
  | [], j, st, acc, h1, h2, _ => by
    unfold Wp mComp
    rw [if_pos (hok _ _ _ h2 h1)]
    exact ⟨acc, h1, h2⟩
  | y :: ys, j, st, acc, h1, h2, hs => by
    unfold mComp
    have hk := hok _ _ _ h2 h1
    have e : Wp (bnd y (fun v => bnd (nox (g v ρ)) fun ρ1 => bnd (nox (gc ρ1)) fun b => if b = true then bnd (nox (fe ρ1)) fun z s => (match s.o d with
      | some (.lst acc) => if acc.length < sizeLine then mComp ok g gc fe d ρ ys (s.put d (.lst (acc ++ [z]))) else .bad
      | _ => .bad)
      else mComp ok g gc fe d ρ ys)) st (fun _ s => ∃ acc, s.o d = some (.lst acc) ∧ Inv (j + (y :: ys).length) acc s) E := by
      have next : ∀ acc s, s.o d = some (.lst acc) → Inv (j + 1) acc s → Wp (mComp ok g gc fe d ρ ys) s (fun _ s => ∃ acc, s.o d = some (.lst acc) ∧ Inv (j + (y :: ys).length) acc s) E := fun acc s q1 q2 => by
        have z := w_comp Inv hok ys (j + 1) s acc q1 q2 (fun i y e acc s a b => by
          have := hs (i + 1) y (by simpa using e) acc s (by rw [show j + (i + 1) = j + 1 + i from by omega]; exact a) b
          rw [show j + (i + 1) + 1 = j + 1 + i + 1 from by omega] at this
          exact this)
        rw [show j + 1 + ys.length = j + (y :: ys).length from by simp; omega] at z
        exact z
      rw [wp_bnd]
      refine (hs 0 y rfl acc st h2 h1).then fun v s1 z => ?_
      rw [wp_bnd]
      refine w_nox (z.imp (fun ρ1 s2 z => ?_) fun _ _ _ z => z.elim)
      rw [wp_bnd]
      refine w_nox (z.imp (fun b s3 z => ?_) fun _ _ _ z => z.elim)
      cases b with
      | true =>
        rw [if_pos rfl]
        rw [wp_bnd]
        refine w_nox ((z.1 rfl).imp (fun w s4 z => ?_) fun _ _ _ z => z.elim)
        obtain ⟨z1, z2, z3⟩ := z
        have q := next _ _ put_self z3
        unfold Wp at q ⊢
        simp only [z1, z2, if_true]
        exact q
      | false =>
        rw [if_neg (by decide)]
        obtain ⟨z1, z2⟩ := z.2 rfl
        exact next _ _ z1 z2
    unfold Wp at e ⊢
    simp only [if_pos hk]
    exact e

/-! ### what stays -/
/-- places from lo on are as they were -/
structure Above (lo : Nat) (s s' : Sto) : Prop where
  n : s.n ≤ s'.n
  o : ∀ i, lo ≤ i → i < s.n → s'.o i = s.o i
theorem Above.refl {lo : Nat} {s : Sto} : Above lo s s := ⟨Nat.le_refl _, fun _ _ _ => rfl⟩
theorem Above.trans {lo : Nat} {s1 s2 s3 : Sto} (h : Above lo s1 s2) (h' : Above lo s2 s3) : Above lo s1 s3 :=
  ⟨Nat.le_trans h.n h'.n, fun i a b => (h'.o i a (Nat.lt_of_lt_of_le b h.n)).trans (h.o i a b)⟩
theorem Above.mono {lo lo' : Nat} {s s' : Sto} (h : Above lo s s') (l : lo ≤ lo') : Above lo' s s' := ⟨h.n, fun i a b => h.o i (Nat.le_trans l a) b⟩
theorem Step.above {b lo : Nat} {s s' : Sto} (h : Step b s s') (l : b < lo) : Above lo s s' := ⟨h.n, fun i a c => h.o i c (by omega)⟩
theorem Above.put {lo d : Nat} {s : Sto} {o : MO} (h : d < lo) : Above lo s (s.put d o) := ⟨Nat.le_refl _, fun i a _ => put_ne (by omega)⟩
theorem Above.kill {lo d : Nat} {s : Sto} (h : d < lo) : Above lo s (s.kill d) := ⟨Nat.le_refl _, fun i a _ => kill_ne (by omega)⟩
theorem Above.new {lo : Nat} {s : Sto} {o : MO} : Above lo s (s.new o) := ⟨Nat.le_succ _, fun i _ b => new_ne (by omega)⟩
theorem Step.put_d {b d : Nat} {s0 s1 : Sto} {o : MO} (h : Step b s0 s1) (hb : b < s0.n) (hd : s0.n ≤ d) : Step b s0 (s1.put d o) :=
  ⟨h.n, fun i a c => (put_ne (by omega)).trans (h.o i a c), h.bag.1, by
    obtain ⟨_, z, r, t, cs, ht, e⟩ := h.bag
    exact ⟨z, r, t, cs, ht, (put_ne (by omega)).trans e⟩⟩
theorem Step.kill_d {b d : Nat} {s0 s1 : Sto} (h : Step b s0 s1) (hb : b < s0.n) (hd : s0.n ≤ d) : Step b s0 (s1.kill d) :=
  ⟨h.n, fun i a c => (kill_ne (by omega)).trans (h.o i a c), h.bag.1, by
    obtain ⟨_, z, r, t, cs, ht, e⟩ := h.bag
    exact ⟨z, r, t, cs, ht, (kill_ne (by omega)).trans e⟩⟩
theorem Bag.new {b : Nat} {st : Sto} {o : MO} (h : Bag st b) : Bag (st.new o) b := (Step.refl h).new.bag
theorem Step.of_new {b : Nat} {st s : Sto} {o : MO} (h : Bag st b) (h' : Step b (st.new o) s) : Step b st s := (Step.refl h).new.trans h'
/-- a list, seen -/
def LV (lo : Nat) (s : Sto) (v : MV) (zs : List MV) : Prop := listOf s v = some zs ∧ ∀ i, v = .c i → lo ≤ i ∧ i < s.n
def TV (lo : Nat) (s : Sto) (v : MV) (zs : List MV) : Prop := tupOf s v = some zs ∧ ∀ i, v = .c i → lo ≤ i ∧ i < s.n
theorem LV.keep {lo : Nat} {s s' : Sto} {v : MV} {zs : List MV} (h : LV lo s v zs) (a : Above lo s s') : LV lo s' v zs := by
  obtain ⟨h1, h2⟩ := h
  cases v with
  | d p => exact ⟨by cases p <;> exact h1, fun i e => by cases e⟩
  | scr ns => exact ⟨h1, fun i e => by cases e⟩
  | c i =>
    obtain ⟨l1, l2⟩ := h2 i rfl
    refine ⟨?_, fun j e => by cases e; exact ⟨l1, Nat.lt_of_lt_of_le l2 a.n⟩⟩
    show (match s'.o i with | some (.lst xs) => some xs | _ => none) = _
    rw [a.o i l1 l2]
    exact h1
theorem TV.keep {lo : Nat} {s s' : Sto} {v : MV} {zs : List MV} (h : TV lo s v zs) (a : Above lo s s') : TV lo s' v zs := by
  obtain ⟨h1, h2⟩ := h
  cases v with
  | d p => exact ⟨by cases p <;> exact h1, fun i e => by cases e⟩
  | scr ns => exact ⟨h1, fun i e => by cases e⟩
  | c i =>
    obtain ⟨l1, l2⟩ := h2 i rfl
    refine ⟨?_, fun j e => by cases e; exact ⟨l1, Nat.lt_of_lt_of_le l2 a.n⟩⟩
    show (match s'.o i with | some (.tup xs) => some xs | _ => none) = _
    rw [a.o i l1 l2]
    exact h1
theorem LV.mono {lo lo' : Nat} {s : Sto} {v : MV} {zs : List MV} (h : LV lo' s v zs) (l : lo ≤ lo') : LV lo s v zs := ⟨h.1, fun i e => ⟨Nat.le_trans l (h.2 i e).1, (h.2 i e).2⟩⟩
theorem TV.mono {lo lo' : Nat} {s : Sto} {v : MV} {zs : List MV} (h : TV lo' s v zs) (l : lo ≤ lo') : TV lo s v zs := ⟨h.1, fun i e => ⟨Nat.le_trans l (h.2 i e).1, (h.2 i e).2⟩⟩
theorem datas_eq : ∀ {zs : List MV} {ds : List PyData}, datas zs = some ds → zs = ds.map .d
  | [], ds, e => by cases e; rfl
  | .d x :: r, ds, e => by
    unfold datas at e
    cases q : datas r with
    | none => rw [q] at e; cases e
    | some es =>
      rw [q] at e
      cases e
      rw [List.map_cons, ← datas_eq q]
  | .c i :: r, ds, e => by cases e
  | .scr i :: r, ds, e => by cases e
/-- a comprehension whose items are drawn -/
theorem w_lcC {P : Nat → Sto → MV → Prop} {b : Nat} {xs : List MV} (hok : ∀ s, ok s) (hB : Bag st b) (hz : xs.length < sizeLine)
    (hP : ∀ lo s s' z, P lo s z → Above lo s s' → P lo s' z) (hm : ∀ lo lo' s z, P lo' s z → lo ≤ lo' → P lo s z)
    (elt : ∀ x ∈ xs, ∀ s, Step b st s → st.n < s.n → Wp (g x ρ) s (fun ρ1 s1 => Wp (gc ρ1) s1 (fun k s2 => k = true ∧ Wp (fe ρ1) s2 (fun z s3 => P s.n s3 z ∧ Step b s s3) noX) noX) noX)
    (concl : ∀ v zs s', LV st.n s' v zs → (∀ ds, zs = ds.map MV.d → v = .d (.list ds)) → zs.length = xs.length → (∀ z ∈ zs, P st.n s' z) → Step b st s' → Qv v s') :
    Wp (mComp ok g gc fe st.n ρ (xs.map fun x => ret x)) (st.new (.lst [])) (fun _ s' => Wp (mFrz st.n) s' Qv E) E := by
  have hb : b < st.n := hB.1
  have main := w_comp (d := st.n) (E := E) (ok := ok) (g := g) (gc := gc) (fe := fe) (ρ := ρ) (fun j acc s => (Step b st s ∧ st.n < s.n) ∧ acc.length = j ∧ j ≤ xs.length ∧ ∀ z ∈ acc, P (st.n + 1) s z) (fun _ _ s _ _ => hok s) (xs.map fun x => ret x) 0 (st.new (.lst [])) [] new_self
    ⟨⟨(Step.refl hB).new, Nat.lt_succ_self _⟩, rfl, Nat.zero_le _, fun z h => nomatch h⟩ (fun i y e acc s hI hd => ?_)
  · refine main.imp (fun _ s z => ?_) fun _ _ _ z => z
    obtain ⟨acc, hd, ⟨S1, hn⟩, hl, _, hA⟩ := z
    cases q : datas acc with
    | some ds =>
      refine w_frz hd q (concl _ acc _ ⟨by show some (ds.map MV.d) = _; rw [← datas_eq q], fun i e => by cases e⟩ (fun ds' e => ?_) ?_ (fun z hz => hm _ (st.n + 1) _ _ (hP _ _ _ _ (hA z hz) (.kill (Nat.lt_succ_self _))) (Nat.le_succ _)) (S1.kill_d hb (Nat.le_refl _)))
      · rw [e, datas_map] at q
        cases q; rfl
      · rw [hl, List.length_map, Nat.zero_add]
    | none =>
      refine w_frzp hd q (concl _ acc _ ⟨by show (match s.o st.n with | some (.lst xs) => some xs | _ => none) = _; rw [hd], fun i e => by cases e; exact ⟨Nat.le_refl _, hn⟩⟩ (fun ds' e => ?_) ?_ (fun z hz => hm _ (st.n + 1) _ _ (hA z hz) (Nat.le_succ _)) S1)
      · rw [e, datas_map] at q
        cases q
      · rw [hl, List.length_map, Nat.zero_add]
  · obtain ⟨⟨S, hn⟩, hl, hle, hA⟩ := hI
    rw [List.getElem?_map] at e
    cases q : xs[i]? with
    | none => rw [q] at e; cases e
    | some x =>
      rw [q] at e
      cases e
      have hx : x ∈ xs := List.mem_of_getElem? q
      have hi : i < xs.length := (List.getElem?_eq_some_iff.mp q).1
      show Wp (g x ρ) s _ _
      refine (elt x hx s S hn).imp (fun ρ1 s1 z => z.imp (fun k s2 z => ?_) fun _ _ _ z => z) fun _ _ _ z => z
      obtain ⟨rfl, z⟩ := z
      refine b_t (z.imp (fun w s3 z => ?_) fun _ _ _ z => z)
      obtain ⟨zp, zs⟩ := z
      have A3 : Above (st.n + 1) s s3 := zs.above (by omega)
      have dd : s3.o st.n = some (.lst acc) := (zs.o st.n (by omega) (by omega)).trans hd
      refine ⟨dd, by omega, ?_, by rw [List.length_append, hl]; simp, by omega, fun z hz => ?_⟩
      · exact ⟨(S.trans zs).put_d hb (Nat.le_refl _), Nat.lt_of_lt_of_le hn zs.n⟩
      · rcases List.mem_append.mp hz with hz | hz
        · exact hP _ _ _ _ (hA z hz) (A3.trans (.put (Nat.lt_succ_self _)))
        · have : z = w := by simpa using hz
          subst this
          exact hP _ _ _ _ (hm _ _ _ _ zp hn) (.put (Nat.lt_succ_self _))
/-- .. that are data -/
theorem w_lcA {P : PyData → Prop} {b : Nat} {xs : List MV} (hok : ∀ s, ok s) (hB : Bag st b) (hz : xs.length < sizeLine)
    (elt : ∀ x ∈ xs, ∀ s, Step b st s → st.n < s.n → Wp (g x ρ) s (fun ρ1 s1 => Wp (gc ρ1) s1 (fun k s2 => k = true ∧ Wp (fe ρ1) s2 (fun z s3 => (∃ d, z = .d d ∧ P d) ∧ Step b s s3) noX) noX) noX)
    (concl : ∀ ds s', ds.length = xs.length → (∀ d ∈ ds, P d) → Step b st s' → Qv (.d (.list ds)) s') :
    Wp (mComp ok g gc fe st.n ρ (xs.map fun x => ret x)) (st.new (.lst [])) (fun _ s' => Wp (mFrz st.n) s' Qv E) E := by
  refine w_lcC (P := fun _ _ z => ∃ d, z = .d d ∧ P d) hok hB hz (fun _ _ _ _ h _ => h) (fun _ _ _ _ h _ => h) elt fun v zs s' _ hd hl hA S => ?_
  have key : ∀ zs : List MV, (∀ z ∈ zs, ∃ d, z = .d d ∧ P d) → ∃ ds : List PyData, zs = ds.map MV.d ∧ ∀ d ∈ ds, P d := by
    intro zs
    induction zs with
    | nil => exact fun _ => ⟨[], rfl, fun _ h => nomatch h⟩
    | cons z zs ih =>
      intro h
      obtain ⟨d, rfl, hp⟩ := h z List.mem_cons_self
      obtain ⟨ds, rfl, hq⟩ := ih fun z hz => h z (List.mem_cons_of_mem _ hz)
      refine ⟨d :: ds, rfl, fun e he => ?_⟩
      rcases List.mem_cons.mp he with rfl | he
      · exact hp
      · exact hq e he
  obtain ⟨ds, rfl, hp⟩ := key zs hA
  rw [hd ds rfl]
  exact concl ds s' (by rw [← hl, List.length_map]) hp S
/-- .. whose items are told by what is walked -/
theorem w_lcB {F : MV → PyData} {p : MV → Bool} {xs : List MV} (hok : ∀ s, Above 0 st s → ok s) (hz : xs.length < sizeLine)
    (elt : ∀ x ∈ xs, ∀ s, Above 0 st s → Wp (g x ρ) s (fun ρ1 s1 => s1 = s ∧ Wp (gc ρ1) s (fun k s2 => s2 = s ∧ k = p x ∧ (k = true → Wp (fe ρ1) s (fun z s3 => z = .d (F x) ∧ s3 = s) noX)) noX) noX)
    (concl : ∀ s', Above 0 st s' → Qv (.d (.list ((xs.filter p).map F))) s') :
    Wp (mComp ok g gc fe st.n ρ (xs.map fun x => ret x)) (st.new (.lst [])) (fun _ s' => Wp (mFrz st.n) s' Qv E) E := by
  have putA : ∀ {s : Sto} {o : MO}, Above 0 st s → Above 0 st (s.put st.n o) := fun {s o} h => ⟨h.n, fun i a c => (put_ne (by omega)).trans (h.o i a c)⟩
  have main := w_comp (d := st.n) (E := E) (ok := ok) (g := g) (gc := gc) (fe := fe) (ρ := ρ) (fun j acc s => Above 0 st s ∧ acc = ((xs.take j).filter p).map fun x => .d (F x)) (fun _ _ s h _ => hok s h.1) (xs.map fun x => ret x) 0 (st.new (.lst [])) [] new_self
    ⟨.new, rfl⟩ (fun i y e acc s hI hd => ?_)
  · refine main.imp (fun _ s z => ?_) fun _ _ _ z => z
    obtain ⟨acc, hd, A, rfl⟩ := z
    rw [Nat.zero_add, List.length_map, List.take_length] at hd
    have e : datas ((xs.filter p).map fun x => MV.d (F x)) = some ((xs.filter p).map F) := by
      rw [← datas_map ((xs.filter p).map F), List.map_map]
      rfl
    exact w_frz hd e (concl _ ⟨A.n, fun i a c => (kill_ne (by omega)).trans (A.o i a c)⟩)
  · obtain ⟨A, hacc⟩ := hI
    rw [Nat.zero_add] at hacc ⊢
    rw [List.getElem?_map] at e
    cases q : xs[i]? with
    | none => rw [q] at e; cases e
    | some x =>
      rw [q] at e
      cases e
      have hx : x ∈ xs := List.mem_of_getElem? q
      have hi : i < xs.length := (List.getElem?_eq_some_iff.mp q).1
      have ht : xs.take (i + 1) = xs.take i ++ [x] := by rw [List.take_add_one, q]; rfl
      show Wp (g x ρ) s _ _
      refine (elt x hx s A).imp (fun ρ1 s1 z => ?_) fun _ _ _ z => z
      obtain ⟨rfl, z⟩ := z
      refine z.imp (fun k s2 z => ?_) fun _ _ _ z => z
      obtain ⟨rfl, hk, z⟩ := z
      cases k with
      | true =>
        refine b_t ((z rfl).imp (fun w s3 z => ?_) fun _ _ _ z => z)
        obtain ⟨rfl, rfl⟩ := z
        have hl : acc.length ≤ xs.length := by
          rw [hacc, List.length_map]
          exact Nat.le_trans (List.length_filter_le _ _) (by rw [List.length_take]; omega)
        refine ⟨hd, by omega, putA A, ?_⟩
        rw [ht, List.filter_append, List.map_append, ← hacc, List.filter_cons, ← hk]
        rfl
      | false =>
        refine b_f ⟨hd, A, ?_⟩
        rw [ht, List.filter_append, List.map_append, ← hacc, List.filter_cons, ← hk]
        simp
theorem w_forI {body : Env → Sto → SRes} {D : Po} (h : Wp (fi ρ) st (fun I s => Ws (fun ρ s => mFor I.ok g body I.ys ρ s) ρ s D) D.ex) : Ws (sFor fi g body) ρ st D := by
  rw [ws_sb (f := sFor fi g body) (m := fi ρ) (k := fun I st => mFor I.ok g body I.ys ρ st) rfl]
  refine h.imp (fun I s z => ?_) fun _ _ _ z => z
  exact z
theorem w_for {body : Env → Sto → SRes} {D : Po} (Inv : Nat → Env → Sto → Prop) (hok : ∀ j ρ s, Inv j ρ s → ok s) : ∀ (ys : List (M MV)) (j : Nat) (ρ : Env) (st : Sto), Inv j ρ st →
    (∀ i y, ys[i]? = some y → ∀ ρ s, Inv (j + i) ρ s → Wp y s (fun v s1 => Wp (g v ρ) s1 (fun ρ1 s2 => Ws body ρ1 s2 ⟨Inv (j + i + 1), D.rt, D.nx, Inv (j + i + 1), D.ex⟩) D.ex) D.ex) →
    (∀ ρ s, Inv (j + ys.length) ρ s → D.nx ρ s) → Ws (fun ρ s => mFor ok g body ys ρ s) ρ st D
  | [], j, ρ, st, h, _, hd => by
    unfold Ws mFor
    simp only [if_pos (hok _ _ _ h)]
    exact hd ρ st h
  | y :: ys, j, ρ, st, h, hs, hd => by
    have ih : ∀ ρ s, Inv (j + 1) ρ s → Ws (fun ρ s => mFor ok g body ys ρ s) ρ s D := fun ρ s h1 => w_for Inv hok ys (j + 1) ρ s h1 (fun i y e ρ s a => by
      have := hs (i + 1) y (by simpa using e) ρ s (by rw [show j + (i + 1) = j + 1 + i from by omega]; exact a)
      rw [show j + (i + 1) + 1 = j + 1 + i + 1 from by omega] at this
      exact this) (fun ρ s a => hd ρ s (by rw [show j + (y :: ys).length = j + 1 + ys.length from by simp; omega]; exact a))
    have e : Ws (fun ρ => sb (bnd y fun v => g v ρ) ρ (fun ρ1 st1 => match body ρ1 st1 with
      | .nx ρ2 st2 => mFor ok g body ys ρ2 st2
      | .ct ρ2 st2 => mFor ok g body ys ρ2 st2
      | .bk ρ2 st2 => .nx ρ2 st2
      | r => r)) ρ st D := by
      rw [ws_sb rfl, wp_bnd]
      refine (hs 0 y rfl ρ st h).imp (fun v s1 z => z.imp (fun ρ1 s2 z => ?_) fun _ _ _ z => z) fun _ _ _ z => z
      unfold Ws at z ⊢
      cases q : body ρ1 s2 with
      | nx ρ2 s3 =>
        rw [q] at z
        have := ih ρ2 s3 z
        unfold Ws at this
        simp only [q]
        exact this
      | ct ρ2 s3 =>
        rw [q] at z
        have := ih ρ2 s3 z
        unfold Ws at this
        simp only [q]
        exact this
      | bk ρ2 s3 => rw [q] at z; simp only [q]; exact z
      | rt v s3 => rw [q] at z; simp only [q]; exact z
      | exc c fs ρ2 s3 => rw [q] at z; simp only [q]; exact z
      | bad => rw [q] at z; exact z.elim
    unfold Ws at e ⊢
    unfold mFor
    simp only [if_pos (hok _ _ _ h)]
    exact e
end
end Dm

set_option Elab.async false
set_option linter.all false
set_option maxRecDepth 100000
/-! The plain side: texts. -/
namespace Dm
open PySem PySem.Spec PyProof.Rows L2

def TOk (x : Str) (n : Nat) : Prop := PyData.strOk x = true ∧ x.length ≤ n
theorem strOk_iff {x : Str} : PyData.strOk x = true ↔ ∀ c ∈ x.cps.toList, c < 1114112 := by
  unfold PyData.strOk
  rw [← Array.all_toList, List.all_eq_true]
  exact ⟨fun h c hc => of_decide_eq_true (h c hc), fun h c hc => decide_eq_true (h c hc)⟩
theorem ok_app {x y : Str} (hx : PyData.strOk x = true) (hy : PyData.strOk y = true) : PyData.strOk (x ++ y) = true := by
  rw [strOk_iff] at *
  intro c hc
  rw [Str.cps_append, Array.toList_append] at hc
  rcases List.mem_append.mp hc with h | h
  · exact hx c h
  · exact hy c h
theorem TOk.app {x y : Str} {n m : Nat} (hx : TOk x n) (hy : TOk y m) : TOk (x ++ y) (n + m) := ⟨ok_app hx.1 hy.1, by rw [strLen_append]; exact Nat.add_le_add hx.2 hy.2⟩
theorem TOk.mono {x : Str} {n m : Nat} (h : TOk x n) (l : n ≤ m) : TOk x m := ⟨h.1, Nat.le_trans h.2 l⟩
theorem TOk.cut {x : Str} {n : Nat} (h : TOk x n) (lo hi : Option Int) : TOk (cutS x lo hi) n := by
  refine ⟨strOk_iff.mpr fun c hc => ?_, ?_⟩
  · unfold cutS at hc
    exact strOk_iff.mp h.1 c (List.mem_of_mem_drop (List.mem_of_mem_take hc))
  · unfold cutS
    show (List.toArray _).size ≤ n
    rw [List.size_toArray, List.length_take, List.length_drop]
    have := h.2
    have e : x.length = x.cps.toList.length := by simp [Str.length]
    omega
theorem char_lt (c : Char) : c.toNat < 1114112 := by
  have := c.valid
  unfold UInt32.isValidChar Nat.isValidChar at this
  show c.val.toNat < _
  omega
theorem ok_ofString (s : String) : PyData.strOk (Str.ofString s) = true := by
  rw [strOk_iff, Str.ofString_eq_toList]
  intro c hc
  simp at hc
  obtain ⟨d, _, rfl⟩ := hc
  exact char_lt d
theorem TOk.lit {s : String} {n : Nat} (h : s.length ≤ n) : TOk (Str.ofString s) n := ⟨ok_ofString s, by rw [PySem.ofString_length]; exact h⟩
theorem TOk.lit2 {s : String} (h : s.length ≤ 200) : TOk (Str.ofString s) 200 := .lit h
theorem TOk.sign {z : Str} {c : Nat} (h : PyData.strOk z = true) (hc : c ∈ z.cps.toList) : TOk ⟨#[c]⟩ 1 := ⟨strOk_iff.mpr fun d hd => by
  simp at hd
  rw [hd]
  exact strOk_iff.mp h c hc, Nat.le_refl _⟩
theorem ok_nil : PyData.strOk ⟨#[]⟩ = true := by rw [strOk_iff]; intro c hc; cases hc
theorem digits_lt : ∀ (fuel n : Nat) (ds : List Char) (c : Char), c ∈ Nat.toDigitsCore 16 fuel n ds → c.toNat < 1114112 := fun _ _ _ c _ => char_lt c
theorem reprChar_lt {q c d : Nat} (hq : q < 1114112) (hc : c < 1114112) (hd : d ∈ Builtin.Str.reprChar q c) : d < 1114112 := by
  have hex : ∀ (w : Nat), d ∈ List.replicate (w - ((Nat.toDigits 16 c).map Char.toNat).length) 48 ++ (Nat.toDigits 16 c).map Char.toNat → d < 1114112 := fun w h => by
    rcases List.mem_append.mp h with h | h
    · rw [(List.mem_replicate.mp h).2]; decide
    · obtain ⟨e, _, rfl⟩ := List.mem_map.mp h
      exact char_lt e
  unfold Builtin.Str.reprChar at hd
  dsimp only at hd
  repeat' split at hd
  all_goals first
    | (rcases List.mem_append.mp hd with h | h; (· simp at h; omega); (· exact hex _ h))
    | (simp at hd; omega)
theorem ok_repr {x : Str} (h : PyData.strOk x = true) : PyData.strOk (reprText x) = true := by
  have hq : reprQuote x < 1114112 := by
    unfold reprQuote
    split <;> decide
  have key : ∀ (l : List Nat) (acc : Array Nat), (∀ c ∈ l, c < 1114112) → (∀ c ∈ acc.toList, c < 1114112) → ∀ c ∈ (l.foldl (fun out c => out ++ (Builtin.Str.reprChar (reprQuote x) c).toArray) acc).toList, c < 1114112 := by
    intro l
    induction l with
    | nil => exact fun acc _ h => h
    | cons a l ih =>
      intro acc h1 h2
      refine ih _ (fun c hc => h1 c (List.mem_cons_of_mem _ hc)) fun c hc => ?_
      rw [Array.toList_append] at hc
      rcases List.mem_append.mp hc with hc | hc
      · exact h2 c hc
      · exact reprChar_lt hq (h1 a List.mem_cons_self) (by simpa using hc)
  rw [strOk_iff] at *
  intro c hc
  unfold reprText at hc
  rw [Array.toList_push, ← Array.foldl_toList] at hc
  rcases List.mem_append.mp hc with hc | hc
  · exact key _ _ h (fun c hc => by simp at hc; omega) c hc
  · simp at hc; omega
theorem TOk.repr {x : Str} {n : Nat} (h : TOk x n) : TOk (reprText x) (10 * n + 2) :=
  ⟨ok_repr h.1, Nat.le_trans (StrLaws.reprText_len x fun c hc => Nat.lt_of_lt_of_le (strOk_iff.mp h.1 c hc) (by decide)) (by have := h.2; omega)⟩
theorem TOk.int {i : Int} (h : i.natAbs.log2 < 1920) : TOk (toString i : String) 2000 := ⟨ok_ofString _, by
  have e := int_text_length_le (k := 1920) (by decide) h
  rw [PySem.ofString_length]; omega⟩
theorem TOk.len {x : Str} {n : Nat} (h : TOk x n) (hn : n ≤ 1000000) : x.length ≤ sizeLine := Nat.le_trans h.2 (Nat.le_trans hn (by show 1000000 ≤ 2 ^ 24; decide))
theorem TOk.glue {sep : Str} {n : Nat} (hs : PyData.strOk sep = true) (h0 : sep.length = 0) : ∀ {ss : List Str}, (∀ s ∈ ss, TOk s n) → TOk (Txt.join sep ss) (n * ss.length) := by
  have key : ∀ (l : List Str) (acc : Array Nat) (m : Nat), (∀ s ∈ l, TOk s n) → (∀ c ∈ acc.toList, c < 1114112) → acc.size ≤ m →
      (∀ c ∈ (l.foldl (fun acc p => acc ++ sep.cps ++ p.cps) acc).toList, c < 1114112) ∧ (l.foldl (fun acc p => acc ++ sep.cps ++ p.cps) acc).size ≤ m + n * l.length := by
    intro l
    induction l with
    | nil => exact fun acc m _ h1 h2 => ⟨h1, by simpa using h2⟩
    | cons a l ih =>
      intro acc m h1 h2 h3
      have ha := h1 a List.mem_cons_self
      have e0 : sep.cps.size = 0 := h0
      obtain ⟨z1, z2⟩ := ih (acc ++ sep.cps ++ a.cps) (m + n) (fun s hs => h1 s (List.mem_cons_of_mem _ hs)) (fun c hc => by
        rw [Array.toList_append, Array.toList_append] at hc
        rcases List.mem_append.mp hc with hc | hc
        · rcases List.mem_append.mp hc with hc | hc
          · exact h2 c hc
          · exact strOk_iff.mp hs c hc
        · exact strOk_iff.mp ha.1 c hc) (by
        have : a.cps.size ≤ n := ha.2
        rw [Array.size_append, Array.size_append]; omega)
      refine ⟨z1, Nat.le_trans z2 ?_⟩
      rw [List.length_cons, Nat.mul_add]
      omega
  intro ss h
  cases ss with
  | nil =>
    refine ⟨?_, ?_⟩
    · exact ok_nil
    · show (Str.empty).length ≤ _
      exact Nat.zero_le _
  | cons a l =>
    have ha := h a List.mem_cons_self
    obtain ⟨z1, z2⟩ := key l a.cps n (fun s hs => h s (List.mem_cons_of_mem _ hs)) (strOk_iff.mp ha.1) ha.2
    refine ⟨strOk_iff.mpr z1, ?_⟩
    show (l.foldl (fun acc p => acc ++ sep.cps ++ p.cps) a.cps).size ≤ _
    rw [List.length_cons, Nat.mul_add]
    omega
theorem ok_join {sep : Str} (hs : PyData.strOk sep = true) : ∀ {ss : List Str}, (∀ s ∈ ss, PyData.strOk s = true) → PyData.strOk (Str.join sep ss) = true
  | [], _ => ok_nil
  | [x], h => h x List.mem_cons_self
  | x :: y :: r, h => ok_app (ok_app (h x List.mem_cons_self) hs) (ok_join hs fun s hs => h s (List.mem_cons_of_mem _ hs))
theorem ok_listText {ss : List Str} (h : ∀ s ∈ ss, PyData.strOk s = true) : PyData.strOk (listText ss) = true := by
  have key : ∀ (l : List Str) (k : Nat) (acc : Str), (∀ s ∈ l, PyData.strOk s = true) → PyData.strOk acc = true → PyData.strOk (textFrom k acc l) = true := by
    intro l
    induction l with
    | nil => exact fun k acc _ h => h
    | cons a l ih => exact fun k acc h1 h2 => ih _ _ (fun s hs => h1 s (List.mem_cons_of_mem _ hs)) (ok_app (ok_app h2 (ok_ofString _)) (h1 a List.mem_cons_self))
  exact ok_app (key ss 0 "[" h (ok_ofString _)) (ok_ofString _)
theorem ok_tupleText {ss : List Str} (h : ∀ s ∈ ss, PyData.strOk s = true) : PyData.strOk (tupleText ss) = true :=
  ok_app (ok_app (ok_ofString _) (ok_join (ok_ofString _) h)) (ok_ofString _)
theorem ok_dictText {ss : List Str} (h : ∀ s ∈ ss, PyData.strOk s = true) : PyData.strOk (dictText ss) = true :=
  ok_app (ok_app (ok_ofString _) (ok_join (ok_ofString _) h)) (ok_ofString _)
mutual
theorem ok_shown : ∀ {d : PyData}, d.canLay0 = true → PyData.strOk d.shown = true
  | .none, _ => by simp only [PyData.shown]; exact ok_ofString _
  | .bool b, _ => by simp only [PyData.shown]; cases b <;> exact ok_ofString _
  | .int i, _ => by simp only [PyData.shown]; exact ok_ofString _
  | .str x, h => by simp only [PyData.shown]; exact ok_repr (by simpa [PyData.canLay0] using h)
  | .list xs, h => by simp only [PyData.shown]; exact ok_listText (oks_shown (by simpa [PyData.canLay0] using h))
  | .tuple xs, h => by simp only [PyData.shown]; exact ok_tupleText (oks_shown (by simpa [PyData.canLay0] using h))
  | .dict kvs, h => by simp [PyData.canLay0] at h
theorem oks_shown : ∀ {ds : List PyData}, PyData.canLayAll0 ds = true → ∀ s ∈ PyData.shownAll ds, PyData.strOk s = true
  | [], _ => by simp only [PyData.shownAll]; exact fun _ h => nomatch h
  | d :: ds, h => by
    have h' : d.canLay0 = true ∧ PyData.canLayAll0 ds = true := by simpa [PyData.canLayAll0] using h
    simp only [PyData.shownAll]
    intro s hs
    rcases List.mem_cons.mp hs with rfl | hs
    · exact ok_shown h'.1
    · exact oks_shown h'.2 s hs
end
theorem tok2 {a b : Str} {n m : Nat} (ha : TOk a n) (hb : TOk b m) (h : n + m ≤ 1000000) : a.length + b.length ≤ sizeLine :=
  Nat.le_trans (Nat.add_le_add ha.2 hb.2) (Nat.le_trans h (by show 1000000 ≤ 2 ^ 24; decide))
section
variable {st : Sto} {E : XP} {Qv : MV → Sto → Prop}
/-- an item at a drawn place -/
theorem w_ixA {ds : List PyData} {i : Int} (h0 : 0 ≤ i) (h1 : i < (ds.length : Int)) (h : ∀ d ∈ ds, Qv (.d d) st) : Wp (mIx (.d (.list ds)) (.d (.int i))) st Qv E := by
  obtain ⟨d, e, hm⟩ := atI_of h0 h1
  exact w_ixD e (h d hm)
theorem w_ixLA {b : Nat} {xs : List MV} {i : Int} (h2 : st.o b = some (.lst xs)) (h0 : 0 ≤ i) (h1 : i < (xs.length : Int)) (h : ∀ d ∈ xs, Qv d st) : Wp (mIx (.c b) (.d (.int i))) st Qv E := by
  obtain ⟨d, e, hm⟩ := atI_of h0 h1
  exact w_ixL h2 e (h d hm)
theorem w_ixSA {z : Str} {i : Int} (hz : z.length ≤ sizeLine) (h0 : 0 ≤ i) (h1 : i < (z.length : Int)) (hs : PyData.strOk z = true) (h : ∀ x : Str, TOk x 1 → (∃ c, c ∈ z.cps.toList ∧ x = ⟨#[c]⟩) → Qv (.d (.str x)) st) : Wp (mIx (.d (.str z)) (.d (.int i))) st Qv E := by
  have e0 : z.length = z.cps.toList.length := by simp [Str.length]
  obtain ⟨c, e, hm⟩ := atI_of (l := z.cps.toList) h0 (by rw [← e0]; exact h1)
  exact w_ixS hz e (h _ (.sign hs hm) ⟨c, hm, rfl⟩)
end
def big : Int := 1000000000000000000000000000000000000000000000000
theorem big_log {n : Int} (h0 : 0 < n) (h : n ≤ 1000000000000000000000000000000000000000000000000) : n.natAbs.log2 < 9000 := by
  have h1 : n.natAbs < 2 ^ 200 := by
    have : (1000000000000000000000000000000000000000000000000 : Nat) < 2 ^ 200 := by decide
    omega
  exact Nat.lt_of_lt_of_le (PySem.Flt.log2_lt_of (by decide) h1) (by decide)
/-- a draw, the steps from one origin kept -/
theorem w_draw {s0 st : Sto} {b : Nat} {n : Int} {Q : MV → Sto → Prop} {E : XP} (S : Step b s0 st) (hn : 0 < n) (hb : n ≤ 1000000000000000000000000000000000000000000000000) (h : ∀ k s, 0 ≤ k → k < n → Step b s0 s → Q (.d (.int k)) s) : Wp (mTake [.c b, .d (.int n)]) st Q E :=
  w_take S.bag hn (big_log hn hb) fun k s h1 h2 h3 => h k s h1 h2 (S.trans h3)
theorem strs_of {n : Nat} : ∀ {ds : List PyData}, (∀ d ∈ ds, ∃ x, d = .str x ∧ TOk x n) → ∃ ss : List Str, ds = ss.map .str ∧ ∀ s ∈ ss, TOk s n
  | [], _ => ⟨[], rfl, fun _ h => nomatch h⟩
  | d :: ds, h => by
    obtain ⟨x, rfl, hx⟩ := h d List.mem_cons_self
    obtain ⟨ss, rfl, hs⟩ := strs_of (ds := ds) fun d hd => h d (List.mem_cons_of_mem _ hd)
    refine ⟨x :: ss, rfl, fun s hs' => ?_⟩
    rcases List.mem_cons.mp hs' with rfl | hs'
    · exact hx
    · exact hs s hs'
theorem strsM_map : ∀ ss : List Str, strsM ((ss.map PyData.str).map MV.d) = some ss
  | [] => rfl
  | s :: ss => by
    show (strsM ((ss.map PyData.str).map MV.d)).map (s :: ·) = _
    rw [strsM_map ss]
    rfl
theorem sum_tok {n : Nat} : ∀ {ss : List Str}, (∀ s ∈ ss, TOk s n) → (ss.map (·.length)).sum ≤ n * ss.length
  | [], _ => by simp
  | s :: ss, h => by
    have ih := sum_tok fun s hs => h s (List.mem_cons_of_mem _ hs)
    have h1 := (h s List.mem_cons_self).2
    rw [List.map_cons, List.sum_cons, List.length_cons, Nat.mul_add]
    omega
/-- ''.join of short texts -/
theorem w_join0 {st : Sto} {E : XP} {Qv : MV → Sto → Prop} {ss : List Str} {n : Nat} (h : ∀ s ∈ ss, TOk s n) (hz : n * ss.length ≤ 1000000) (k : ∀ x, TOk x (n * ss.length) → Qv (.d (.str x)) st) : Wp (mJoin (.d (.str "")) [.d (.list (ss.map .str))]) st Qv E :=
  w_join (zs := (ss.map PyData.str).map MV.d) rfl (strsM_map ss) (by
    have := sum_tok h
    have e : ("" : Str).length = 0 := by rw [PySem.ofString_length]; rfl
    rw [e]; omega) (k _ (.glue (ok_ofString _) (by rw [PySem.ofString_length]; rfl) h))
theorem e_int {i : Int} {Q : Int → Prop} (h : Q i) : ∃ j, asInt (.d (.int i)) = some j ∧ Q j := ⟨i, rfl, h⟩
theorem e_str {i : Str} {Q : Str → Prop} (h : Q i) : ∃ j, asStr (.d (.str i)) = some j ∧ Q j := ⟨i, rfl, h⟩
theorem e_keyS {i : Str} {Q : Key → Prop} (h : Q (.inr i)) : ∃ j, asKey (.d (.str i)) = some j ∧ Q j := ⟨_, rfl, h⟩
theorem e_keyI {i : Int} {Q : Key → Prop} (h : Q (.inl i)) : ∃ j, asKey (.d (.int i)) = some j ∧ Q j := ⟨_, rfl, h⟩
theorem e_rng {i : Int} {Q : Int → Prop} (h1 : -(2 ^ 62) ≤ i) (h2 : i < 2 ^ 62) (h : Q i) : ∃ j, [MV.d (.int i)] = [MV.d (.int j)] ∧ -(2 ^ 62) ≤ j ∧ j < 2 ^ 62 ∧ Q j := ⟨_, rfl, h1, h2, h⟩
theorem e_tyS {s : Sto} {x : Str} {A : Prop} (h : A) : tyOf s (.d (.str x)) = "str" ∧ A := ⟨rfl, h⟩
theorem e_tt {A : Prop} (h : A) : true = true ∧ A := ⟨rfl, h⟩
theorem e_isi {ins exc : List Str} {tb : List (String × Bool)} {to : List (Str × Bool)} {s : Sto} {x : PyData} {t : Tag} {b : Bool} {Q : Bool → Prop} (h1 : tagOf s (.d x) = some t) (h2 : kfT tb to t = some b) (h : Q b) : kitKnown ins exc s (.d x) = true ∧ ∃ t b, tagOf s (.d x) = some t ∧ kfT tb to t = some b ∧ Q b := ⟨rfl, t, b, h1, h2, h⟩
theorem w_lenS2 {st : Sto} {E : XP} {Qv : MV → Sto → Prop} {z : Str} {n : Nat} (hz : TOk z n) (hn : n ≤ 1000000) (h : z.length ≤ n → Qv (.d (.int z.length)) st) : Wp (mLen [.d (.str z)]) st Qv E := w_lenS (hz.len hn) (h hz.2)
/-- if c: x = a, else: x = b: the two ways joined -/
theorem w_sqIf {gc : Env → M Bool} {fa fb : Env → M MV} {i : Nat} {g : Env → Sto → SRes} {ρ : Env} {st : Sto} {D : Po} (I : MV → Sto → Prop)
    (h1 : Wp (gc ρ) st (fun k s => Br k (Wp (fa ρ) s I D.ex) (Wp (fb ρ) s I D.ex)) D.ex) (h2 : ∀ v s, I v s → Ws g (ρ.set i (some v)) s D) : Ws (sq (sIf gc (sSet i fa) (sSet i fb)) g) ρ st D := by
  refine w_sq (w_if (h1.imp (fun k s z => ?_) fun _ _ _ z => z))
  exact ⟨fun e => w_set ((z.1 e).imp (fun v s z => h2 v s z) fun _ _ _ z => z), fun e => w_set ((z.2 e).imp (fun v s z => h2 v s z) fun _ _ _ z => z)⟩
theorem w_sqIfStr {n b : Nat} {s0 : Sto} {gc : Env → M Bool} {fa fb : Env → M MV} {i : Nat} {g : Env → Sto → SRes} {ρ : Env} {st : Sto} {D : Po}
    (h1 : Wp (gc ρ) st (fun k s => Br k (Wp (fa ρ) s (fun v s => ∃ x, v = .d (.str x) ∧ TOk x n ∧ Step b s0 s) D.ex) (Wp (fb ρ) s (fun v s => ∃ x, v = .d (.str x) ∧ TOk x n ∧ Step b s0 s) D.ex)) D.ex) (h2 : ∀ x s, TOk x n → Step b s0 s → Ws g (ρ.set i (some (.d (.str x)))) s D) :
    Ws (sq (sIf gc (sSet i fa) (sSet i fb)) g) ρ st D :=
  w_sqIf _ h1 fun v s ⟨x, e, hx, hS⟩ => by
    rw [e]
    exact h2 x s hx hS
end Dm

set_option Elab.async false
set_option linter.all false
set_option maxRecDepth 100000
set_option maxHeartbeats 1000000
/-! the law: its mirror and derivations, printed by gen.py -/
namespace Lw
open PySem PySem.Spec PyProof.Rows L2 Dm
noncomputable section
def top (i : Nat) : Stmt := PySem.Challenge.pw_stillmain_k11_kinds_known.main.body.getD i (.Pass ⟨0, 0, 0, 0⟩)
structure Txt (K : PySem.W.Frag) (mg : Str → Option Value) : Prop where
  b_abs : mg "abs" = none
  b_len : mg "len" = none
  b_int : mg "int" = none
  clss : Clss (cmK K) K [] ["NoRow"]
  k_int : KfOk (cmK K) K (ClsN.val K (.inl "int")) [("NoneType", false), ("bool", true), ("int", true), ("str", false), ("list", false), ("tuple", false), ("dict", false)] [("NoRow", false)]
  b_isinstance : mg "isinstance" = none
  b_bool : mg "bool" = none
  k_bool : KfOk (cmK K) K (ClsN.val K (.inl "bool")) [("NoneType", false), ("bool", true), ("int", false), ("str", false), ("list", false), ("tuple", false), ("dict", false)] [("NoRow", false)]
  g_MOST_COST : ∃ t, mg "MOST_COST" = some (.int 99 t)
  b_str : mg "str" = none
  k_str : KfOk (cmK K) K (ClsN.val K (.inl "str")) [("NoneType", false), ("bool", false), ("int", false), ("str", true), ("list", false), ("tuple", false), ("dict", false)] [("NoRow", false)]
  g_LONGEST : ∃ t, mg "LONGEST" = some (.int 8 t)
  g_LETTERS : ∃ t, mg "LETTERS" = some (.str "abcdefghijklmnopqrstuvwxyz" t)
  g_MOST_TIME : ∃ t, mg "MOST_TIME" = some (.int 1000000000 t)
  b_range : mg "range" = none
  x_NoRow : (He.Fa.exc "NoRow").ok K = true
  c_NoRow : mg "NoRow" = some (.ref (He.ga K "NoRow"))
  shown : ∀ c ∈ (["NoRow"] : List Str), ExN (cmK K) K c
  b_repr : mg "repr" = none
section
variable {P : Program} {w : World} {K : PySem.W.Frag} {mg : Str → Option Value} {base : Heap}
abbrev s_law_bag : Stmt := top 14
def b_law_bag : Dm.Env → Sto → SRes :=
  (sRet (mMk mkLc (mCons (mC (.int 0)) (mCons (mC (.int 1234567891)) (mCons (mC (.int 0)) (mCons (mLc mFrz [1] (itList (mSlice mkL (mVar 0) (fun _ => ret none) (mPart (mC (.int 63))))) (gNm 1) (fun _ => ret true) (mMk mAbs (mCons (mVar 1) mNil))) mNil))))))
def m_law_bag : MFn := mFn 1 2 b_law_bag
theorem sc_law_bag : FnScope ["_law_script", "_law_cell"] ["_law_script"] (defScope s_law_bag) := ⟨rfl, rfl, rfl, by decide +kernel, rfl, by decide +kernel, by decide +kernel⟩
theorem ok_law_bag  (T : Txt K mg) (D : ∃ fd, FunD K "_law_bag" "_law_bag" (defArgs s_law_bag) (defBody s_law_bag) (defScope s_law_bag) [] [] (He.ga K "_law_bag") fd) (g : mg "_law_bag" = some (.ref (He.ga K "_law_bag"))) : CallF P w K mg base (cmK K) false 1 "_law_bag" m_law_bag := by
  refine callF_of (k := 0) (N := ["_law_script", "_law_cell"]) (ps := ["_law_script"]) (fb := b_law_bag) D g sc_law_bag (fun _ _ _ _ _ _ us hl => match us, hl with | [_], _ => rfl) (fun cdv A outer s H E hr => ?_)
  have hN := sc_law_bag.nd
  exact (dss_one (ds_ret (de_lstC (da_cons de_int (da_cons de_int (da_cons de_int (da_cons (de_lc kFrz rfl hN (di_list (de_slice lstOk (dv 0) do_none (do_some de_int))) (own := [("_law_cell", 1)]) (blkOk_by (by rfl)) (fun s H C cl fp => (dg_name (i := 1) hN rfl (by first | exact .inl rfl | exact .inr rfl))) (fun s H C cl fp => dts_nil) (fun s H C cl fp => (de_callB cd_abs (by rfl) T.b_abs (by decide +kernel) (da_cons (dv 1) da_nil)))) da_nil)))))))
abbrev s_law_due : Stmt := top 20
def b_law_due : Dm.Env → Sto → SRes :=
  (sq (sSet 2 (mC (.str "abcdefghijklmnopqrstuvwxyz")))
  (sq (sSet 3 (m2 mEq (mVar 0) (mC (.str "whole"))))
  (sq (sSet 4 (mAndV (m2 mEq (mVar 0) (mC (.str "text"))) (mAndV (mChain mLe mLe (mC (.int 1)) (mMk mLen (mCons (mVar 1) mNil)) (mC (.int 8))) (m2 mEq (mLc mFrz [6] (itStr (mVar 1)) (gNm 6) (fun ρ => tst (m2 mNotIn (mVar 6) (mVar 2) ρ)) (mVar 6)) (mMk mkL mNil)))))
  (sq (sSet 5 (mAndV (m2 mEq (mVar 0) (mC (.str "text"))) (m2 mIn (mVar 1) (mMk mkT (mCons (mC (.str "open")) (mCons (mC (.str "shut")) mNil))))))
  (sRet (mMk mkL (mCons (mVar 3) (mCons (mVar 4) (mCons (mAndV (mVar 3) (mChain mLe mLe (mC (.int 0)) (mVar 1) (mC (.int 99)))) (mCons (mAndV (mVar 3) (mChain mLe mLe (mC (.int 0)) (mVar 1) (m2 mPow (mC (.int 10)) (mC (.int 9))))) (mCons (mVar 5) mNil)))))))))))
def m_law_due : MFn := mFn 2 7 b_law_due
theorem sc_law_due : FnScope ["_law_kind", "_law_thing_here", "_law_letters", "_law_whole", "_law_name", "_law_position", "_law_sign_here"] ["_law_kind", "_law_thing_here"] (defScope s_law_due) := ⟨rfl, rfl, rfl, by decide +kernel, rfl, by decide +kernel, by decide +kernel⟩
theorem ok_law_due  (T : Txt K mg) (D : ∃ fd, FunD K "_law_due" "_law_due" (defArgs s_law_due) (defBody s_law_due) (defScope s_law_due) [] [] (He.ga K "_law_due") fd) (g : mg "_law_due" = some (.ref (He.ga K "_law_due"))) : CallF P w K mg base (cmK K) false 1 "_law_due" m_law_due := by
  refine callF_of (k := 0) (N := ["_law_kind", "_law_thing_here", "_law_letters", "_law_whole", "_law_name", "_law_position", "_law_sign_here"]) (ps := ["_law_kind", "_law_thing_here"]) (fb := b_law_due) D g sc_law_due (fun _ _ _ _ _ _ us hl => match us, hl with | [_, _], _ => rfl) (fun cdv A outer s H E hr => ?_)
  have hN := sc_law_due.nd
  exact (dss_cons (ds_set (i := 2) hN rfl (by first | exact .inl rfl | exact .inr rfl) de_str)
  (dss_cons (ds_set (i := 3) hN rfl (by first | exact .inl rfl | exact .inr rfl) (de_cmp (od_eq hr.u64) (dv 0) de_str (by rfl)))
  (dss_cons (ds_set (i := 4) hN rfl (by first | exact .inl rfl | exact .inr rfl) (de_and (de_cmp (od_eq hr.u64) (dv 0) de_str (by rfl)) (de_and (de_chain od_le od_le de_int (de_callB cd_len (by rfl) T.b_len (by decide +kernel) (da_cons (dv 1) da_nil)) de_int) (de_one (de_cmp (od_eq hr.u64) (de_lc kFrz rfl hN (di_str (dv 1)) (own := [("_law_sign_here", 6)]) (blkOk_by (by rfl)) (fun s H C cl fp => (dg_name (i := 6) hN rfl (by first | exact .inl rfl | exact .inr rfl))) (fun s H C cl fp => (dts_one (dt_cmp (od_notin hr.u1) (dv 6) (dv 2) (by rfl)))) (fun s H C cl fp => (dv 6))) (de_lst da_nil) (by rfl))))))
  (dss_cons (ds_set (i := 5) hN rfl (by first | exact .inl rfl | exact .inr rfl) (de_and (de_cmp (od_eq hr.u64) (dv 0) de_str (by rfl)) (de_one (de_cmp (od_in hr.u1) (dv 1) (de_tup (da_cons de_str (da_cons de_str da_nil))) (by rfl)))))
  (dss_one (ds_ret (de_lst (da_cons (dv 3) (da_cons (dv 4) (da_cons (de_and (dv 3) (de_one (de_chain od_le od_le de_int (dv 1) de_int))) (da_cons (de_and (dv 3) (de_one (de_chain od_le od_le de_int (dv 1) (de_op od_pow de_int de_int)))) (da_cons (dv 5) da_nil))))))))))))
abbrev s_is_whole : Stmt := top 5
def b_is_whole : Dm.Env → Sto → SRes :=
  (sRet (mAndV (mIsi [] ["NoRow"] [("NoneType", false), ("bool", true), ("int", true), ("str", false), ("list", false), ("tuple", false), ("dict", false)] [("NoRow", false)] (mVar 0)) (mNotV (mIsi [] ["NoRow"] [("NoneType", false), ("bool", true), ("int", false), ("str", false), ("list", false), ("tuple", false), ("dict", false)] [("NoRow", false)] (mVar 0)))))
def m_is_whole : MFn := mFn 1 1 b_is_whole
theorem sc_is_whole : FnScope ["thing"] ["thing"] (defScope s_is_whole) := ⟨rfl, rfl, rfl, by decide +kernel, rfl, by decide +kernel, by decide +kernel⟩
theorem ok_is_whole  (T : Txt K mg) (D : ∃ fd, FunD K "is_whole" "is_whole" (defArgs s_is_whole) (defBody s_is_whole) (defScope s_is_whole) [] [] (He.ga K "is_whole") fd) (g : mg "is_whole" = some (.ref (He.ga K "is_whole"))) : CallF P w K mg base (cmK K) false 1 "is_whole" m_is_whole := by
  refine callF_of (k := 0) (N := ["thing"]) (ps := ["thing"]) (fb := b_is_whole) D g sc_is_whole (fun _ _ _ _ _ _ us hl => match us, hl with | [_], _ => rfl) (fun cdv A outer s H E hr => ?_)
  have hN := sc_is_whole.nd
  exact (dss_one (ds_ret (de_and (de_isi T.clss T.k_int (.ty "int") (by rfl) T.b_isinstance (dv 0) (pe_bltn (by rfl) T.b_int (u := .type "int") (by decide +kernel) rfl)) (de_one (de_not (de_isi T.clss T.k_bool (.ty "bool") (by rfl) T.b_isinstance (dv 0) (pe_bltn (by rfl) T.b_bool (u := .type "bool") (by decide +kernel) rfl)))))))
abbrev s_is_cost : Stmt := top 7
def b_is_cost : Dm.Env → Sto → SRes :=
  (sRet (mAndV (mCall m_is_whole (mCons (mVar 0) mNil)) (mChain mLe mLe (mC (.int 0)) (mVar 0) (mC (.int 99)))))
def m_is_cost : MFn := mFn 1 1 b_is_cost
theorem sc_is_cost : FnScope ["thing"] ["thing"] (defScope s_is_cost) := ⟨rfl, rfl, rfl, by decide +kernel, rfl, by decide +kernel, by decide +kernel⟩
theorem ok_is_cost (F_is_whole : CallF P w K mg base (cmK K) false 1 "is_whole" m_is_whole) (T : Txt K mg) (D : ∃ fd, FunD K "is_cost" "is_cost" (defArgs s_is_cost) (defBody s_is_cost) (defScope s_is_cost) [] [] (He.ga K "is_cost") fd) (g : mg "is_cost" = some (.ref (He.ga K "is_cost"))) : CallF P w K mg base (cmK K) false 2 "is_cost" m_is_cost := by
  refine callF_of (k := 1) (N := ["thing"]) (ps := ["thing"]) (fb := b_is_cost) D g sc_is_cost (fun _ _ _ _ _ _ us hl => match us, hl with | [_], _ => rfl) (fun cdv A outer s H E hr => ?_)
  have hN := sc_is_cost.nd
  exact (dss_one (ds_ret (de_and (de_cf F_is_whole hr (by decide) takesD (da_cons (dv 0) da_nil) (by rfl)) (de_one (de_chain od_le od_le de_int (dv 0) (de_gi (by rfl) T.g_MOST_COST))))))
abbrev s_is_name : Stmt := top 6
def b_is_name : Dm.Env → Sto → SRes :=
  (sq (sIf (mOr (mNot (fun ρ => tst ((mIsi [] ["NoRow"] [("NoneType", false), ("bool", false), ("int", false), ("str", true), ("list", false), ("tuple", false), ("dict", false)] [("NoRow", false)] (mVar 0)) ρ))) (mNot (fun ρ => tst (mChain mLe mLe (mC (.int 1)) (mMk mLen (mCons (mVar 0) mNil)) (mC (.int 8)) ρ)))) (sRet (mC (.bool false))) (fun ρ st => .nx ρ st))
  (sq (sFor (itStr (mVar 0)) (gNm 1) (sIf (fun ρ => tst (m2 mNotIn (mVar 1) (mC (.str "abcdefghijklmnopqrstuvwxyz")) ρ)) (sRet (mC (.bool false))) (fun ρ st => .nx ρ st)))
  (sRet (mC (.bool true)))))
def m_is_name : MFn := mFn 1 2 b_is_name
theorem sc_is_name : FnScope ["thing", "sign"] ["thing"] (defScope s_is_name) := ⟨rfl, rfl, rfl, by decide +kernel, rfl, by decide +kernel, by decide +kernel⟩
theorem ok_is_name  (T : Txt K mg) (D : ∃ fd, FunD K "is_name" "is_name" (defArgs s_is_name) (defBody s_is_name) (defScope s_is_name) [] [] (He.ga K "is_name") fd) (g : mg "is_name" = some (.ref (He.ga K "is_name"))) : CallF P w K mg base (cmK K) false 1 "is_name" m_is_name := by
  refine callF_of (k := 0) (N := ["thing", "sign"]) (ps := ["thing"]) (fb := b_is_name) D g sc_is_name (fun _ _ _ _ _ _ us hl => match us, hl with | [_], _ => rfl) (fun cdv A outer s H E hr => ?_)
  have hN := sc_is_name.nd
  exact (dss_cons (ds_if (dw_pt (dw_or (dt_not (dt_val (de_isi T.clss T.k_str (.ty "str") (by rfl) T.b_isinstance (dv 0) (pe_bltn (by rfl) T.b_str (u := .type "str") (by decide +kernel) rfl)))) (dw_or1 (dt_not (dt_chain od_le od_le de_int (de_callB cd_len (by rfl) T.b_len (by decide +kernel) (da_cons (dv 0) da_nil)) (de_gi (by rfl) T.g_LONGEST)))))) (dss_one (ds_ret de_bl)) dss_nil)
  (dss_cons (ds_for passesD rfl (di_str (dv 0)) (dg_name (i := 1) hN rfl (by first | exact .inl rfl | exact .inr rfl)) (dss_one (ds_if (dt_cmp (od_notin hr.u1) (dv 1) (de_gs (by rfl) T.g_LETTERS) (by rfl)) (dss_one (ds_ret de_bl)) dss_nil)))
  (dss_one (ds_ret de_bl))))
abbrev s_is_position : Stmt := top 9
def b_is_position : Dm.Env → Sto → SRes :=
  (sRet (mAndV (mIsi [] ["NoRow"] [("NoneType", false), ("bool", false), ("int", false), ("str", true), ("list", false), ("tuple", false), ("dict", false)] [("NoRow", false)] (mVar 0)) (mOrV (m2 mEq (mVar 0) (mC (.str "open"))) (m2 mEq (mVar 0) (mC (.str "shut"))))))
def m_is_position : MFn := mFn 1 1 b_is_position
theorem sc_is_position : FnScope ["thing"] ["thing"] (defScope s_is_position) := ⟨rfl, rfl, rfl, by decide +kernel, rfl, by decide +kernel, by decide +kernel⟩
theorem ok_is_position  (T : Txt K mg) (D : ∃ fd, FunD K "is_position" "is_position" (defArgs s_is_position) (defBody s_is_position) (defScope s_is_position) [] [] (He.ga K "is_position") fd) (g : mg "is_position" = some (.ref (He.ga K "is_position"))) : CallF P w K mg base (cmK K) false 1 "is_position" m_is_position := by
  refine callF_of (k := 0) (N := ["thing"]) (ps := ["thing"]) (fb := b_is_position) D g sc_is_position (fun _ _ _ _ _ _ us hl => match us, hl with | [_], _ => rfl) (fun cdv A outer s H E hr => ?_)
  have hN := sc_is_position.nd
  exact (dss_one (ds_ret (de_and (de_isi T.clss T.k_str (.ty "str") (by rfl) T.b_isinstance (dv 0) (pe_bltn (by rfl) T.b_str (u := .type "str") (by decide +kernel) rfl)) (de_one (de_or (de_cmp (od_eq hr.u64) (dv 0) de_str (by rfl)) (de_one (de_cmp (od_eq hr.u64) (dv 0) de_str (by rfl))))))))
abbrev s_is_time : Stmt := top 8
def b_is_time : Dm.Env → Sto → SRes :=
  (sRet (mAndV (mCall m_is_whole (mCons (mVar 0) mNil)) (mChain mLe mLe (mC (.int 0)) (mVar 0) (mC (.int 1000000000)))))
def m_is_time : MFn := mFn 1 1 b_is_time
theorem sc_is_time : FnScope ["thing"] ["thing"] (defScope s_is_time) := ⟨rfl, rfl, rfl, by decide +kernel, rfl, by decide +kernel, by decide +kernel⟩
theorem ok_is_time (F_is_whole : CallF P w K mg base (cmK K) false 1 "is_whole" m_is_whole) (T : Txt K mg) (D : ∃ fd, FunD K "is_time" "is_time" (defArgs s_is_time) (defBody s_is_time) (defScope s_is_time) [] [] (He.ga K "is_time") fd) (g : mg "is_time" = some (.ref (He.ga K "is_time"))) : CallF P w K mg base (cmK K) false 2 "is_time" m_is_time := by
  refine callF_of (k := 1) (N := ["thing"]) (ps := ["thing"]) (fb := b_is_time) D g sc_is_time (fun _ _ _ _ _ _ us hl => match us, hl with | [_], _ => rfl) (fun cdv A outer s H E hr => ?_)
  have hN := sc_is_time.nd
  exact (dss_one (ds_ret (de_and (de_cf F_is_whole hr (by decide) takesD (da_cons (dv 0) da_nil) (by rfl)) (de_one (de_chain od_le od_le de_int (dv 0) (de_gi (by rfl) T.g_MOST_TIME))))))
abbrev s_law_asked : Stmt := top 21
def b_law_asked : Dm.Env → Sto → SRes :=
  (sq (sIf (fun ρ => tst (m2 mEq (mVar 0) (mC (.int 0)) ρ)) (sRet (mCall m_is_whole (mCons (mVar 1) mNil))) (fun ρ st => .nx ρ st))
  (sq (sIf (fun ρ => tst (m2 mEq (mVar 0) (mC (.int 1)) ρ)) (sRet (mCall m_is_name (mCons (mVar 1) mNil))) (fun ρ st => .nx ρ st))
  (sq (sIf (fun ρ => tst (m2 mEq (mVar 0) (mC (.int 2)) ρ)) (sRet (mCall m_is_cost (mCons (mVar 1) mNil))) (fun ρ st => .nx ρ st))
  (sq (sIf (fun ρ => tst (m2 mEq (mVar 0) (mC (.int 3)) ρ)) (sRet (mCall m_is_time (mCons (mVar 1) mNil))) (fun ρ st => .nx ρ st))
  (sRet (mCall m_is_position (mCons (mVar 1) mNil)))))))
def m_law_asked : MFn := mFn 2 2 b_law_asked
theorem sc_law_asked : FnScope ["_law_way", "_law_thing_here"] ["_law_way", "_law_thing_here"] (defScope s_law_asked) := ⟨rfl, rfl, rfl, by decide +kernel, rfl, by decide +kernel, by decide +kernel⟩
theorem ok_law_asked (F_is_cost : CallF P w K mg base (cmK K) false 2 "is_cost" m_is_cost) (F_is_name : CallF P w K mg base (cmK K) false 1 "is_name" m_is_name) (F_is_position : CallF P w K mg base (cmK K) false 1 "is_position" m_is_position) (F_is_time : CallF P w K mg base (cmK K) false 2 "is_time" m_is_time) (F_is_whole : CallF P w K mg base (cmK K) false 1 "is_whole" m_is_whole) (T : Txt K mg) (D : ∃ fd, FunD K "_law_asked" "_law_asked" (defArgs s_law_asked) (defBody s_law_asked) (defScope s_law_asked) [] [] (He.ga K "_law_asked") fd) (g : mg "_law_asked" = some (.ref (He.ga K "_law_asked"))) : CallF P w K mg base (cmK K) false 3 "_law_asked" m_law_asked := by
  refine callF_of (k := 2) (N := ["_law_way", "_law_thing_here"]) (ps := ["_law_way", "_law_thing_here"]) (fb := b_law_asked) D g sc_law_asked (fun _ _ _ _ _ _ us hl => match us, hl with | [_, _], _ => rfl) (fun cdv A outer s H E hr => ?_)
  have hN := sc_law_asked.nd
  exact (dss_cons (ds_if (dt_cmp (od_eq hr.u64) (dv 0) de_int (by rfl)) (dss_one (ds_ret (de_cf F_is_whole hr (by decide) takesD (da_cons (dv 1) da_nil) (by rfl)))) dss_nil)
  (dss_cons (ds_if (dt_cmp (od_eq hr.u64) (dv 0) de_int (by rfl)) (dss_one (ds_ret (de_cf F_is_name hr (by decide) takesD (da_cons (dv 1) da_nil) (by rfl)))) dss_nil)
  (dss_cons (ds_if (dt_cmp (od_eq hr.u64) (dv 0) de_int (by rfl)) (dss_one (ds_ret (de_cf F_is_cost hr (by decide) takesD (da_cons (dv 1) da_nil) (by rfl)))) dss_nil)
  (dss_cons (ds_if (dt_cmp (od_eq hr.u64) (dv 0) de_int (by rfl)) (dss_one (ds_ret (de_cf F_is_time hr (by decide) takesD (da_cons (dv 1) da_nil) (by rfl)))) dss_nil)
  (dss_one (ds_ret (de_cf F_is_position hr (by decide) takesD (da_cons (dv 1) da_nil) (by rfl))))))))
abbrev s_law_right : Stmt := top 22
def b_law_right : Dm.Env → Sto → SRes :=
  (sq (sFor (itRange1 (mCons (mC (.int 5)) mNil)) (gNm 4) (sq (sSet 5 (m2 mMod (m2 mAdd (mVar 2) (m2 mMul (mVar 3) (mVar 4))) (mC (.int 5))))
  (sq (sSet 6 (mCall m_law_asked (mCons (mVar 5) (mCons (mVar 0) mNil))))
  (sIf (mOr (mNot (fun ρ => tst ((mIsi [] ["NoRow"] [("NoneType", false), ("bool", true), ("int", false), ("str", false), ("list", false), ("tuple", false), ("dict", false)] [("NoRow", false)] (mVar 6)) ρ))) (fun ρ => tst (m2 mNe (mVar 6) (m2 mIx (mVar 1) (mVar 5)) ρ))) (sRet (mC (.bool false))) (fun ρ st => .nx ρ st)))))
  (sRet (mC (.bool true))))
def m_law_right : MFn := mFn 4 7 b_law_right
theorem sc_law_right : FnScope ["_law_thing_here", "_law_due_here", "_law_first", "_law_step", "_law_k", "_law_way", "_law_found"] ["_law_thing_here", "_law_due_here", "_law_first", "_law_step"] (defScope s_law_right) := ⟨rfl, rfl, rfl, by decide +kernel, rfl, by decide +kernel, by decide +kernel⟩
theorem ok_law_right (F_law_asked : CallF P w K mg base (cmK K) false 3 "_law_asked" m_law_asked) (T : Txt K mg) (D : ∃ fd, FunD K "_law_right" "_law_right" (defArgs s_law_right) (defBody s_law_right) (defScope s_law_right) [] [] (He.ga K "_law_right") fd) (g : mg "_law_right" = some (.ref (He.ga K "_law_right"))) : CallF P w K mg base (cmK K) false 4 "_law_right" m_law_right := by
  refine callF_of (k := 3) (N := ["_law_thing_here", "_law_due_here", "_law_first", "_law_step", "_law_k", "_law_way", "_law_found"]) (ps := ["_law_thing_here", "_law_due_here", "_law_first", "_law_step"]) (fb := b_law_right) D g sc_law_right (fun _ _ _ _ _ _ us hl => match us, hl with | [_, _, _, _], _ => rfl) (fun cdv A outer s H E hr => ?_)
  have hN := sc_law_right.nd
  exact (dss_cons (ds_for passesD rfl (di_range1 (by rfl) T.b_range (da_cons de_int da_nil)) (dg_name (i := 4) hN rfl (by first | exact .inl rfl | exact .inr rfl)) (dss_cons (ds_set (i := 5) hN rfl (by first | exact .inl rfl | exact .inr rfl) (de_op od_mod (de_op od_add (dv 2) (de_op od_mul (dv 3) (dv 4))) de_int))
  (dss_cons (ds_set (i := 6) hN rfl (by first | exact .inl rfl | exact .inr rfl) (de_cf F_law_asked hr (by decide) takesD (da_cons (dv 5) (da_cons (dv 0) da_nil)) (by rfl)))
  (dss_one (ds_if (dw_pt (dw_or (dt_not (dt_val (de_isi T.clss T.k_bool (.ty "bool") (by rfl) T.b_isinstance (dv 6) (pe_bltn (by rfl) T.b_bool (u := .type "bool") (by decide +kernel) rfl)))) (dw_or1 (dt_cmp (od_ne hr.u64) (dv 6) (de_ix hr.u1 (dv 1) (dv 5)) (by rfl))))) (dss_one (ds_ret de_bl)) dss_nil)))))
  (dss_one (ds_ret de_bl)))
abbrev s_law_take : Stmt := top 15
def b_law_take : Dm.Env → Sto → SRes :=
  (sq (sIf (fun ρ => tst (m2 mEq (m2 mIx (mVar 0) (mC (.int 0))) (mC (.int 0)) ρ)) (sq (sSet 4 (mC (.int 0)))
  (sq (sIf (fun ρ => tst (m2 mLt (m2 mIx (mVar 0) (mC (.int 2))) (mMk mLen (mCons (m2 mIx (mVar 0) (mC (.int 3))) mNil)) ρ)) (sSet 4 (m2 mIx (m2 mIx (mVar 0) (mC (.int 3))) (m2 mIx (mVar 0) (mC (.int 2))))) (fun ρ st => .nx ρ st))
  (sq (sAugS mIAdd (mVar 0) (mC (.int 2)) (mC (.int 1)))
  (sq (sIf (fun ρ => tst (m2 mGe (mVar 4) (mC (.int 1000000000000000000)) ρ)) (sSub (mVar 4) (mVar 0) (mC (.int 0))) (fun ρ st => .nx ρ st))
  (sSub (m2 mMod (m2 mAdd (m2 mAdd (m2 mMul (m2 mIx (mVar 0) (mC (.int 1))) (mC (.int 48271))) (m2 mMod (mVar 4) (mC (.int 2147483647)))) (m2 mMul (mC (.int 7919)) (m2 mIx (mVar 0) (mC (.int 2))))) (mC (.int 2147483647))) (mVar 0) (mC (.int 1))))))) (fun ρ st => .nx ρ st))
  (sq (sIf (fun ρ => tst (m2 mGt (m2 mIx (mVar 0) (mC (.int 0))) (mC (.int 0)) ρ)) (sq (sSet 5 (m2 mMod (m2 mIx (mVar 0) (mC (.int 0))) (mVar 1)))
  (sq (sSub (m2 mDiv (m2 mIx (mVar 0) (mC (.int 0))) (mVar 1)) (mVar 0) (mC (.int 0)))
  (sRet (mVar 5)))) (fun ρ st => .nx ρ st))
  (sq (sSet 2 (m2 mMod (m2 mMul (m2 mAdd (m2 mIx (mVar 0) (mC (.int 1))) (mC (.int 1))) (mC (.int 39373))) (mC (.int 1000000007))))
  (sq (sSet 3 (m2 mMod (m2 mMul (m2 mMod (m2 mMul (mVar 2) (mVar 2)) (mC (.int 998244353))) (mC (.int 30011))) (mC (.int 998244353))))
  (sq (sIf (fun ρ => tst (m2 mGt (mVar 1) (mC (.int 1000000)) ρ)) (sRet (m2 mMod (m2 mAdd (m2 mMul (mVar 3) (mC (.int 1000000007))) (mVar 2)) (mVar 1))) (fun ρ st => .nx ρ st))
  (sRet (m2 mMod (m2 mDiv (mVar 3) (mC (.int 7))) (mVar 1))))))))
def m_law_take : MFn := mFn 2 6 b_law_take
theorem sc_law_take : FnScope ["_law_bag_here", "_law_many", "_law_first", "_law_second", "_law_cell", "_law_value"] ["_law_bag_here", "_law_many"] (defScope s_law_take) := ⟨rfl, rfl, rfl, by decide +kernel, rfl, by decide +kernel, by decide +kernel⟩
theorem ok_law_take  (T : Txt K mg) (D : ∃ fd, FunD K "_law_take" "_law_take" (defArgs s_law_take) (defBody s_law_take) (defScope s_law_take) [] [] (He.ga K "_law_take") fd) (g : mg "_law_take" = some (.ref (He.ga K "_law_take"))) : CallF P w K mg base (cmK K) false 1 "_law_take" m_law_take := by
  refine callF_of (k := 0) (N := ["_law_bag_here", "_law_many", "_law_first", "_law_second", "_law_cell", "_law_value"]) (ps := ["_law_bag_here", "_law_many"]) (fb := b_law_take) D g sc_law_take (fun _ _ _ _ _ _ us hl => match us, hl with | [_, _], _ => rfl) (fun cdv A outer s H E hr => ?_)
  have hN := sc_law_take.nd
  exact (dss_cons (ds_if (dt_cmp (od_eq hr.u64) (de_ix hr.u1 (dv 0) de_int) de_int (by rfl)) (dss_cons (ds_set (i := 4) hN rfl (by first | exact .inl rfl | exact .inr rfl) de_int)
  (dss_cons (ds_if (dt_cmp od_lt (de_ix hr.u1 (dv 0) de_int) (de_callB cd_len (by rfl) T.b_len (by decide +kernel) (da_cons (de_ix hr.u1 (dv 0) de_int) da_nil)) (by rfl)) (dss_one (ds_set (i := 4) hN rfl (by first | exact .inl rfl | exact .inr rfl) (de_ix hr.u1 (de_ix hr.u1 (dv 0) de_int) (de_ix hr.u1 (dv 0) de_int)))) dss_nil)
  (dss_cons (ds_augS hr.u1 od_iadd (dv 0) de_int de_int)
  (dss_cons (ds_if (dt_cmp od_ge (dv 4) de_int (by rfl)) (dss_one (ds_sub hr.u1 (dv 4) (dv 0) de_int)) dss_nil)
  (dss_one (ds_sub hr.u1 (de_op od_mod (de_op od_add (de_op od_add (de_op od_mul (de_ix hr.u1 (dv 0) de_int) de_int) (de_op od_mod (dv 4) de_int)) (de_op od_mul de_int (de_ix hr.u1 (dv 0) de_int))) de_int) (dv 0) de_int)))))) dss_nil)
  (dss_cons (ds_if (dt_cmp od_gt (de_ix hr.u1 (dv 0) de_int) de_int (by rfl)) (dss_cons (ds_set (i := 5) hN rfl (by first | exact .inl rfl | exact .inr rfl) (de_op od_mod (de_ix hr.u1 (dv 0) de_int) (dv 1)))
  (dss_cons (ds_sub hr.u1 (de_op od_div (de_ix hr.u1 (dv 0) de_int) (dv 1)) (dv 0) de_int)
  (dss_one (ds_ret (dv 5))))) dss_nil)
  (dss_cons (ds_set (i := 2) hN rfl (by first | exact .inl rfl | exact .inr rfl) (de_op od_mod (de_op od_mul (de_op od_add (de_ix hr.u1 (dv 0) de_int) de_int) de_int) de_int))
  (dss_cons (ds_set (i := 3) hN rfl (by first | exact .inl rfl | exact .inr rfl) (de_op od_mod (de_op od_mul (de_op od_mod (de_op od_mul (dv 2) (dv 2)) de_int) de_int) de_int))
  (dss_cons (ds_if (dt_cmp od_gt (dv 1) de_int (by rfl)) (dss_one (ds_ret (de_op od_mod (de_op od_add (de_op od_mul (dv 3) de_int) (dv 2)) (dv 1)))) dss_nil)
  (dss_one (ds_ret (de_op od_mod (de_op od_div (dv 3) de_int) (dv 1)))))))))
abbrev s_law_number : Stmt := top 17
def b_law_number : Dm.Env → Sto → SRes :=
  (sq (sSet 1 (mCall m_law_take (mCons (mVar 0) (mCons (mC (.int 5)) mNil))))
  (sq (sIf (fun ρ => tst (m2 mEq (mVar 1) (mC (.int 0)) ρ)) (sRet (m2 mSub (m2 mAdd (m2 mIx (mMk mkL (mCons (mC (.int 0)) (mCons (mC (.int 99)) (mCons (m2 mPow (mC (.int 10)) (mC (.int 9))) mNil)))) (mCall m_law_take (mCons (mVar 0) (mCons (mC (.int 3)) mNil)))) (mCall m_law_take (mCons (mVar 0) (mCons (mC (.int 3)) mNil)))) (mC (.int 1)))) (fun ρ st => .nx ρ st))
  (sq (sIf (fun ρ => tst (m2 mEq (mVar 1) (mC (.int 1)) ρ)) (sRet (mCall m_law_take (mCons (mVar 0) (mCons (mC (.int 120)) mNil)))) (fun ρ st => .nx ρ st))
  (sq (sIf (fun ρ => tst (m2 mEq (mVar 1) (mC (.int 2)) ρ)) (sRet (m2 mSub (mC (.int 0)) (mCall m_law_take (mCons (mVar 0) (mCons (m2 mPow (mC (.int 10)) (mC (.int 40))) mNil))))) (fun ρ st => .nx ρ st))
  (sq (sIf (fun ρ => tst (m2 mEq (mVar 1) (mC (.int 3)) ρ)) (sRet (mCall m_law_take (mCons (mVar 0) (mCons (m2 mPow (mC (.int 10)) (mC (.int 40))) mNil)))) (fun ρ st => .nx ρ st))
  (sRet (mCall m_law_take (mCons (mVar 0) (mCons (m2 mAdd (m2 mPow (mC (.int 10)) (mC (.int 9))) (mC (.int 2))) mNil)))))))))
def m_law_number : MFn := mFn 1 2 b_law_number
theorem sc_law_number : FnScope ["_law_bag_here", "_law_way"] ["_law_bag_here"] (defScope s_law_number) := ⟨rfl, rfl, rfl, by decide +kernel, rfl, by decide +kernel, by decide +kernel⟩
theorem ok_law_number (F_law_take : CallF P w K mg base (cmK K) false 1 "_law_take" m_law_take) (T : Txt K mg) (D : ∃ fd, FunD K "_law_number" "_law_number" (defArgs s_law_number) (defBody s_law_number) (defScope s_law_number) [] [] (He.ga K "_law_number") fd) (g : mg "_law_number" = some (.ref (He.ga K "_law_number"))) : CallF P w K mg base (cmK K) false 2 "_law_number" m_law_number := by
  refine callF_of (k := 1) (N := ["_law_bag_here", "_law_way"]) (ps := ["_law_bag_here"]) (fb := b_law_number) D g sc_law_number (fun _ _ _ _ _ _ us hl => match us, hl with | [_], _ => rfl) (fun cdv A outer s H E hr => ?_)
  have hN := sc_law_number.nd
  exact (dss_cons (ds_set (i := 1) hN rfl (by first | exact .inl rfl | exact .inr rfl) (de_cf F_law_take hr (by decide) takesD (da_cons (dv 0) (da_cons de_int da_nil)) (by rfl)))
  (dss_cons (ds_if (dt_cmp (od_eq hr.u64) (dv 1) de_int (by rfl)) (dss_one (ds_ret (de_op od_sub (de_op od_add (de_ix hr.u1 (de_lst (da_cons de_int (da_cons de_int (da_cons (de_op od_pow de_int de_int) da_nil)))) (de_cf F_law_take hr (by decide) takesD (da_cons (dv 0) (da_cons de_int da_nil)) (by rfl))) (de_cf F_law_take hr (by decide) takesD (da_cons (dv 0) (da_cons de_int da_nil)) (by rfl))) de_int))) dss_nil)
  (dss_cons (ds_if (dt_cmp (od_eq hr.u64) (dv 1) de_int (by rfl)) (dss_one (ds_ret (de_cf F_law_take hr (by decide) takesD (da_cons (dv 0) (da_cons de_int da_nil)) (by rfl)))) dss_nil)
  (dss_cons (ds_if (dt_cmp (od_eq hr.u64) (dv 1) de_int (by rfl)) (dss_one (ds_ret (de_op od_sub de_int (de_cf F_law_take hr (by decide) takesD (da_cons (dv 0) (da_cons (de_op od_pow de_int de_int) da_nil)) (by rfl))))) dss_nil)
  (dss_cons (ds_if (dt_cmp (od_eq hr.u64) (dv 1) de_int (by rfl)) (dss_one (ds_ret (de_cf F_law_take hr (by decide) takesD (da_cons (dv 0) (da_cons (de_op od_pow de_int de_int) da_nil)) (by rfl)))) dss_nil)
  (dss_one (ds_ret (de_cf F_law_take hr (by decide) takesD (da_cons (dv 0) (da_cons (de_op od_add (de_op od_pow de_int de_int) de_int) da_nil)) (by rfl)))))))))
abbrev s_law_sign : Stmt := top 16
def b_law_sign : Dm.Env → Sto → SRes :=
  (sq (sSet 1 (mC (.str " !\"#$&'()*+,-./0123456789:;<=>?@ABCDEFGHIJKLMNOPQRSTUVWXYZ[\\]^_`")))
  (sq (sSet 1 (m2 mAdd (mVar 1) (mC (.str "abcdefghijklmnopqrstuvwxyz{|}~\n"))))
  (sRet (m2 mIx (mVar 1) (mCall m_law_take (mCons (mVar 0) (mCons (mMk mLen (mCons (mVar 1) mNil)) mNil)))))))
def m_law_sign : MFn := mFn 1 2 b_law_sign
theorem sc_law_sign : FnScope ["_law_bag_here", "_law_some"] ["_law_bag_here"] (defScope s_law_sign) := ⟨rfl, rfl, rfl, by decide +kernel, rfl, by decide +kernel, by decide +kernel⟩
theorem ok_law_sign (F_law_take : CallF P w K mg base (cmK K) false 1 "_law_take" m_law_take) (T : Txt K mg) (D : ∃ fd, FunD K "_law_sign" "_law_sign" (defArgs s_law_sign) (defBody s_law_sign) (defScope s_law_sign) [] [] (He.ga K "_law_sign") fd) (g : mg "_law_sign" = some (.ref (He.ga K "_law_sign"))) : CallF P w K mg base (cmK K) false 2 "_law_sign" m_law_sign := by
  refine callF_of (k := 1) (N := ["_law_bag_here", "_law_some"]) (ps := ["_law_bag_here"]) (fb := b_law_sign) D g sc_law_sign (fun _ _ _ _ _ _ us hl => match us, hl with | [_], _ => rfl) (fun cdv A outer s H E hr => ?_)
  have hN := sc_law_sign.nd
  exact (dss_cons (ds_set (i := 1) hN rfl (by first | exact .inl rfl | exact .inr rfl) de_str)
  (dss_cons (ds_set (i := 1) hN rfl (by first | exact .inl rfl | exact .inr rfl) (de_op od_add (dv 1) de_str))
  (dss_one (ds_ret (de_ix hr.u1 (dv 1) (de_cf F_law_take hr (by decide) takesD (da_cons (dv 0) (da_cons (de_callB cd_len (by rfl) T.b_len (by decide +kernel) (da_cons (dv 1) da_nil)) da_nil)) (by rfl)))))))
abbrev s_law_text : Stmt := top 18
def b_law_text : Dm.Env → Sto → SRes :=
  (sq (sSet 1 (mCall m_law_take (mCons (mVar 0) (mCons (mC (.int 6)) mNil))))
  (sq (sIf (fun ρ => tst (m2 mEq (mVar 1) (mC (.int 0)) ρ)) (sRet (m2 mIx (mMk mkL (mCons (mC (.str "open")) (mCons (mC (.str "shut")) (mCons (mC (.str "")) (mCons (mC (.str "Open")) (mCons (mC (.str "shut ")) (mCons (mC (.str "opens")) (mCons (mC (.str "ope")) (mCons (mC (.str "aopen")) (mCons (mC (.str "shutshut")) mNil)))))))))) (mCall m_law_take (mCons (mVar 0) (mCons (mC (.int 9)) mNil))))) (fun ρ st => .nx ρ st))
  (sq (sSet 2 (mC (.str "abcdefghijklmnopqrstuvwxyz")))
  (sq (sIf (fun ρ => tst (m2 mEq (mVar 1) (mC (.int 1)) ρ)) (sSet 4 (m2 mIx (mMk mkL (mCons (mC (.str "open")) (mCons (mC (.str "shut")) mNil))) (mCall m_law_take (mCons (mVar 0) (mCons (mC (.int 2)) mNil))))) (sSet 4 (mMeth "str" mJoin (mC (.str "")) (mCons (mLc mFrz [5] (itRange1 (mCons (mCall m_law_take (mCons (mVar 0) (mCons (mC (.int 11)) mNil))) mNil)) (gNm 5) (fun _ => ret true) (m2 mIx (mVar 2) (mCall m_law_take (mCons (mVar 0) (mCons (mC (.int 26)) mNil))))) mNil))))
  (sq (sSet 3 (mCall m_law_take (mCons (mVar 0) (mCons (m2 mAdd (mMk mLen (mCons (mVar 4) mNil)) (mC (.int 1))) mNil))))
  (sq (sIf (mOr (fun ρ => tst (m2 mEq (mVar 1) (mC (.int 2)) ρ)) (fun ρ => tst (m2 mEq (mVar 1) (mC (.int 1)) ρ))) (sRet (m2 mAdd (m2 mAdd (mSlice mkL (mVar 4) (fun _ => ret none) (mPart (mVar 3))) (mCall m_law_sign (mCons (mVar 0) mNil))) (mSlice mkL (mVar 4) (mPart (m2 mAdd (mVar 3) (mC (.int 1)))) (fun _ => ret none)))) (fun ρ st => .nx ρ st))
  (sq (sIf (fun ρ => tst (m2 mEq (mVar 1) (mC (.int 3)) ρ)) (sRet (m2 mAdd (m2 mAdd (mSlice mkL (mVar 4) (fun _ => ret none) (mPart (mVar 3))) (mCall m_law_sign (mCons (mVar 0) mNil))) (mSlice mkL (mVar 4) (mPart (mVar 3)) (fun _ => ret none)))) (fun ρ st => .nx ρ st))
  (sRet (mVar 4)))))))))
def m_law_text : MFn := mFn 1 6 b_law_text
theorem sc_law_text : FnScope ["_law_bag_here", "_law_way", "_law_letters", "_law_at", "_law_base", "_law_k"] ["_law_bag_here"] (defScope s_law_text) := ⟨rfl, rfl, rfl, by decide +kernel, rfl, by decide +kernel, by decide +kernel⟩
theorem ok_law_text (F_law_sign : CallF P w K mg base (cmK K) false 2 "_law_sign" m_law_sign) (F_law_take : CallF P w K mg base (cmK K) false 1 "_law_take" m_law_take) (T : Txt K mg) (D : ∃ fd, FunD K "_law_text" "_law_text" (defArgs s_law_text) (defBody s_law_text) (defScope s_law_text) [] [] (He.ga K "_law_text") fd) (g : mg "_law_text" = some (.ref (He.ga K "_law_text"))) : CallF P w K mg base (cmK K) false 3 "_law_text" m_law_text := by
  refine callF_of (k := 2) (N := ["_law_bag_here", "_law_way", "_law_letters", "_law_at", "_law_base", "_law_k"]) (ps := ["_law_bag_here"]) (fb := b_law_text) D g sc_law_text (fun _ _ _ _ _ _ us hl => match us, hl with | [_], _ => rfl) (fun cdv A outer s H E hr => ?_)
  have hN := sc_law_text.nd
  exact (dss_cons (ds_set (i := 1) hN rfl (by first | exact .inl rfl | exact .inr rfl) (de_cf F_law_take hr (by decide) takesD (da_cons (dv 0) (da_cons de_int da_nil)) (by rfl)))
  (dss_cons (ds_if (dt_cmp (od_eq hr.u64) (dv 1) de_int (by rfl)) (dss_one (ds_ret (de_ix hr.u1 (de_lst (da_cons de_str (da_cons de_str (da_cons de_str (da_cons de_str (da_cons de_str (da_cons de_str (da_cons de_str (da_cons de_str (da_cons de_str da_nil)))))))))) (de_cf F_law_take hr (by decide) takesD (da_cons (dv 0) (da_cons de_int da_nil)) (by rfl))))) dss_nil)
  (dss_cons (ds_set (i := 2) hN rfl (by first | exact .inl rfl | exact .inr rfl) de_str)
  (dss_cons (ds_if (dt_cmp (od_eq hr.u64) (dv 1) de_int (by rfl)) (dss_one (ds_set (i := 4) hN rfl (by first | exact .inl rfl | exact .inr rfl) (de_ix hr.u1 (de_lst (da_cons de_str (da_cons de_str da_nil))) (de_cf F_law_take hr (by decide) takesD (da_cons (dv 0) (da_cons de_int da_nil)) (by rfl))))) (dss_one (ds_set (i := 4) hN rfl (by first | exact .inl rfl | exact .inr rfl) (de_bm PySem.F.plainAttrs_str PySem.F.slot_str_join PySem.F.type_str_join md_join de_str (da_cons (de_lc kFrz rfl hN (di_range1 (by rfl) T.b_range (da_cons (de_cf F_law_take hr (by decide) takesD (da_cons (dv 0) (da_cons de_int da_nil)) (by rfl)) da_nil)) (own := [("_law_k", 5)]) (blkOk_by (by rfl)) (fun s H C cl fp => (dg_name (i := 5) hN rfl (by first | exact .inl rfl | exact .inr rfl))) (fun s H C cl fp => dts_nil) (fun s H C cl fp => (de_ix hr.u1 (dv 2) (de_cf F_law_take hr (by decide) takes0 (da_cons (dv 0) (da_cons de_int da_nil)) (by rfl))))) da_nil)))))
  (dss_cons (ds_set (i := 3) hN rfl (by first | exact .inl rfl | exact .inr rfl) (de_cf F_law_take hr (by decide) takesD (da_cons (dv 0) (da_cons (de_op od_add (de_callB cd_len (by rfl) T.b_len (by decide +kernel) (da_cons (dv 4) da_nil)) de_int) da_nil)) (by rfl)))
  (dss_cons (ds_if (dw_pt (dw_or (dt_cmp (od_eq hr.u64) (dv 1) de_int (by rfl)) (dw_or1 (dt_cmp (od_eq hr.u64) (dv 1) de_int (by rfl))))) (dss_one (ds_ret (de_op od_add (de_op od_add (de_slice lstOk (dv 4) do_none (do_some (dv 3))) (de_cf F_law_sign hr (by decide) takesD (da_cons (dv 0) da_nil) (by rfl))) (de_slice lstOk (dv 4) (do_some (de_op od_add (dv 3) de_int)) do_none)))) dss_nil)
  (dss_cons (ds_if (dt_cmp (od_eq hr.u64) (dv 1) de_int (by rfl)) (dss_one (ds_ret (de_op od_add (de_op od_add (de_slice lstOk (dv 4) do_none (do_some (dv 3))) (de_cf F_law_sign hr (by decide) takesD (da_cons (dv 0) da_nil) (by rfl))) (de_slice lstOk (dv 4) (do_some (dv 3)) do_none)))) dss_nil)
  (dss_one (ds_ret (dv 4))))))))))
abbrev s_law_thing : Stmt := top 19
def b_law_thing : Dm.Env → Sto → SRes :=
  (sq (sSet 1 (mCall m_law_take (mCons (mVar 0) (mCons (mC (.int 8)) mNil))))
  (sq (sIf (fun ρ => tst (m2 mLt (mVar 1) (mC (.int 3)) ρ)) (sRet (mMk mkT (mCons (mC (.str "whole")) (mCons (mCall m_law_number (mCons (mVar 0) mNil)) mNil)))) (fun ρ st => .nx ρ st))
  (sq (sIf (fun ρ => tst (m2 mLt (mVar 1) (mC (.int 6)) ρ)) (sRet (mMk mkT (mCons (mC (.str "text")) (mCons (mCall m_law_text (mCons (mVar 0) mNil)) mNil)))) (fun ρ st => .nx ρ st))
  (sq (sIf (fun ρ => tst (m2 mEq (mVar 1) (mC (.int 6)) ρ)) (sRet (mMk mkT (mCons (mC (.str "other")) (mCons (m2 mIx (mMk mkL (mCons (mC .none) (mCons (mC (.bool true)) (mCons (mC (.bool false)) mNil)))) (mCall m_law_take (mCons (mVar 0) (mCons (mC (.int 3)) mNil)))) mNil)))) (fun ρ st => .nx ρ st))
  (sq (sSet 2 (mCall m_law_take (mCons (mVar 0) (mCons (mC (.int 8)) mNil))))
  (sq (sSet 3 (mC (.int 0)))
  (sq (sIf (fun ρ => tst (m2 mEq (mCall m_law_take (mCons (mVar 0) (mCons (mC (.int 2)) mNil))) (mC (.int 0)) ρ)) (sSet 3 (mCall m_law_number (mCons (mVar 0) mNil))) (sSet 3 (mCall m_law_text (mCons (mVar 0) mNil))))
  (sRet (mMk mkT (mCons (mC (.str "other")) (mCons (m2 mIx (mMk mkL (mCons (mMk mkL (mCons (mVar 3) mNil)) (mCons (mMk mkT (mCons (mVar 3) mNil)) (mCons (mDict [((mC (.str "a")), (mVar 3))]) (mCons (mMk mkL mNil) (mCons (mMk mkT mNil) (mCons (fun _ => mNew (.dic [])) (mCons (mMk mkL (mCons (mMk mkL (mCons (mVar 3) mNil)) mNil)) (mCons (mExc0 "NoRow") mNil))))))))) (mVar 2)) mNil)))))))))))
def m_law_thing : MFn := mFn 1 4 b_law_thing
theorem sc_law_thing : FnScope ["_law_bag_here", "_law_way", "_law_how", "_law_part"] ["_law_bag_here"] (defScope s_law_thing) := ⟨rfl, rfl, rfl, by decide +kernel, rfl, by decide +kernel, by decide +kernel⟩
theorem ok_law_thing (F_law_number : CallF P w K mg base (cmK K) false 2 "_law_number" m_law_number) (F_law_take : CallF P w K mg base (cmK K) false 1 "_law_take" m_law_take) (F_law_text : CallF P w K mg base (cmK K) false 3 "_law_text" m_law_text) (T : Txt K mg) (D : ∃ fd, FunD K "_law_thing" "_law_thing" (defArgs s_law_thing) (defBody s_law_thing) (defScope s_law_thing) [] [] (He.ga K "_law_thing") fd) (g : mg "_law_thing" = some (.ref (He.ga K "_law_thing"))) : CallF P w K mg base (cmK K) false 4 "_law_thing" m_law_thing := by
  refine callF_of (k := 3) (N := ["_law_bag_here", "_law_way", "_law_how", "_law_part"]) (ps := ["_law_bag_here"]) (fb := b_law_thing) D g sc_law_thing (fun _ _ _ _ _ _ us hl => match us, hl with | [_], _ => rfl) (fun cdv A outer s H E hr => ?_)
  have hN := sc_law_thing.nd
  exact (dss_cons (ds_set (i := 1) hN rfl (by first | exact .inl rfl | exact .inr rfl) (de_cf F_law_take hr (by decide) takesD (da_cons (dv 0) (da_cons de_int da_nil)) (by rfl)))
  (dss_cons (ds_if (dt_cmp od_lt (dv 1) de_int (by rfl)) (dss_one (ds_ret (de_tup (da_cons de_str (da_cons (de_cf F_law_number hr (by decide) takesD (da_cons (dv 0) da_nil) (by rfl)) da_nil))))) dss_nil)
  (dss_cons (ds_if (dt_cmp od_lt (dv 1) de_int (by rfl)) (dss_one (ds_ret (de_tup (da_cons de_str (da_cons (de_cf F_law_text hr (by decide) takesD (da_cons (dv 0) da_nil) (by rfl)) da_nil))))) dss_nil)
  (dss_cons (ds_if (dt_cmp (od_eq hr.u64) (dv 1) de_int (by rfl)) (dss_one (ds_ret (de_tup (da_cons de_str (da_cons (de_ix hr.u1 (de_lst (da_cons de_non (da_cons de_bl (da_cons de_bl da_nil)))) (de_cf F_law_take hr (by decide) takesD (da_cons (dv 0) (da_cons de_int da_nil)) (by rfl))) da_nil))))) dss_nil)
  (dss_cons (ds_set (i := 2) hN rfl (by first | exact .inl rfl | exact .inr rfl) (de_cf F_law_take hr (by decide) takesD (da_cons (dv 0) (da_cons de_int da_nil)) (by rfl)))
  (dss_cons (ds_set (i := 3) hN rfl (by first | exact .inl rfl | exact .inr rfl) de_int)
  (dss_cons (ds_if (dt_cmp (od_eq hr.u64) (de_cf F_law_take hr (by decide) takesD (da_cons (dv 0) (da_cons de_int da_nil)) (by rfl)) de_int (by rfl)) (dss_one (ds_set (i := 3) hN rfl (by first | exact .inl rfl | exact .inr rfl) (de_cf F_law_number hr (by decide) takesD (da_cons (dv 0) da_nil) (by rfl)))) (dss_one (ds_set (i := 3) hN rfl (by first | exact .inl rfl | exact .inr rfl) (de_cf F_law_text hr (by decide) takesD (da_cons (dv 0) da_nil) (by rfl)))))
  (dss_one (ds_ret (de_tup (da_cons de_str (da_cons (de_ix hr.u1 (de_lst (da_cons (de_lst (da_cons (dv 3) da_nil)) (da_cons (de_tup (da_cons (dv 3) da_nil)) (da_cons (de_dict (dps_cons de_str (dv 3) dps_nil)) (da_cons (de_lst da_nil) (da_cons (de_tup da_nil) (da_cons de_dict0 (da_cons (de_lst (da_cons (de_lst (da_cons (dv 3) da_nil)) da_nil)) (da_cons (de_exc0 (exM_ok rfl T.x_NoRow T.c_NoRow) (by rfl)) da_nil))))))))) (dv 2)) da_nil))))))))))))
abbrev s_law : Stmt := top 23
def b_law : Dm.Env → Sto → SRes :=
  (sq (sSet 1 (mCall m_law_bag (mCons (mVar 0) mNil)))
  (sq (sSet 2 (mLc mFrz [6] (itRange1 (mCons (m2 mAdd (mC (.int 8)) (mCall m_law_take (mCons (mVar 1) (mCons (mC (.int 23)) mNil)))) mNil)) (gNm 6) (fun _ => ret true) (mCall m_law_thing (mCons (mVar 1) mNil))))
  (sq (sSet 3 (mLc mFrz [4, 5] (itList (mVar 2)) (gTup 2 (gCons (gNm 4) (gCons (gNm 5) gNil))) (fun _ => ret true) (mMk (mRepr ["NoRow"]) (mCons (mVar 5) mNil))))
  (sq (sFor (itList (mVar 2)) (gTup 2 (gCons (gNm 4) (gCons (gNm 5) gNil))) (sIf (mNot (fun ρ => tst ((mCall m_law_right (mCons (mVar 5) (mCons (mCall m_law_due (mCons (mVar 4) (mCons (mVar 5) mNil))) (mCons (mCall m_law_take (mCons (mVar 1) (mCons (mC (.int 5)) mNil))) (mCons (mC (.int 1)) mNil))))) ρ))) (sRet (mC (.bool false))) (fun ρ st => .nx ρ st)))
  (sq (sFor (itList (mRev mkL (mVar 2))) (gTup 2 (gCons (gNm 4) (gCons (gNm 5) gNil))) (sIf (mNot (fun ρ => tst ((mCall m_law_right (mCons (mVar 5) (mCons (mCall m_law_due (mCons (mVar 4) (mCons (mVar 5) mNil))) (mCons (mCall m_law_take (mCons (mVar 1) (mCons (mC (.int 5)) mNil))) (mCons (mC (.int 3)) mNil))))) ρ))) (sRet (mC (.bool false))) (fun ρ st => .nx ρ st)))
  (sRet (m2 mEq (mLc mFrz [4, 5] (itList (mVar 2)) (gTup 2 (gCons (gNm 4) (gCons (gNm 5) gNil))) (fun _ => ret true) (mMk (mRepr ["NoRow"]) (mCons (mVar 5) mNil))) (mVar 3))))))))
def m_law : MFn := mFn 1 7 b_law
theorem sc_law : FnScope ["_law_script", "_law_bag_here", "_law_things", "_law_kept", "_law_kind", "_law_thing_here", "_law_k"] ["_law_script"] (defScope s_law) := ⟨rfl, rfl, rfl, by decide +kernel, rfl, by decide +kernel, by decide +kernel⟩
theorem ok_law (F_law_bag : CallF P w K mg base (cmK K) false 1 "_law_bag" m_law_bag) (F_law_due : CallF P w K mg base (cmK K) false 1 "_law_due" m_law_due) (F_law_right : CallF P w K mg base (cmK K) false 4 "_law_right" m_law_right) (F_law_take : CallF P w K mg base (cmK K) false 1 "_law_take" m_law_take) (F_law_thing : CallF P w K mg base (cmK K) false 4 "_law_thing" m_law_thing) (T : Txt K mg) {fd : FuncData} (F : FunD K "law" "law" (defArgs s_law) (defBody s_law) (defScope s_law) [] [] (He.ga K "law") fd) : FnD P w K mg base (cmK K) false 5 (He.ga K "law") fd ["_law_script"] m_law := by
  refine fnd_of (k := 4) (N := ["_law_script", "_law_bag_here", "_law_things", "_law_kept", "_law_kind", "_law_thing_here", "_law_k"]) (ps := ["_law_script"]) (fb := b_law) (funOf F) sc_law (fun cdv A outer s H E hr => ?_)
  have hN := sc_law.nd
  exact (dss_cons (ds_set (i := 1) hN rfl (by first | exact .inl rfl | exact .inr rfl) (de_cf F_law_bag hr (by decide) takesD (da_cons (dv 0) da_nil) (by rfl)))
  (dss_cons (ds_setLc (j := 2) kFrz rfl hN rfl rfl (by rfl) (di_range1 (by rfl) T.b_range (da_cons (de_op od_add de_int (de_cf F_law_take hr (by decide) takesD (da_cons (dv 1) (da_cons de_int da_nil)) (by rfl))) da_nil)) (own := [("_law_k", 6)]) (blkOk_by (by rfl)) (fun s H C cl fp => (dg_name (i := 6) hN rfl (by first | exact .inl rfl | exact .inr rfl))) (fun s H C cl fp => dts_nil) (fun s H C cl fp => (de_cf F_law_thing hr (by decide) takes0 (da_cons (dv 1) da_nil) (by rfl))))
  (dss_cons (ds_setLc (j := 3) kFrz rfl hN rfl rfl (by rfl) (di_list (dv 2)) (own := [("_law_kind", 4), ("_law_thing_here", 5)]) (blkOk_by (by rfl)) (fun s H C cl fp => (dg_tup rfl (dgs_cons (dg_name (i := 4) hN rfl (by first | exact .inl rfl | exact .inr rfl)) (dgs_cons (dg_name (i := 5) hN rfl (by first | exact .inl rfl | exact .inr rfl)) dgs_nil)))) (fun s H C cl fp => dts_nil) (fun s H C cl fp => (de_callB (cd_repr hr.gd hr.u500 T.shown) (by rfl) T.b_repr (by decide +kernel) (da_cons (dv 5) da_nil))))
  (dss_cons (ds_for passesD rfl (di_list (dv 2)) (dg_tup rfl (dgs_cons (dg_name (i := 4) hN rfl (by first | exact .inl rfl | exact .inr rfl)) (dgs_cons (dg_name (i := 5) hN rfl (by first | exact .inl rfl | exact .inr rfl)) dgs_nil))) (dss_one (ds_if (dt_not (dt_val (de_cf F_law_right hr (by decide) takesD (da_cons (dv 5) (da_cons (de_cf F_law_due hr (by decide) takesD (da_cons (dv 4) (da_cons (dv 5) da_nil)) (by rfl)) (da_cons (de_cf F_law_take hr (by decide) takesD (da_cons (dv 1) (da_cons de_int da_nil)) (by rfl)) (da_cons de_int da_nil)))) (by rfl)))) (dss_one (ds_ret de_bl)) dss_nil)))
  (dss_cons (ds_for passesD rfl (di_list (de_rev lstOk (dv 2))) (dg_tup rfl (dgs_cons (dg_name (i := 4) hN rfl (by first | exact .inl rfl | exact .inr rfl)) (dgs_cons (dg_name (i := 5) hN rfl (by first | exact .inl rfl | exact .inr rfl)) dgs_nil))) (dss_one (ds_if (dt_not (dt_val (de_cf F_law_right hr (by decide) takesD (da_cons (dv 5) (da_cons (de_cf F_law_due hr (by decide) takesD (da_cons (dv 4) (da_cons (dv 5) da_nil)) (by rfl)) (da_cons (de_cf F_law_take hr (by decide) takesD (da_cons (dv 1) (da_cons de_int da_nil)) (by rfl)) (da_cons de_int da_nil)))) (by rfl)))) (dss_one (ds_ret de_bl)) dss_nil)))
  (dss_one (ds_ret (de_cmp (od_eq hr.u64) (de_lc kFrz rfl hN (di_list (dv 2)) (own := [("_law_kind", 4), ("_law_thing_here", 5)]) (blkOk_by (by rfl)) (fun s H C cl fp => (dg_tup rfl (dgs_cons (dg_name (i := 4) hN rfl (by first | exact .inl rfl | exact .inr rfl)) (dgs_cons (dg_name (i := 5) hN rfl (by first | exact .inl rfl | exact .inr rfl)) dgs_nil)))) (fun s H C cl fp => dts_nil) (fun s H C cl fp => (de_callB (cd_repr hr.gd hr.u500 T.shown) (by rfl) T.b_repr (by decide +kernel) (da_cons (dv 5) da_nil)))) (dv 3) (by rfl)))))))))
end
def d_law_bag : He.DefD := ⟨("_law_bag", none), "_law_bag", "_law_bag", defArgs s_law_bag, defBody s_law_bag, defScope s_law_bag, [], []⟩
def d_law_due : He.DefD := ⟨("_law_due", none), "_law_due", "_law_due", defArgs s_law_due, defBody s_law_due, defScope s_law_due, [], []⟩
def d_is_whole : He.DefD := ⟨("is_whole", none), "is_whole", "is_whole", defArgs s_is_whole, defBody s_is_whole, defScope s_is_whole, [], []⟩
def d_is_cost : He.DefD := ⟨("is_cost", none), "is_cost", "is_cost", defArgs s_is_cost, defBody s_is_cost, defScope s_is_cost, [], []⟩
def d_is_name : He.DefD := ⟨("is_name", none), "is_name", "is_name", defArgs s_is_name, defBody s_is_name, defScope s_is_name, [], []⟩
def d_is_position : He.DefD := ⟨("is_position", none), "is_position", "is_position", defArgs s_is_position, defBody s_is_position, defScope s_is_position, [], []⟩
def d_is_time : He.DefD := ⟨("is_time", none), "is_time", "is_time", defArgs s_is_time, defBody s_is_time, defScope s_is_time, [], []⟩
def d_law_asked : He.DefD := ⟨("_law_asked", none), "_law_asked", "_law_asked", defArgs s_law_asked, defBody s_law_asked, defScope s_law_asked, [], []⟩
def d_law_right : He.DefD := ⟨("_law_right", none), "_law_right", "_law_right", defArgs s_law_right, defBody s_law_right, defScope s_law_right, [], []⟩
def d_law_take : He.DefD := ⟨("_law_take", none), "_law_take", "_law_take", defArgs s_law_take, defBody s_law_take, defScope s_law_take, [], []⟩
def d_law_number : He.DefD := ⟨("_law_number", none), "_law_number", "_law_number", defArgs s_law_number, defBody s_law_number, defScope s_law_number, [], []⟩
def d_law_sign : He.DefD := ⟨("_law_sign", none), "_law_sign", "_law_sign", defArgs s_law_sign, defBody s_law_sign, defScope s_law_sign, [], []⟩
def d_law_text : He.DefD := ⟨("_law_text", none), "_law_text", "_law_text", defArgs s_law_text, defBody s_law_text, defScope s_law_text, [], []⟩
def d_law_thing : He.DefD := ⟨("_law_thing", none), "_law_thing", "_law_thing", defArgs s_law_thing, defBody s_law_thing, defScope s_law_thing, [], []⟩
def d_law : He.DefD := ⟨("law", none), "law", "law", defArgs s_law, defBody s_law, defScope s_law, [], []⟩
def fn : List He.DefD := [d_law_bag, d_law_due, d_is_whole, d_is_cost, d_is_name, d_is_position, d_is_time, d_law_asked, d_law_right, d_law_take, d_law_number, d_law_sign, d_law_text, d_law_thing, d_law]
def fa : List He.Fa := [.free "abs", .free "len", .free "int", .free "isinstance", .free "bool", .int "MOST_COST" 99, .free "str", .int "LONGEST" 8, .str "LETTERS" "abcdefghijklmnopqrstuvwxyz", .int "MOST_TIME" 1000000000, .free "range", .glo "NoRow", .exc "NoRow", .free "repr", .glo "_law_bag", .glo "_law_due", .glo "is_whole", .glo "is_cost", .glo "is_name", .glo "is_position", .glo "is_time", .glo "_law_asked", .glo "_law_right", .glo "_law_take", .glo "_law_number", .glo "_law_sign", .glo "_law_text", .glo "_law_thing", .glo "law"]
def fx : List Fx := [.isi (.inl "NoneType") (.inl "int") false, .isi (.inl "bool") (.inl "int") true, .isi (.inl "int") (.inl "int") true, .isi (.inl "str") (.inl "int") false, .isi (.inl "list") (.inl "int") false, .isi (.inl "tuple") (.inl "int") false, .isi (.inl "dict") (.inl "int") false, .isi (.inr "NoRow") (.inl "int") false, .excC "NoRow", .isi (.inl "NoneType") (.inl "bool") false, .isi (.inl "bool") (.inl "bool") true, .isi (.inl "int") (.inl "bool") false, .isi (.inl "str") (.inl "bool") false, .isi (.inl "list") (.inl "bool") false, .isi (.inl "tuple") (.inl "bool") false, .isi (.inl "dict") (.inl "bool") false, .isi (.inr "NoRow") (.inl "bool") false, .isi (.inl "NoneType") (.inl "str") false, .isi (.inl "bool") (.inl "str") false, .isi (.inl "int") (.inl "str") false, .isi (.inl "str") (.inl "str") true, .isi (.inl "list") (.inl "str") false, .isi (.inl "tuple") (.inl "str") false, .isi (.inl "dict") (.inl "str") false, .isi (.inr "NoRow") (.inl "str") false, .shown "NoRow"]
abbrev R : PySem.W.OpenRow := PySem.W.OpenLaw.row PySem.Challenge.rw_stillmain_k11_kinds_known
abbrev hk : PySem.W.Hook := hookM 5 fa fn fx
def ob (s : PySem.W.SharedT) : He.AlX := He.obsX 5 fa fn [] [] (fun K => fx.all fun f => f.ok K) (HandSHeadRun.getT s)
theorem ob_eq (s : PySem.W.SharedT) : ob s = hk.obs s.abs := He.obsX_eq (HandSHeadRun.getT_eq s)
def nms0 : List Str := ["__name__", "LETTERS", "LONGEST", "MOST_COST", "MOST_TIME", "is_whole", "is_name", "is_cost", "is_time", "is_position", "MainsError", "NoRow", "_law_bag", "_law_take", "_law_sign", "_law_number", "_law_text", "_law_thing", "_law_due", "_law_asked", "_law_right"]
def nms : List Str := nms0
set_option maxHeartbeats 0 in
theorem run (w : World) : HandSHeadRun.RunEq R (PySem.W.view R.prog [23]) hk ob 1500 nms w := by
  intro os
  kernel_rfl
set_option maxHeartbeats 0 in
theorem facts {P : Program} {w : World} {K : PySem.W.Frag} {h : Heap} {mg : Str → Option Value} {f : Addr} (X : K.In h) (G : h.Ns mainGlobals mg) (hfa : mg ("law" : Str) = some (.ref f)) (c : SaysM fa fn fx w h K) :
    ∃ (fd : FuncData), (∀ (s : Shared) (v : Value), BindsTo s fd ⟨[v], []⟩ [("_law_script", v)]) ∧ ∀ base : Heap, K.In base → base.Ns mainGlobals mg → FnD P w K mg base (cmK K) false 5 f fd ["_law_script"] m_law := by
  have T : Txt K mg := {
    b_abs := He.free_ok X G (c.t.d.fact 0 (f := .free "abs"))
    b_len := He.free_ok X G (c.t.d.fact 1 (f := .free "len"))
    b_int := He.free_ok X G (c.t.d.fact 2 (f := .free "int"))
    clss := ⟨allN, (allC (excC_ok (fx_at c 8 (f := .excC "NoRow"))) allN)⟩
    k_int := ⟨(allC (isi_ok (fx_at c 0 (f := .isi (.inl "NoneType") (.inl "int") false))) (allC (isi_ok (fx_at c 1 (f := .isi (.inl "bool") (.inl "int") true))) (allC (isi_ok (fx_at c 2 (f := .isi (.inl "int") (.inl "int") true))) (allC (isi_ok (fx_at c 3 (f := .isi (.inl "str") (.inl "int") false))) (allC (isi_ok (fx_at c 4 (f := .isi (.inl "list") (.inl "int") false))) (allC (isi_ok (fx_at c 5 (f := .isi (.inl "tuple") (.inl "int") false))) (allC (isi_ok (fx_at c 6 (f := .isi (.inl "dict") (.inl "int") false))) allN))))))), (allC (isi_ok (fx_at c 7 (f := .isi (.inr "NoRow") (.inl "int") false))) allN)⟩
    b_isinstance := He.free_ok X G (c.t.d.fact 3 (f := .free "isinstance"))
    b_bool := He.free_ok X G (c.t.d.fact 4 (f := .free "bool"))
    k_bool := ⟨(allC (isi_ok (fx_at c 9 (f := .isi (.inl "NoneType") (.inl "bool") false))) (allC (isi_ok (fx_at c 10 (f := .isi (.inl "bool") (.inl "bool") true))) (allC (isi_ok (fx_at c 11 (f := .isi (.inl "int") (.inl "bool") false))) (allC (isi_ok (fx_at c 12 (f := .isi (.inl "str") (.inl "bool") false))) (allC (isi_ok (fx_at c 13 (f := .isi (.inl "list") (.inl "bool") false))) (allC (isi_ok (fx_at c 14 (f := .isi (.inl "tuple") (.inl "bool") false))) (allC (isi_ok (fx_at c 15 (f := .isi (.inl "dict") (.inl "bool") false))) allN))))))), (allC (isi_ok (fx_at c 16 (f := .isi (.inr "NoRow") (.inl "bool") false))) allN)⟩
    g_MOST_COST := He.int_ok X G (c.t.d.fact 5 (f := .int "MOST_COST" 99))
    b_str := He.free_ok X G (c.t.d.fact 6 (f := .free "str"))
    k_str := ⟨(allC (isi_ok (fx_at c 17 (f := .isi (.inl "NoneType") (.inl "str") false))) (allC (isi_ok (fx_at c 18 (f := .isi (.inl "bool") (.inl "str") false))) (allC (isi_ok (fx_at c 19 (f := .isi (.inl "int") (.inl "str") false))) (allC (isi_ok (fx_at c 20 (f := .isi (.inl "str") (.inl "str") true))) (allC (isi_ok (fx_at c 21 (f := .isi (.inl "list") (.inl "str") false))) (allC (isi_ok (fx_at c 22 (f := .isi (.inl "tuple") (.inl "str") false))) (allC (isi_ok (fx_at c 23 (f := .isi (.inl "dict") (.inl "str") false))) allN))))))), (allC (isi_ok (fx_at c 24 (f := .isi (.inr "NoRow") (.inl "str") false))) allN)⟩
    g_LONGEST := He.int_ok X G (c.t.d.fact 7 (f := .int "LONGEST" 8))
    g_LETTERS := He.str_ok X G (c.t.d.fact 8 (f := .str "LETTERS" "abcdefghijklmnopqrstuvwxyz"))
    g_MOST_TIME := He.int_ok X G (c.t.d.fact 9 (f := .int "MOST_TIME" 1000000000))
    b_range := He.free_ok X G (c.t.d.fact 10 (f := .free "range"))
    x_NoRow := c.t.d.fact 12 (f := .exc "NoRow")
    c_NoRow := He.glo_ok X G (c.t.d.fact 11 (f := .glo "NoRow"))
    shown := (allC (shown_ok (fx_at c 25 (f := .shown "NoRow"))) allN)
    b_repr := He.free_ok X G (c.t.d.fact 13 (f := .free "repr"))
  }
  have D_law_bag := c.t.d.def_ 0 (d := d_law_bag)
  have g_law_bag := He.glo_ok X G (c.t.d.fact 14 (f := .glo "_law_bag"))
  have D_law_due := c.t.d.def_ 1 (d := d_law_due)
  have g_law_due := He.glo_ok X G (c.t.d.fact 15 (f := .glo "_law_due"))
  have D_is_whole := c.t.d.def_ 2 (d := d_is_whole)
  have g_is_whole := He.glo_ok X G (c.t.d.fact 16 (f := .glo "is_whole"))
  have D_is_cost := c.t.d.def_ 3 (d := d_is_cost)
  have g_is_cost := He.glo_ok X G (c.t.d.fact 17 (f := .glo "is_cost"))
  have D_is_name := c.t.d.def_ 4 (d := d_is_name)
  have g_is_name := He.glo_ok X G (c.t.d.fact 18 (f := .glo "is_name"))
  have D_is_position := c.t.d.def_ 5 (d := d_is_position)
  have g_is_position := He.glo_ok X G (c.t.d.fact 19 (f := .glo "is_position"))
  have D_is_time := c.t.d.def_ 6 (d := d_is_time)
  have g_is_time := He.glo_ok X G (c.t.d.fact 20 (f := .glo "is_time"))
  have D_law_asked := c.t.d.def_ 7 (d := d_law_asked)
  have g_law_asked := He.glo_ok X G (c.t.d.fact 21 (f := .glo "_law_asked"))
  have D_law_right := c.t.d.def_ 8 (d := d_law_right)
  have g_law_right := He.glo_ok X G (c.t.d.fact 22 (f := .glo "_law_right"))
  have D_law_take := c.t.d.def_ 9 (d := d_law_take)
  have g_law_take := He.glo_ok X G (c.t.d.fact 23 (f := .glo "_law_take"))
  have D_law_number := c.t.d.def_ 10 (d := d_law_number)
  have g_law_number := He.glo_ok X G (c.t.d.fact 24 (f := .glo "_law_number"))
  have D_law_sign := c.t.d.def_ 11 (d := d_law_sign)
  have g_law_sign := He.glo_ok X G (c.t.d.fact 25 (f := .glo "_law_sign"))
  have D_law_text := c.t.d.def_ 12 (d := d_law_text)
  have g_law_text := He.glo_ok X G (c.t.d.fact 26 (f := .glo "_law_text"))
  have D_law_thing := c.t.d.def_ 13 (d := d_law_thing)
  have g_law_thing := He.glo_ok X G (c.t.d.fact 27 (f := .glo "_law_thing"))
  have D_law := c.t.d.def_ 14 (d := d_law)
  have g_law := He.glo_ok X G (c.t.d.fact 28 (f := .glo "law"))
  obtain ⟨fd, F⟩ := id D_law
  have e := hfa.symm.trans g_law
  cases e
  refine ⟨fd, fun s v => FunD.bindsA (ps := ["_law_script"]) F (fun _ _ _ _ _ _ us hl => match us, hl with | [_], _ => rfl) s [v] rfl, fun base hb hn => ?_⟩
  have F_law_bag := ok_law_bag (P := P) (w := w) (base := base)  T D_law_bag g_law_bag
  have F_law_due := ok_law_due (P := P) (w := w) (base := base)  T D_law_due g_law_due
  have F_is_whole := ok_is_whole (P := P) (w := w) (base := base)  T D_is_whole g_is_whole
  have F_is_cost := ok_is_cost (P := P) (w := w) (base := base) F_is_whole T D_is_cost g_is_cost
  have F_is_name := ok_is_name (P := P) (w := w) (base := base)  T D_is_name g_is_name
  have F_is_position := ok_is_position (P := P) (w := w) (base := base)  T D_is_position g_is_position
  have F_is_time := ok_is_time (P := P) (w := w) (base := base) F_is_whole T D_is_time g_is_time
  have F_law_asked := ok_law_asked (P := P) (w := w) (base := base) F_is_cost F_is_name F_is_position F_is_time F_is_whole T D_law_asked g_law_asked
  have F_law_right := ok_law_right (P := P) (w := w) (base := base) F_law_asked T D_law_right g_law_right
  have F_law_take := ok_law_take (P := P) (w := w) (base := base)  T D_law_take g_law_take
  have F_law_number := ok_law_number (P := P) (w := w) (base := base) F_law_take T D_law_number g_law_number
  have F_law_sign := ok_law_sign (P := P) (w := w) (base := base) F_law_take T D_law_sign g_law_sign
  have F_law_text := ok_law_text (P := P) (w := w) (base := base) F_law_sign F_law_take T D_law_text g_law_text
  have F_law_thing := ok_law_thing (P := P) (w := w) (base := base) F_law_number F_law_take F_law_text T D_law_thing g_law_thing
  exact ok_law (P := P) (w := w) (base := base) F_law_bag F_law_due F_law_right F_law_take F_law_thing T F
end
end Lw

set_option Elab.async false
set_option linter.all false
set_option maxRecDepth 100000
set_option maxHeartbeats 1000000
namespace Lw
open PySem PySem.Spec PyProof.Rows L2 Dm
theorem w_draw_l {s0 st : Sto} {b : Nat} {n : Int} {Q : MV → Sto → Prop} {E : XP} (S : Step b s0 st) (hn : 0 < n) (hb : n ≤ 1000000000000000000000000000000000000000000000000) (h : ∀ k s, 0 ≤ k → k < n → Step b s0 s → Q (.d (.int k)) s) : Wp (m_law_take [.c b, .d (.int n)]) st Q E := w_draw S hn hb h
theorem sign_ok {b : Nat} {st : Sto} (hB : Bag st b) : Wp (m_law_sign [.c b]) st (fun v s => ∃ x, v = .d (.str x) ∧ TOk x 1 ∧ Step b st s) noX := by
  have S0 := Step.refl hB
  refine w_fn rfl ?_
  unfold b_law_sign
  have e95 : (Str.ofString " !\"#$&'()*+,-./0123456789:;<=>?@ABCDEFGHIJKLMNOPQRSTUVWXYZ[\\]^_`" ++ Str.ofString "abcdefghijklmnopqrstuvwxyz{|}~\n").length = 95 := by
    rw [strLen_append, PySem.ofString_length, PySem.ofString_length]
    decide +kernel
  (repeat' (first | ((with_reducible apply w_draw_l); (with_reducible assumption); (first | with_reducible assumption | omega | (simp only [List.length_cons, List.length_nil]; omega)); (first | with_reducible assumption | omega | (simp only [List.length_cons, List.length_nil]; omega)); (intro _ _ _ _ _)) | with_reducible refine w_c ?_ | ((with_reducible apply w_var); (exact rfl)) | with_reducible refine w_m2 ?_ | with_reducible refine w_cons ?_ | with_reducible refine w_nil ?_ | with_reducible refine w_mk ?_ | with_reducible refine w_call ?_ | with_reducible refine w_sq ?_ | with_reducible refine w_set ?_ | with_reducible refine w_tst ?_ | with_reducible refine t_b ?_ | with_reducible refine w_if ?_ | with_reducible refine w_nx ?_ | with_reducible refine w_retS ?_ | with_reducible refine w_eqI ?_ | (with_reducible refine b_dec (fun _ => ?_) (fun _ => ?_)) | with_reducible refine w_addI ?_ | with_reducible refine w_sub' ?_ | with_reducible refine w_iadd ?_ | with_reducible refine w_lt ?_ | with_reducible refine w_le ?_ | with_reducible refine w_gt ?_ | with_reducible refine w_ge ?_ | with_reducible refine w_neI ?_ | with_reducible refine w_chain ?_ | with_reducible refine w_and ?_ | with_reducible refine w_or ?_ | with_reducible refine w_not ?_ | with_reducible refine w_andV ?_ | with_reducible refine w_orV ?_ | with_reducible refine w_notV ?_ | with_reducible refine w_mIf ?_ | with_reducible refine w_bnd ?_ | with_reducible refine w_ret ?_ | with_reducible refine b_t ?_ | with_reducible refine b_f ?_ | with_reducible refine b_not ?_ | with_reducible refine w_expr ?_ | with_reducible refine w_sub ?_ | with_reducible refine w_augS ?_ | with_reducible refine w_retN ?_ | with_reducible refine w_lenD ?_ | with_reducible refine w_lenT ?_ | with_reducible refine w_isub ?_ | with_reducible refine w_bk ?_ | with_reducible refine w_ct ?_ | ((with_reducible apply w_mod); (first | decide | assumption | omega)) | ((with_reducible apply w_div); (first | decide | (constructor <;> first | assumption | omega))) | ((with_reducible apply w_mul); (first | exact .inr (by decide) | exact .inl (by decide) | omega)) | ((with_reducible apply w_pow); (decide)) | ((with_reducible apply w_ixL); (first | assumption | exact put_self); (first | exact atI0 | exact atI1 | exact atI2 | exact atI3 | exact atI_map (by omega) (by assumption))) | ((with_reducible apply w_getL); (first | assumption | exact put_self); (first | exact atI0 | exact atI1 | exact atI2 | exact atI3 | exact atI_map (by omega) (by assumption))) | ((with_reducible apply w_setL); (first | assumption | exact put_self); (first | exact ixL0 | exact ixL1 | exact ixL2)) | ((with_reducible apply w_ixD); (first | exact atI0 | exact atI1 | exact atI2 | exact atI3 | exact atI_map (by omega) (by assumption))) | ((with_reducible apply w_lenL); (first | assumption | exact put_self)) | ((with_reducible refine w_ixA ?_ ?_ (allC ?_ ?_)); (first | with_reducible assumption | omega | (simp only [List.length_cons, List.length_nil]; omega)); (first | with_reducible assumption | omega | (simp only [List.length_cons, List.length_nil]; omega))) | with_reducible exact allN | with_reducible refine allC ?_ ?_ | ((with_reducible apply w_ixLA); (first | assumption | exact new_self); (first | with_reducible assumption | omega | (simp only [List.length_cons, List.length_nil]; omega)); (first | with_reducible assumption | omega | (simp only [List.length_cons, List.length_nil]; omega))) | ((with_reducible apply w_addS); (exact tok2 (by (repeat' (first | assumption | exact TOk.lit2 (by decide +kernel) | with_reducible apply TOk.app | with_reducible apply TOk.cut))) (by (repeat' (first | assumption | exact TOk.lit2 (by decide +kernel) | with_reducible apply TOk.app | with_reducible apply TOk.cut))) (by decide))) | ((with_reducible apply w_lenS2); ((repeat' (first | assumption | exact TOk.lit2 (by decide +kernel) | with_reducible apply TOk.app | with_reducible apply TOk.cut))); (decide); (intro _)) | ((with_reducible apply w_cutS); (exact TOk.len (by (repeat' (first | assumption | exact TOk.lit2 (by decide +kernel) | with_reducible apply TOk.app | with_reducible apply TOk.cut))) (by decide))) | with_reducible refine w_slice ?_ | with_reducible refine w_dict0 ?_ | with_reducible refine w_exc0 ?_ | with_reducible refine w_dict ?_ | with_reducible refine w_pairs0 ?_ | with_reducible refine w_pairs ?_ | with_reducible refine w_isi ?_ | with_reducible refine w_abs ?_ | with_reducible refine w_max ?_ | with_reducible refine w_min ?_ | with_reducible refine w_gNm ?_ | with_reducible refine w_gCons ?_ | with_reducible refine w_gNil ?_ | with_reducible refine w_retF ?_ | with_reducible refine w_lcI ?_ | with_reducible refine w_forI ?_ | with_reducible refine w_meth ?_ | (with_reducible refine w_part ?_) | (with_reducible refine w_itRange ?_) | (with_reducible refine w_itList ?_) | (with_reducible refine w_itStr ?_) | (with_reducible refine w_rev ?_) | with_reducible refine e_int ?_ | with_reducible refine e_str ?_ | with_reducible refine e_keyS ?_ | with_reducible refine e_keyI ?_ | with_reducible refine e_tyS ?_ | with_reducible refine e_tt ?_ | ((with_reducible refine e_rng ?_ ?_ ?_); (first | with_reducible assumption | omega | (simp only [List.length_cons, List.length_nil]; omega)); (first | with_reducible assumption | omega | (simp only [List.length_cons, List.length_nil]; omega))) | ((with_reducible apply e_isi); (exact rfl); (first | exact rfl | decide)) | ((with_reducible apply w_mkL); (decide); (exact rfl)) | ((with_reducible apply w_mkLp); (decide); (exact rfl)) | ((with_reducible apply w_mkLc); (decide)) | ((with_reducible apply w_mkT); (decide); (exact rfl)) | ((with_reducible apply w_mkTp); (decide); (exact rfl))))
  refine w_ixSA (by rw [e95]; decide) (by omega) (by omega) (TOk.app (TOk.lit2 (by decide +kernel)) (TOk.lit2 (by decide +kernel))).1 fun x hx _ => ?_
  exact ⟨x, rfl, hx, by assumption⟩
theorem number_ok {b : Nat} {st : Sto} (hB : Bag st b) : Wp (m_law_number [.c b]) st (fun v s => ∃ i : Int, v = .d (.int i) ∧ i.natAbs ≤ 1000000000000000000000000000000000000000000000000 ∧ Step b st s) noX := by
  have S0 := Step.refl hB
  have e9 : (10 : Int) ^ Int.toNat 9 = 1000000000 := by decide
  have e40 : (10 : Int) ^ Int.toNat 40 = 10000000000000000000000000000000000000000 := by decide
  refine w_fn rfl ?_
  unfold b_law_number
  (repeat' (first | ((with_reducible apply w_draw_l); (with_reducible assumption); (first | with_reducible assumption | omega | (simp only [List.length_cons, List.length_nil]; omega)); (first | with_reducible assumption | omega | (simp only [List.length_cons, List.length_nil]; omega)); (intro _ _ _ _ _)) | with_reducible refine w_c ?_ | ((with_reducible apply w_var); (exact rfl)) | with_reducible refine w_m2 ?_ | with_reducible refine w_cons ?_ | with_reducible refine w_nil ?_ | with_reducible refine w_mk ?_ | with_reducible refine w_call ?_ | with_reducible refine w_sq ?_ | with_reducible refine w_set ?_ | with_reducible refine w_tst ?_ | with_reducible refine t_b ?_ | with_reducible refine w_if ?_ | with_reducible refine w_nx ?_ | with_reducible refine w_retS ?_ | with_reducible refine w_eqI ?_ | (with_reducible refine b_dec (fun _ => ?_) (fun _ => ?_)) | with_reducible refine w_addI ?_ | with_reducible refine w_sub' ?_ | with_reducible refine w_iadd ?_ | with_reducible refine w_lt ?_ | with_reducible refine w_le ?_ | with_reducible refine w_gt ?_ | with_reducible refine w_ge ?_ | with_reducible refine w_neI ?_ | with_reducible refine w_chain ?_ | with_reducible refine w_and ?_ | with_reducible refine w_or ?_ | with_reducible refine w_not ?_ | with_reducible refine w_andV ?_ | with_reducible refine w_orV ?_ | with_reducible refine w_notV ?_ | with_reducible refine w_mIf ?_ | with_reducible refine w_bnd ?_ | with_reducible refine w_ret ?_ | with_reducible refine b_t ?_ | with_reducible refine b_f ?_ | with_reducible refine b_not ?_ | with_reducible refine w_expr ?_ | with_reducible refine w_sub ?_ | with_reducible refine w_augS ?_ | with_reducible refine w_retN ?_ | with_reducible refine w_lenD ?_ | with_reducible refine w_lenT ?_ | with_reducible refine w_isub ?_ | with_reducible refine w_bk ?_ | with_reducible refine w_ct ?_ | ((with_reducible apply w_mod); (first | decide | assumption | omega)) | ((with_reducible apply w_div); (first | decide | (constructor <;> first | assumption | omega))) | ((with_reducible apply w_mul); (first | exact .inr (by decide) | exact .inl (by decide) | omega)) | ((with_reducible apply w_pow); (decide)) | ((with_reducible apply w_ixL); (first | assumption | exact put_self); (first | exact atI0 | exact atI1 | exact atI2 | exact atI3 | exact atI_map (by omega) (by assumption))) | ((with_reducible apply w_getL); (first | assumption | exact put_self); (first | exact atI0 | exact atI1 | exact atI2 | exact atI3 | exact atI_map (by omega) (by assumption))) | ((with_reducible apply w_setL); (first | assumption | exact put_self); (first | exact ixL0 | exact ixL1 | exact ixL2)) | ((with_reducible apply w_ixD); (first | exact atI0 | exact atI1 | exact atI2 | exact atI3 | exact atI_map (by omega) (by assumption))) | ((with_reducible apply w_lenL); (first | assumption | exact put_self)) | ((with_reducible refine w_ixA ?_ ?_ (allC ?_ ?_)); (first | with_reducible assumption | omega | (simp only [List.length_cons, List.length_nil]; omega)); (first | with_reducible assumption | omega | (simp only [List.length_cons, List.length_nil]; omega))) | with_reducible exact allN | with_reducible refine allC ?_ ?_ | ((with_reducible apply w_ixLA); (first | assumption | exact new_self); (first | with_reducible assumption | omega | (simp only [List.length_cons, List.length_nil]; omega)); (first | with_reducible assumption | omega | (simp only [List.length_cons, List.length_nil]; omega))) | ((with_reducible apply w_addS); (exact tok2 (by (repeat' (first | assumption | exact TOk.lit2 (by decide +kernel) | with_reducible apply TOk.app | with_reducible apply TOk.cut))) (by (repeat' (first | assumption | exact TOk.lit2 (by decide +kernel) | with_reducible apply TOk.app | with_reducible apply TOk.cut))) (by decide))) | ((with_reducible apply w_lenS2); ((repeat' (first | assumption | exact TOk.lit2 (by decide +kernel) | with_reducible apply TOk.app | with_reducible apply TOk.cut))); (decide); (intro _)) | ((with_reducible apply w_cutS); (exact TOk.len (by (repeat' (first | assumption | exact TOk.lit2 (by decide +kernel) | with_reducible apply TOk.app | with_reducible apply TOk.cut))) (by decide))) | with_reducible refine w_slice ?_ | with_reducible refine w_dict0 ?_ | with_reducible refine w_exc0 ?_ | with_reducible refine w_dict ?_ | with_reducible refine w_pairs0 ?_ | with_reducible refine w_pairs ?_ | with_reducible refine w_isi ?_ | with_reducible refine w_abs ?_ | with_reducible refine w_max ?_ | with_reducible refine w_min ?_ | with_reducible refine w_gNm ?_ | with_reducible refine w_gCons ?_ | with_reducible refine w_gNil ?_ | with_reducible refine w_retF ?_ | with_reducible refine w_lcI ?_ | with_reducible refine w_forI ?_ | with_reducible refine w_meth ?_ | (with_reducible refine w_part ?_) | (with_reducible refine w_itRange ?_) | (with_reducible refine w_itList ?_) | (with_reducible refine w_itStr ?_) | (with_reducible refine w_rev ?_) | with_reducible refine e_int ?_ | with_reducible refine e_str ?_ | with_reducible refine e_keyS ?_ | with_reducible refine e_keyI ?_ | with_reducible refine e_tyS ?_ | with_reducible refine e_tt ?_ | ((with_reducible refine e_rng ?_ ?_ ?_); (first | with_reducible assumption | omega | (simp only [List.length_cons, List.length_nil]; omega)); (first | with_reducible assumption | omega | (simp only [List.length_cons, List.length_nil]; omega))) | ((with_reducible apply e_isi); (exact rfl); (first | exact rfl | decide)) | ((with_reducible apply w_mkL); (decide); (exact rfl)) | ((with_reducible apply w_mkLp); (decide); (exact rfl)) | ((with_reducible apply w_mkLc); (decide)) | ((with_reducible apply w_mkT); (decide); (exact rfl)) | ((with_reducible apply w_mkTp); (decide); (exact rfl))))
  all_goals exact ⟨_, rfl, by omega, by assumption⟩
theorem w_sign_l {s0 st : Sto} {b : Nat} {Q : MV → Sto → Prop} {E : XP} (S : Step b s0 st) (h : ∀ x s, TOk x 1 → Step b s0 s → Q (.d (.str x)) s) : Wp (m_law_sign [.c b]) st Q E :=
  (sign_ok S.bag).then fun v s z => by
    obtain ⟨x, rfl, h1, h2⟩ := z
    exact h x s h1 (S.trans h2)
theorem w_number_l {s0 st : Sto} {b : Nat} {Q : MV → Sto → Prop} {E : XP} (S : Step b s0 st) (h : ∀ (i : Int) s, i.natAbs ≤ 1000000000000000000000000000000000000000000000000 → Step b s0 s → Q (.d (.int i)) s) : Wp (m_law_number [.c b]) st Q E :=
  (number_ok S.bag).then fun v s z => by
    obtain ⟨x, rfl, h1, h2⟩ := z
    exact h x s h1 (S.trans h2)
theorem text_ok {b : Nat} {st : Sto} (hB : Bag st b) : Wp (m_law_text [.c b]) st (fun v s => ∃ x, v = .d (.str x) ∧ TOk x 1000 ∧ Step b st s) noX := by
  have S0 := Step.refl hB
  have e26 : (Str.ofString "abcdefghijklmnopqrstuvwxyz").length = 26 := by
    rw [PySem.ofString_length]
    decide +kernel
  refine w_fn rfl ?_
  unfold b_law_text
  (repeat' (first | (with_reducible refine w_sqIfStr (n := 200) (b := b) (s0 := st) ?_ (fun _ _ _ _ => ?_)) | ((with_reducible apply w_sign_l); (with_reducible assumption); (intro _ _ _ _)) | with_reducible refine w_c ?_ | ((with_reducible apply w_var); (exact rfl)) | with_reducible refine w_m2 ?_ | with_reducible refine w_cons ?_ | with_reducible refine w_nil ?_ | with_reducible refine w_mk ?_ | with_reducible refine w_call ?_ | with_reducible refine w_sq ?_ | with_reducible refine w_set ?_ | with_reducible refine w_tst ?_ | with_reducible refine t_b ?_ | with_reducible refine w_if ?_ | with_reducible refine w_nx ?_ | with_reducible refine w_retS ?_ | with_reducible refine w_eqI ?_ | (with_reducible refine b_dec (fun _ => ?_) (fun _ => ?_)) | with_reducible refine w_addI ?_ | with_reducible refine w_sub' ?_ | with_reducible refine w_iadd ?_ | with_reducible refine w_lt ?_ | with_reducible refine w_le ?_ | with_reducible refine w_gt ?_ | with_reducible refine w_ge ?_ | with_reducible refine w_neI ?_ | with_reducible refine w_chain ?_ | with_reducible refine w_and ?_ | with_reducible refine w_or ?_ | with_reducible refine w_not ?_ | with_reducible refine w_andV ?_ | with_reducible refine w_orV ?_ | with_reducible refine w_notV ?_ | with_reducible refine w_mIf ?_ | with_reducible refine w_bnd ?_ | with_reducible refine w_ret ?_ | with_reducible refine b_t ?_ | with_reducible refine b_f ?_ | with_reducible refine b_not ?_ | with_reducible refine w_expr ?_ | with_reducible refine w_sub ?_ | with_reducible refine w_augS ?_ | with_reducible refine w_retN ?_ | with_reducible refine w_lenD ?_ | with_reducible refine w_lenT ?_ | with_reducible refine w_isub ?_ | with_reducible refine w_bk ?_ | with_reducible refine w_ct ?_ | ((with_reducible apply w_mod); (first | decide | assumption | omega)) | ((with_reducible apply w_div); (first | decide | (constructor <;> first | assumption | omega))) | ((with_reducible apply w_mul); (first | exact .inr (by decide) | exact .inl (by decide) | omega)) | ((with_reducible apply w_pow); (decide)) | ((with_reducible apply w_ixL); (first | assumption | exact put_self); (first | exact atI0 | exact atI1 | exact atI2 | exact atI3 | exact atI_map (by omega) (by assumption))) | ((with_reducible apply w_getL); (first | assumption | exact put_self); (first | exact atI0 | exact atI1 | exact atI2 | exact atI3 | exact atI_map (by omega) (by assumption))) | ((with_reducible apply w_setL); (first | assumption | exact put_self); (first | exact ixL0 | exact ixL1 | exact ixL2)) | ((with_reducible apply w_ixD); (first | exact atI0 | exact atI1 | exact atI2 | exact atI3 | exact atI_map (by omega) (by assumption))) | ((with_reducible apply w_lenL); (first | assumption | exact put_self)) | ((with_reducible apply w_draw_l); (with_reducible assumption); (first | with_reducible assumption | omega | (simp only [List.length_cons, List.length_nil]; omega)); (first | with_reducible assumption | omega | (simp only [List.length_cons, List.length_nil]; omega)); (intro _ _ _ _ _)) | ((with_reducible refine w_ixA ?_ ?_ (allC ?_ ?_)); (first | with_reducible assumption | omega | (simp only [List.length_cons, List.length_nil]; omega)); (first | with_reducible assumption | omega | (simp only [List.length_cons, List.length_nil]; omega))) | with_reducible exact allN | with_reducible refine allC ?_ ?_ | ((with_reducible apply w_ixLA); (first | assumption | exact new_self); (first | with_reducible assumption | omega | (simp only [List.length_cons, List.length_nil]; omega)); (first | with_reducible assumption | omega | (simp only [List.length_cons, List.length_nil]; omega))) | ((with_reducible apply w_addS); (exact tok2 (by (repeat' (first | assumption | exact TOk.lit2 (by decide +kernel) | with_reducible apply TOk.app | with_reducible apply TOk.cut))) (by (repeat' (first | assumption | exact TOk.lit2 (by decide +kernel) | with_reducible apply TOk.app | with_reducible apply TOk.cut))) (by decide))) | ((with_reducible apply w_lenS2); ((repeat' (first | assumption | exact TOk.lit2 (by decide +kernel) | with_reducible apply TOk.app | with_reducible apply TOk.cut))); (decide); (intro _)) | ((with_reducible apply w_cutS); (exact TOk.len (by (repeat' (first | assumption | exact TOk.lit2 (by decide +kernel) | with_reducible apply TOk.app | with_reducible apply TOk.cut))) (by decide))) | with_reducible refine w_slice ?_ | with_reducible refine w_dict0 ?_ | with_reducible refine w_exc0 ?_ | with_reducible refine w_dict ?_ | with_reducible refine w_pairs0 ?_ | with_reducible refine w_pairs ?_ | with_reducible refine w_isi ?_ | with_reducible refine w_abs ?_ | with_reducible refine w_max ?_ | with_reducible refine w_min ?_ | with_reducible refine w_gNm ?_ | with_reducible refine w_gCons ?_ | with_reducible refine w_gNil ?_ | with_reducible refine w_retF ?_ | with_reducible refine w_lcI ?_ | with_reducible refine w_forI ?_ | with_reducible refine w_meth ?_ | (with_reducible refine w_part ?_) | (with_reducible refine w_itRange ?_) | (with_reducible refine w_itList ?_) | (with_reducible refine w_itStr ?_) | (with_reducible refine w_rev ?_) | with_reducible refine e_int ?_ | with_reducible refine e_str ?_ | with_reducible refine e_keyS ?_ | with_reducible refine e_keyI ?_ | with_reducible refine e_tyS ?_ | with_reducible refine e_tt ?_ | ((with_reducible refine e_rng ?_ ?_ ?_); (first | with_reducible assumption | omega | (simp only [List.length_cons, List.length_nil]; omega)); (first | with_reducible assumption | omega | (simp only [List.length_cons, List.length_nil]; omega))) | ((with_reducible apply e_isi); (exact rfl); (first | exact rfl | decide)) | ((with_reducible apply w_mkL); (decide); (exact rfl)) | ((with_reducible apply w_mkLp); (decide); (exact rfl)) | ((with_reducible apply w_mkLc); (decide)) | ((with_reducible apply w_mkT); (decide); (exact rfl)) | ((with_reducible apply w_mkTp); (decide); (exact rfl))))
  all_goals try exact ⟨_, rfl, TOk.mono (by (repeat' (first | assumption | exact TOk.lit2 (by decide +kernel) | with_reducible apply TOk.app | with_reducible apply TOk.cut))) (by decide), by assumption⟩
  rename_i k2 s2 h1 h2 h3 n0 n1 k3 s3 g0 g1 gS
  refine w_lcA (P := fun d => ∃ x, d = .str x ∧ TOk x 1) (fun _ => trivial) gS.bag ?_ (fun y _ s hs hn => ?_) (fun ds s' hl hp S => ?_)
  · unfold Dm.upTo
    rw [List.length_map, List.length_range]
    have : (11 : Nat) < sizeLine := by decide
    omega
  · have S1 := Step.refl hs.bag
    (repeat' (first | ((with_reducible apply w_draw_l); (with_reducible assumption); (first | with_reducible assumption | omega | (simp only [List.length_cons, List.length_nil]; omega)); (first | with_reducible assumption | omega | (simp only [List.length_cons, List.length_nil]; omega)); (intro _ _ _ _ _)) | with_reducible refine w_c ?_ | ((with_reducible apply w_var); (exact rfl)) | with_reducible refine w_m2 ?_ | with_reducible refine w_cons ?_ | with_reducible refine w_nil ?_ | with_reducible refine w_mk ?_ | with_reducible refine w_call ?_ | with_reducible refine w_sq ?_ | with_reducible refine w_set ?_ | with_reducible refine w_tst ?_ | with_reducible refine t_b ?_ | with_reducible refine w_if ?_ | with_reducible refine w_nx ?_ | with_reducible refine w_retS ?_ | with_reducible refine w_eqI ?_ | (with_reducible refine b_dec (fun _ => ?_) (fun _ => ?_)) | with_reducible refine w_addI ?_ | with_reducible refine w_sub' ?_ | with_reducible refine w_iadd ?_ | with_reducible refine w_lt ?_ | with_reducible refine w_le ?_ | with_reducible refine w_gt ?_ | with_reducible refine w_ge ?_ | with_reducible refine w_neI ?_ | with_reducible refine w_chain ?_ | with_reducible refine w_and ?_ | with_reducible refine w_or ?_ | with_reducible refine w_not ?_ | with_reducible refine w_andV ?_ | with_reducible refine w_orV ?_ | with_reducible refine w_notV ?_ | with_reducible refine w_mIf ?_ | with_reducible refine w_bnd ?_ | with_reducible refine w_ret ?_ | with_reducible refine b_t ?_ | with_reducible refine b_f ?_ | with_reducible refine b_not ?_ | with_reducible refine w_expr ?_ | with_reducible refine w_sub ?_ | with_reducible refine w_augS ?_ | with_reducible refine w_retN ?_ | with_reducible refine w_lenD ?_ | with_reducible refine w_lenT ?_ | with_reducible refine w_isub ?_ | with_reducible refine w_bk ?_ | with_reducible refine w_ct ?_ | ((with_reducible apply w_mod); (first | decide | assumption | omega)) | ((with_reducible apply w_div); (first | decide | (constructor <;> first | assumption | omega))) | ((with_reducible apply w_mul); (first | exact .inr (by decide) | exact .inl (by decide) | omega)) | ((with_reducible apply w_pow); (decide)) | ((with_reducible apply w_ixL); (first | assumption | exact put_self); (first | exact atI0 | exact atI1 | exact atI2 | exact atI3 | exact atI_map (by omega) (by assumption))) | ((with_reducible apply w_getL); (first | assumption | exact put_self); (first | exact atI0 | exact atI1 | exact atI2 | exact atI3 | exact atI_map (by omega) (by assumption))) | ((with_reducible apply w_setL); (first | assumption | exact put_self); (first | exact ixL0 | exact ixL1 | exact ixL2)) | ((with_reducible apply w_ixD); (first | exact atI0 | exact atI1 | exact atI2 | exact atI3 | exact atI_map (by omega) (by assumption))) | ((with_reducible apply w_lenL); (first | assumption | exact put_self)) | ((with_reducible refine w_ixA ?_ ?_ (allC ?_ ?_)); (first | with_reducible assumption | omega | (simp only [List.length_cons, List.length_nil]; omega)); (first | with_reducible assumption | omega | (simp only [List.length_cons, List.length_nil]; omega))) | with_reducible exact allN | with_reducible refine allC ?_ ?_ | ((with_reducible apply w_ixLA); (first | assumption | exact new_self); (first | with_reducible assumption | omega | (simp only [List.length_cons, List.length_nil]; omega)); (first | with_reducible assumption | omega | (simp only [List.length_cons, List.length_nil]; omega))) | ((with_reducible apply w_addS); (exact tok2 (by (repeat' (first | assumption | exact TOk.lit2 (by decide +kernel) | with_reducible apply TOk.app | with_reducible apply TOk.cut))) (by (repeat' (first | assumption | exact TOk.lit2 (by decide +kernel) | with_reducible apply TOk.app | with_reducible apply TOk.cut))) (by decide))) | ((with_reducible apply w_lenS2); ((repeat' (first | assumption | exact TOk.lit2 (by decide +kernel) | with_reducible apply TOk.app | with_reducible apply TOk.cut))); (decide); (intro _)) | ((with_reducible apply w_cutS); (exact TOk.len (by (repeat' (first | assumption | exact TOk.lit2 (by decide +kernel) | with_reducible apply TOk.app | with_reducible apply TOk.cut))) (by decide))) | with_reducible refine w_slice ?_ | with_reducible refine w_dict0 ?_ | with_reducible refine w_exc0 ?_ | with_reducible refine w_dict ?_ | with_reducible refine w_pairs0 ?_ | with_reducible refine w_pairs ?_ | with_reducible refine w_isi ?_ | with_reducible refine w_abs ?_ | with_reducible refine w_max ?_ | with_reducible refine w_min ?_ | with_reducible refine w_gNm ?_ | with_reducible refine w_gCons ?_ | with_reducible refine w_gNil ?_ | with_reducible refine w_retF ?_ | with_reducible refine w_lcI ?_ | with_reducible refine w_forI ?_ | with_reducible refine w_meth ?_ | (with_reducible refine w_part ?_) | (with_reducible refine w_itRange ?_) | (with_reducible refine w_itList ?_) | (with_reducible refine w_itStr ?_) | (with_reducible refine w_rev ?_) | with_reducible refine e_int ?_ | with_reducible refine e_str ?_ | with_reducible refine e_keyS ?_ | with_reducible refine e_keyI ?_ | with_reducible refine e_tyS ?_ | with_reducible refine e_tt ?_ | ((with_reducible refine e_rng ?_ ?_ ?_); (first | with_reducible assumption | omega | (simp only [List.length_cons, List.length_nil]; omega)); (first | with_reducible assumption | omega | (simp only [List.length_cons, List.length_nil]; omega))) | ((with_reducible apply e_isi); (exact rfl); (first | exact rfl | decide)) | ((with_reducible apply w_mkL); (decide); (exact rfl)) | ((with_reducible apply w_mkLp); (decide); (exact rfl)) | ((with_reducible apply w_mkLc); (decide)) | ((with_reducible apply w_mkT); (decide); (exact rfl)) | ((with_reducible apply w_mkTp); (decide); (exact rfl))))
    exact w_ixSA (by rw [e26]; decide) (by omega) (by omega) (TOk.lit2 (by decide +kernel)).1 fun x hx _ => ⟨⟨_, rfl, x, rfl, hx⟩, by assumption⟩
  · obtain ⟨ss, rfl, hs⟩ := strs_of hp
    have hl2 : ss.length ≤ 11 := by
      unfold Dm.upTo at hl
      rw [List.length_map, List.length_map, List.length_range] at hl
      omega
    (repeat' (first | ((with_reducible apply w_draw_l); (with_reducible assumption); (first | with_reducible assumption | omega | (simp only [List.length_cons, List.length_nil]; omega)); (first | with_reducible assumption | omega | (simp only [List.length_cons, List.length_nil]; omega)); (intro _ _ _ _ _)) | with_reducible refine w_c ?_ | ((with_reducible apply w_var); (exact rfl)) | with_reducible refine w_m2 ?_ | with_reducible refine w_cons ?_ | with_reducible refine w_nil ?_ | with_reducible refine w_mk ?_ | with_reducible refine w_call ?_ | with_reducible refine w_sq ?_ | with_reducible refine w_set ?_ | with_reducible refine w_tst ?_ | with_reducible refine t_b ?_ | with_reducible refine w_if ?_ | with_reducible refine w_nx ?_ | with_reducible refine w_retS ?_ | with_reducible refine w_eqI ?_ | (with_reducible refine b_dec (fun _ => ?_) (fun _ => ?_)) | with_reducible refine w_addI ?_ | with_reducible refine w_sub' ?_ | with_reducible refine w_iadd ?_ | with_reducible refine w_lt ?_ | with_reducible refine w_le ?_ | with_reducible refine w_gt ?_ | with_reducible refine w_ge ?_ | with_reducible refine w_neI ?_ | with_reducible refine w_chain ?_ | with_reducible refine w_and ?_ | with_reducible refine w_or ?_ | with_reducible refine w_not ?_ | with_reducible refine w_andV ?_ | with_reducible refine w_orV ?_ | with_reducible refine w_notV ?_ | with_reducible refine w_mIf ?_ | with_reducible refine w_bnd ?_ | with_reducible refine w_ret ?_ | with_reducible refine b_t ?_ | with_reducible refine b_f ?_ | with_reducible refine b_not ?_ | with_reducible refine w_expr ?_ | with_reducible refine w_sub ?_ | with_reducible refine w_augS ?_ | with_reducible refine w_retN ?_ | with_reducible refine w_lenD ?_ | with_reducible refine w_lenT ?_ | with_reducible refine w_isub ?_ | with_reducible refine w_bk ?_ | with_reducible refine w_ct ?_ | ((with_reducible apply w_mod); (first | decide | assumption | omega)) | ((with_reducible apply w_div); (first | decide | (constructor <;> first | assumption | omega))) | ((with_reducible apply w_mul); (first | exact .inr (by decide) | exact .inl (by decide) | omega)) | ((with_reducible apply w_pow); (decide)) | ((with_reducible apply w_ixL); (first | assumption | exact put_self); (first | exact atI0 | exact atI1 | exact atI2 | exact atI3 | exact atI_map (by omega) (by assumption))) | ((with_reducible apply w_getL); (first | assumption | exact put_self); (first | exact atI0 | exact atI1 | exact atI2 | exact atI3 | exact atI_map (by omega) (by assumption))) | ((with_reducible apply w_setL); (first | assumption | exact put_self); (first | exact ixL0 | exact ixL1 | exact ixL2)) | ((with_reducible apply w_ixD); (first | exact atI0 | exact atI1 | exact atI2 | exact atI3 | exact atI_map (by omega) (by assumption))) | ((with_reducible apply w_lenL); (first | assumption | exact put_self)) | ((with_reducible refine w_ixA ?_ ?_ (allC ?_ ?_)); (first | with_reducible assumption | omega | (simp only [List.length_cons, List.length_nil]; omega)); (first | with_reducible assumption | omega | (simp only [List.length_cons, List.length_nil]; omega))) | with_reducible exact allN | with_reducible refine allC ?_ ?_ | ((with_reducible apply w_ixLA); (first | assumption | exact new_self); (first | with_reducible assumption | omega | (simp only [List.length_cons, List.length_nil]; omega)); (first | with_reducible assumption | omega | (simp only [List.length_cons, List.length_nil]; omega))) | ((with_reducible apply w_addS); (exact tok2 (by (repeat' (first | assumption | exact TOk.lit2 (by decide +kernel) | with_reducible apply TOk.app | with_reducible apply TOk.cut))) (by (repeat' (first | assumption | exact TOk.lit2 (by decide +kernel) | with_reducible apply TOk.app | with_reducible apply TOk.cut))) (by decide))) | ((with_reducible apply w_lenS2); ((repeat' (first | assumption | exact TOk.lit2 (by decide +kernel) | with_reducible apply TOk.app | with_reducible apply TOk.cut))); (decide); (intro _)) | ((with_reducible apply w_cutS); (exact TOk.len (by (repeat' (first | assumption | exact TOk.lit2 (by decide +kernel) | with_reducible apply TOk.app | with_reducible apply TOk.cut))) (by decide))) | with_reducible refine w_slice ?_ | with_reducible refine w_dict0 ?_ | with_reducible refine w_exc0 ?_ | with_reducible refine w_dict ?_ | with_reducible refine w_pairs0 ?_ | with_reducible refine w_pairs ?_ | with_reducible refine w_isi ?_ | with_reducible refine w_abs ?_ | with_reducible refine w_max ?_ | with_reducible refine w_min ?_ | with_reducible refine w_gNm ?_ | with_reducible refine w_gCons ?_ | with_reducible refine w_gNil ?_ | with_reducible refine w_retF ?_ | with_reducible refine w_lcI ?_ | with_reducible refine w_forI ?_ | with_reducible refine w_meth ?_ | (with_reducible refine w_part ?_) | (with_reducible refine w_itRange ?_) | (with_reducible refine w_itList ?_) | (with_reducible refine w_itStr ?_) | (with_reducible refine w_rev ?_) | with_reducible refine e_int ?_ | with_reducible refine e_str ?_ | with_reducible refine e_keyS ?_ | with_reducible refine e_keyI ?_ | with_reducible refine e_tyS ?_ | with_reducible refine e_tt ?_ | ((with_reducible refine e_rng ?_ ?_ ?_); (first | with_reducible assumption | omega | (simp only [List.length_cons, List.length_nil]; omega)); (first | with_reducible assumption | omega | (simp only [List.length_cons, List.length_nil]; omega))) | ((with_reducible apply e_isi); (exact rfl); (first | exact rfl | decide)) | ((with_reducible apply w_mkL); (decide); (exact rfl)) | ((with_reducible apply w_mkLp); (decide); (exact rfl)) | ((with_reducible apply w_mkLc); (decide)) | ((with_reducible apply w_mkT); (decide); (exact rfl)) | ((with_reducible apply w_mkTp); (decide); (exact rfl))))
    exact w_join0 hs (by omega) fun x hx => ⟨x, rfl, hx.mono (by omega), gS.trans S⟩
end Lw

set_option Elab.async false
set_option linter.all false
set_option maxRecDepth 100000
set_option maxHeartbeats 1000000
namespace Dm
open PySem PySem.Spec PyProof.Rows L2
theorem w_sqIfD {P : PyData → Prop} {b : Nat} {s0 : Sto} {gc : Env → M Bool} {fa fb : Env → M MV} {i : Nat} {g : Env → Sto → SRes} {ρ : Env} {st : Sto} {D : Po}
    (h1 : Wp (gc ρ) st (fun k s => Br k (Wp (fa ρ) s (fun v s => ∃ x, v = .d x ∧ P x ∧ Step b s0 s) D.ex) (Wp (fb ρ) s (fun v s => ∃ x, v = .d x ∧ P x ∧ Step b s0 s) D.ex)) D.ex) (h2 : ∀ x s, P x → Step b s0 s → Ws g (ρ.set i (some (.d x))) s D) :
    Ws (sq (sIf gc (sSet i fa) (sSet i fb)) g) ρ st D :=
  w_sqIf _ h1 fun v s ⟨x, e, hx, hS⟩ => by
    rw [e]
    exact h2 x s hx hS
theorem w_new {st : Sto} {E : XP} {Qv : MV → Sto → Prop} {o : MO} (h : Qv (.c st.n) (st.new o)) : Wp (mNew o) st Qv E := h
theorem e_dict {st : Sto} {ps : List (Key × MV)} {A : Prop} (hl : ps.length ≤ 15) (h : A) : (st.new (.dic [])).o st.n = some (.dic []) ∧ ps.length ≤ 15 ∧ A := ⟨new_self, hl, h⟩
end Dm
namespace Lw
open PySem PySem.Spec PyProof.Rows L2 Dm
theorem w_text_l {s0 st : Sto} {b : Nat} {Q : MV → Sto → Prop} {E : XP} (S : Step b s0 st) (h : ∀ x s, TOk x 1000 → Step b s0 s → Q (.d (.str x)) s) : Wp (m_law_text [.c b]) st Q E :=
  (text_ok S.bag).then fun v s z => by
    obtain ⟨x, rfl, h1, h2⟩ := z
    exact h x s h1 (S.trans h2)
/-- what is shown shortly -/
def Sh (d : PyData) : Prop := d.canLay0 = true ∧ d.showable = true ∧ d.shown.length ≤ 100000 ∧ d.depth ≤ 10
def OthD : PyData → Prop
  | .none => True
  | .bool _ => True
  | .list _ => True
  | .tuple _ => True
  | _ => False
def Oth (lo : Nat) (s : Sto) (t : MV) : Prop := (∃ d, t = .d d ∧ Sh d ∧ OthD d) ∨ ∃ i, t = .c i ∧ lo ≤ i ∧ i < s.n ∧ (s.o i = some (.dic []) ∨ (∃ d, Sh d ∧ s.o i = some (.dic [(.inr "a", .d d)])) ∨ s.o i = some (.exc0 "NoRow"))
def Kd (lo : Nat) (s : Sto) (k : Str) (t : MV) : Prop := (k = "whole" ∧ ∃ i : Int, t = .d (.int i) ∧ i.natAbs ≤ 1000000000000000000000000000000000000000000000000) ∨ (k = "text" ∧ ∃ x, t = .d (.str x) ∧ TOk x 1000) ∨ (k = "other" ∧ Oth lo s t)
def TH (lo : Nat) (s : Sto) (z : MV) : Prop := ∃ k t, TV lo s z [.d (.str k), t] ∧ Kd lo s k t
theorem Oth.keep {lo : Nat} {s s' : Sto} {t : MV} (h : Oth lo s t) (a : Above lo s s') : Oth lo s' t := by
  rcases h with h | ⟨i, e, h1, h2, h3⟩
  · exact .inl h
  · exact .inr ⟨i, e, h1, Nat.lt_of_lt_of_le h2 a.n, by rw [a.o i h1 h2]; exact h3⟩
theorem TH.keep {lo : Nat} {s s' : Sto} {z : MV} (h : TH lo s z) (a : Above lo s s') : TH lo s' z := by
  obtain ⟨k, t, h1, h2⟩ := h
  refine ⟨k, t, h1.keep a, ?_⟩
  rcases h2 with h2 | h2 | ⟨h2, h3⟩
  · exact .inl h2
  · exact .inr (.inl h2)
  · exact .inr (.inr ⟨h2, h3.keep a⟩)
theorem TH.mono {lo lo' : Nat} {s : Sto} {z : MV} (h : TH lo' s z) (l : lo ≤ lo') : TH lo s z := by
  obtain ⟨k, t, h1, h2⟩ := h
  refine ⟨k, t, h1.mono l, ?_⟩
  rcases h2 with h2 | h2 | ⟨h2, h3⟩
  · exact .inl h2
  · exact .inr (.inl h2)
  · rcases h3 with h3 | ⟨i, e, h4, h5⟩
    · exact .inr (.inr ⟨h2, .inl h3⟩)
    · exact .inr (.inr ⟨h2, .inr ⟨i, e, Nat.le_trans l h4, h5⟩⟩)
def Part (d : PyData) : Prop := (∃ i : Int, d = .int i ∧ i.natAbs ≤ 1000000000000000000000000000000000000000000000000) ∨ ∃ x, d = .str x ∧ TOk x 1000
theorem len_list1 (t : Str) : (listText [t]).length = t.length + 2 := by
  show ((("[" : Str) ++ ("" : Str) ++ t) ++ ("]" : Str)).length = _
  rw [strLen_append, strLen_append, strLen_append, PySem.ofString_length, PySem.ofString_length, PySem.ofString_length]
  show 1 + 0 + t.length + 1 = _
  omega
theorem len_tuple1 (t : Str) : (tupleText [t]).length = t.length + 3 := by
  show ((("(" : Str) ++ t) ++ (",)" : Str)).length = _
  rw [strLen_append, strLen_append, PySem.ofString_length, PySem.ofString_length]
  show 1 + t.length + 2 = _
  omega
def Shn (n m : Nat) (d : PyData) : Prop := d.canLay0 = true ∧ d.showable = true ∧ d.shown.length ≤ n ∧ d.depth ≤ m
theorem Shn.sh {n m : Nat} {d : PyData} (h : Shn n m d) (h1 : n ≤ 100000) (h2 : m ≤ 10) : Sh d := ⟨h.1, h.2.1, Nat.le_trans h.2.2.1 h1, Nat.le_trans h.2.2.2 h2⟩
theorem shn_part {d : PyData} (h : Part d) : Shn 11000 0 d := by
  rcases h with ⟨i, rfl, hi⟩ | ⟨x, rfl, hx⟩
  · have hl : i.natAbs.log2 < 1920 := by
      have h1 : i.natAbs < 2 ^ 200 := Nat.lt_of_le_of_lt hi (by decide)
      exact Nat.lt_of_lt_of_le (PySem.Flt.log2_lt_of (by decide) h1) (by decide)
    refine ⟨by simp [PyData.canLay0], by simpa [PyData.showable] using hl, ?_, by simp [PyData.depth]⟩
    simp only [PyData.shown]
    exact Nat.le_trans (TOk.int hl).2 (by decide)
  · refine ⟨by simpa [PyData.canLay0] using hx.1, by simp [PyData.showable], ?_, by simp [PyData.depth]⟩
    simp only [PyData.shown]
    exact Nat.le_trans hx.repr.2 (by decide)
theorem shn_list {n m : Nat} {d : PyData} (h : Shn n m d) : Shn (n + 3) (m + 1) (.list [d]) := by
  obtain ⟨h1, h2, h3, h4⟩ := h
  refine ⟨by simp [PyData.canLay0, PyData.canLayAll0, h1], by simp [PyData.showable, PyData.showableAll, h2], ?_, by simp only [PyData.depth, PyData.depthAll]; omega⟩
  simp only [PyData.shown, PyData.shownAll]
  rw [len_list1]; omega
theorem shn_tuple {n m : Nat} {d : PyData} (h : Shn n m d) : Shn (n + 3) (m + 1) (.tuple [d]) := by
  obtain ⟨h1, h2, h3, h4⟩ := h
  refine ⟨by simp [PyData.canLay0, PyData.canLayAll0, h1], by simp [PyData.showable, PyData.showableAll, h2], ?_, by simp only [PyData.depth, PyData.depthAll]; omega⟩
  simp only [PyData.shown, PyData.shownAll]
  rw [len_tuple1]; omega
theorem sh_none : Sh .none := ⟨by simp [PyData.canLay0], by simp [PyData.showable], by simp only [PyData.shown]; rw [PySem.ofString_length]; decide, by simp [PyData.depth]⟩
theorem sh_bool (b : Bool) : Sh (.bool b) := ⟨by simp [PyData.canLay0], by simp [PyData.showable], by simp only [PyData.shown]; cases b <;> (simp only [if_true, if_false, Bool.false_eq_true]; rw [PySem.ofString_length]; decide), by simp [PyData.depth]⟩
theorem sh_list0 : Sh (.list []) := ⟨by simp [PyData.canLay0, PyData.canLayAll0], by simp [PyData.showable, PyData.showableAll], by simp only [PyData.shown, PyData.shownAll]; rw [listText_nil, PySem.ofString_length]; decide, by simp [PyData.depth, PyData.depthAll]⟩
theorem sh_tuple0 : Sh (.tuple []) := ⟨by simp [PyData.canLay0, PyData.canLayAll0], by simp [PyData.showable, PyData.showableAll], by
  simp only [PyData.shown, PyData.shownAll]
  show ((("(" : Str) ++ Str.empty) ++ (")" : Str)).length ≤ _
  rw [strLen_append, strLen_append, PySem.ofString_length, PySem.ofString_length]
  show 1 + 0 + 1 ≤ _
  omega, by simp [PyData.depth, PyData.depthAll]⟩
theorem th_data {b lo : Nat} {st s : Sto} {d : PyData} (h : Sh d) (ho : OthD d) (S : Step b st s) : TH lo s (.d (.tuple [.str "other", d])) ∧ Step b st s :=
  ⟨⟨_, .d d, ⟨rfl, fun i e => by cases e⟩, .inr (.inr ⟨rfl, .inl ⟨d, rfl, h, ho⟩⟩)⟩, S⟩
theorem th_place {b lo i j : Nat} {st s : Sto} (h1 : s.o i = some (.tup [.d (.str "other"), .c j])) (h2 : lo ≤ i) (h3 : i < s.n) (h4 : lo ≤ j) (h5 : j < s.n)
    (h : s.o j = some (.dic []) ∨ (∃ d, Sh d ∧ s.o j = some (.dic [(.inr "a", .d d)])) ∨ s.o j = some (.exc0 "NoRow")) (S : Step b st s) : TH lo s (.c i) ∧ Step b st s :=
  ⟨⟨_, .c j, ⟨by show (match s.o i with | some (.tup xs) => some xs | _ => none) = _; rw [h1], fun k e => by cases e; exact ⟨h2, h3⟩⟩, .inr (.inr ⟨rfl, .inr ⟨j, rfl, h4, h5, h⟩⟩)⟩, S⟩
theorem thing_ok {b : Nat} {st : Sto} (hB : Bag st b) : Wp (m_law_thing [.c b]) st (fun v s => TH st.n s v ∧ Step b st s) noX := by
  have S0 := Step.refl hB
  refine w_fn rfl ?_
  unfold b_law_thing
  (repeat' (first | (with_reducible refine w_sqIfD (P := Part) (b := b) (s0 := st) ?_ (fun _ _ _ _ => ?_)) | ((with_reducible apply w_number_l); (with_reducible assumption); (intro _ _ _ _)) | ((with_reducible apply w_text_l); (with_reducible assumption); (intro _ _ _ _)) | ((with_reducible refine e_dict ?_ ?_); (exact Nat.le_of_ble_eq_true rfl)) | with_reducible refine w_c ?_ | ((with_reducible apply w_var); (exact rfl)) | with_reducible refine w_m2 ?_ | with_reducible refine w_cons ?_ | with_reducible refine w_nil ?_ | with_reducible refine w_mk ?_ | with_reducible refine w_call ?_ | with_reducible refine w_sq ?_ | with_reducible refine w_set ?_ | with_reducible refine w_tst ?_ | with_reducible refine t_b ?_ | with_reducible refine w_if ?_ | with_reducible refine w_nx ?_ | with_reducible refine w_retS ?_ | with_reducible refine w_eqI ?_ | (with_reducible refine b_dec (fun _ => ?_) (fun _ => ?_)) | with_reducible refine w_addI ?_ | with_reducible refine w_sub' ?_ | with_reducible refine w_iadd ?_ | with_reducible refine w_lt ?_ | with_reducible refine w_le ?_ | with_reducible refine w_gt ?_ | with_reducible refine w_ge ?_ | with_reducible refine w_neI ?_ | with_reducible refine w_chain ?_ | with_reducible refine w_and ?_ | with_reducible refine w_or ?_ | with_reducible refine w_not ?_ | with_reducible refine w_andV ?_ | with_reducible refine w_orV ?_ | with_reducible refine w_notV ?_ | with_reducible refine w_mIf ?_ | with_reducible refine w_bnd ?_ | with_reducible refine w_ret ?_ | with_reducible refine b_t ?_ | with_reducible refine b_f ?_ | with_reducible refine b_not ?_ | with_reducible refine w_expr ?_ | with_reducible refine w_sub ?_ | with_reducible refine w_augS ?_ | with_reducible refine w_retN ?_ | with_reducible refine w_lenD ?_ | with_reducible refine w_lenT ?_ | with_reducible refine w_isub ?_ | with_reducible refine w_bk ?_ | with_reducible refine w_ct ?_ | ((with_reducible apply w_mod); (first | decide | assumption | omega)) | ((with_reducible apply w_div); (first | decide | (constructor <;> first | assumption | omega))) | ((with_reducible apply w_mul); (first | exact .inr (by decide) | exact .inl (by decide) | omega)) | ((with_reducible apply w_pow); (decide)) | ((with_reducible apply w_ixL); (first | assumption | exact put_self); (first | exact atI0 | exact atI1 | exact atI2 | exact atI3 | exact atI_map (by omega) (by assumption))) | ((with_reducible apply w_getL); (first | assumption | exact put_self); (first | exact atI0 | exact atI1 | exact atI2 | exact atI3 | exact atI_map (by omega) (by assumption))) | ((with_reducible apply w_setL); (first | assumption | exact put_self); (first | exact ixL0 | exact ixL1 | exact ixL2)) | ((with_reducible apply w_ixD); (first | exact atI0 | exact atI1 | exact atI2 | exact atI3 | exact atI_map (by omega) (by assumption))) | ((with_reducible apply w_lenL); (first | assumption | exact put_self)) | ((with_reducible apply w_draw_l); (with_reducible assumption); (first | with_reducible assumption | omega | (simp only [List.length_cons, List.length_nil]; omega)); (first | with_reducible assumption | omega | (simp only [List.length_cons, List.length_nil]; omega)); (intro _ _ _ _ _)) | ((with_reducible refine w_ixA ?_ ?_ (allC ?_ ?_)); (first | with_reducible assumption | omega | (simp only [List.length_cons, List.length_nil]; omega)); (first | with_reducible assumption | omega | (simp only [List.length_cons, List.length_nil]; omega))) | with_reducible exact allN | with_reducible refine allC ?_ ?_ | ((with_reducible apply w_ixLA); (first | assumption | exact new_self); (first | with_reducible assumption | omega | (simp only [List.length_cons, List.length_nil]; omega)); (first | with_reducible assumption | omega | (simp only [List.length_cons, List.length_nil]; omega))) | ((with_reducible apply w_addS); (exact tok2 (by (repeat' (first | assumption | exact TOk.lit2 (by decide +kernel) | with_reducible apply TOk.app | with_reducible apply TOk.cut))) (by (repeat' (first | assumption | exact TOk.lit2 (by decide +kernel) | with_reducible apply TOk.app | with_reducible apply TOk.cut))) (by decide))) | ((with_reducible apply w_lenS2); ((repeat' (first | assumption | exact TOk.lit2 (by decide +kernel) | with_reducible apply TOk.app | with_reducible apply TOk.cut))); (decide); (intro _)) | ((with_reducible apply w_cutS); (exact TOk.len (by (repeat' (first | assumption | exact TOk.lit2 (by decide +kernel) | with_reducible apply TOk.app | with_reducible apply TOk.cut))) (by decide))) | with_reducible refine w_slice ?_ | with_reducible refine w_new ?_ | with_reducible refine w_dict0 ?_ | with_reducible refine w_exc0 ?_ | with_reducible refine w_dict ?_ | with_reducible refine w_pairs0 ?_ | with_reducible refine w_pairs ?_ | with_reducible refine w_isi ?_ | with_reducible refine w_abs ?_ | with_reducible refine w_max ?_ | with_reducible refine w_min ?_ | with_reducible refine w_gNm ?_ | with_reducible refine w_gCons ?_ | with_reducible refine w_gNil ?_ | with_reducible refine w_retF ?_ | with_reducible refine w_lcI ?_ | with_reducible refine w_forI ?_ | with_reducible refine w_meth ?_ | (with_reducible refine w_part ?_) | (with_reducible refine w_itRange ?_) | (with_reducible refine w_itList ?_) | (with_reducible refine w_itStr ?_) | (with_reducible refine w_rev ?_) | with_reducible refine e_int ?_ | with_reducible refine e_str ?_ | with_reducible refine e_keyS ?_ | with_reducible refine e_keyI ?_ | with_reducible refine e_tyS ?_ | with_reducible refine e_tt ?_ | ((with_reducible refine e_rng ?_ ?_ ?_); (first | with_reducible assumption | omega | (simp only [List.length_cons, List.length_nil]; omega)); (first | with_reducible assumption | omega | (simp only [List.length_cons, List.length_nil]; omega))) | ((with_reducible apply e_isi); (exact rfl); (first | exact rfl | decide)) | ((with_reducible apply w_mkL); (exact Nat.le_of_ble_eq_true rfl); (exact rfl)) | ((with_reducible apply w_mkLp); (exact Nat.le_of_ble_eq_true rfl); (exact rfl)) | ((with_reducible apply w_mkLc); (exact Nat.le_of_ble_eq_true rfl)) | ((with_reducible apply w_mkT); (exact Nat.le_of_ble_eq_true rfl); (exact rfl)) | ((with_reducible apply w_mkTp); (exact Nat.le_of_ble_eq_true rfl); (exact rfl))))
  all_goals try exact ⟨_, rfl, .inl ⟨_, rfl, by assumption⟩, by assumption⟩
  all_goals try exact ⟨_, rfl, .inr ⟨_, rfl, by assumption⟩, by assumption⟩
  all_goals try exact ⟨⟨_, _, ⟨rfl, fun i e => by cases e⟩, .inl ⟨rfl, _, rfl, by assumption⟩⟩, by assumption⟩
  all_goals try exact ⟨⟨_, _, ⟨rfl, fun i e => by cases e⟩, .inr (.inl ⟨rfl, _, rfl, by assumption⟩)⟩, by assumption⟩
  · exact th_data sh_none trivial (by assumption)
  · exact th_data (sh_bool true) trivial (by assumption)
  · exact th_data (sh_bool false) trivial (by assumption)
  all_goals rename_i k1 s1 h1 h2 h3 n1 n2 n3 k s2 h4 h5 h6 p s hp hS
  all_goals have hn := hS.n
  all_goals have hb := hB.1
  all_goals have hq := shn_part hp
  · exact th_data ((shn_list hq).sh (by decide) (by decide)) trivial (by repeat' (first | exact hS | apply Step.new | (refine Step.put_d ?_ hb hn)))
  · exact th_data ((shn_tuple hq).sh (by decide) (by decide)) trivial (by repeat' (first | exact hS | apply Step.new | (refine Step.put_d ?_ hb hn)))
  · exact th_place new_self (by first | omega | (simp only [new_n, put_n]; omega)) (by first | omega | (simp only [new_n, put_n]; omega)) (by first | omega | (simp only [new_n, put_n]; omega)) (by first | omega | (simp only [new_n, put_n]; omega)) (.inr (.inl ⟨p, hq.sh (by decide) (by decide), by simp [Sto.new, Sto.put]; rw [if_neg (by omega), if_neg (by omega), if_neg (by omega)]; rfl⟩)) (by repeat' (first | exact hS | apply Step.new | (refine Step.put_d ?_ hb hn)))
  · exact th_data sh_list0 trivial (by repeat' (first | exact hS | apply Step.new | (refine Step.put_d ?_ hb hn)))
  · exact th_data sh_tuple0 trivial (by repeat' (first | exact hS | apply Step.new | (refine Step.put_d ?_ hb hn)))
  · exact th_place new_self (by first | omega | (simp only [new_n, put_n]; omega)) (by first | omega | (simp only [new_n, put_n]; omega)) (by first | omega | (simp only [new_n, put_n]; omega)) (by first | omega | (simp only [new_n, put_n]; omega)) (.inl (by simp [Sto.new, Sto.put] <;> (rw [if_neg (by omega), if_neg (by omega), if_neg (by omega)]))) (by repeat' (first | exact hS | apply Step.new | (refine Step.put_d ?_ hb hn)))
  · exact th_data ((shn_list (shn_list hq)).sh (by decide) (by decide)) trivial (by repeat' (first | exact hS | apply Step.new | (refine Step.put_d ?_ hb hn)))
  · exact th_place new_self (by first | omega | (simp only [new_n, put_n]; omega)) (by first | omega | (simp only [new_n, put_n]; omega)) (by first | omega | (simp only [new_n, put_n]; omega)) (by first | omega | (simp only [new_n, put_n]; omega)) (.inr (.inr (by simp [Sto.new, Sto.put] <;> (rw [if_neg (by omega), if_neg (by omega)])))) (by repeat' (first | exact hS | apply Step.new | (refine Step.put_d ?_ hb hn)))
end Lw

set_option Elab.async false
set_option linter.all false
set_option maxRecDepth 100000
set_option maxHeartbeats 1000000
namespace Dm
open PySem PySem.Spec PyProof.Rows L2
section
variable {st : Sto} {E : XP} {Qv : MV → Sto → Prop}
theorem w_eqSt {i j : Str} (h : i = j) (h1 : PyData.strOk i = true) (q : Qv (.d (.bool true)) st) : Wp (mEq (.d (.str i)) (.d (.str j))) st Qv E :=
  w_eqS h1 (h ▸ h1) (by rw [decide_eq_true h]; exact q)
theorem w_eqSf {i j : Str} (h : ¬ i = j) (h1 : PyData.strOk i = true) (h2 : PyData.strOk j = true) (q : Qv (.d (.bool false)) st) : Wp (mEq (.d (.str i)) (.d (.str j))) st Qv E :=
  w_eqS h1 h2 (by rw [decide_eq_false h]; exact q)
theorem w_notinS {c : Nat} {z : Str} (h : Qv (.d (.bool (!decide (c ∈ z.cps.toList)))) st) : Wp (mNotIn (.d (.str ⟨#[c]⟩)) (.d (.str z))) st Qv E := h
theorem w_in2 {x a b : Str} (h : Qv (.d (.bool (decide (a = x) || decide (b = x)))) st) : Wp (mIn (.d (.str x)) (.d (.tuple [.str a, .str b]))) st Qv E := by
  have e : [PyData.str a, .str b].any (fun e => PyData.eqv e (.str x)) = (decide (a = x) || decide (b = x)) := by
    simp only [List.any_cons, List.any_nil, eqv_ss, Bool.or_false]
  show Qv (.d (.bool ([PyData.str a, .str b].any (fun e => PyData.eqv e (.str x))))) st
  rw [e]
  exact h
theorem w_sqV {fa : Env → M MV} {i : Nat} {g : Env → Sto → SRes} {ρ : Env} {D : Po} (I : MV → Sto → Prop) (h1 : Wp (fa ρ) st I D.ex) (h2 : ∀ v s, I v s → Ws g (ρ.set i (some v)) s D) : Ws (sq (sSet i fa) g) ρ st D :=
  w_sq (w_set (h1.imp h2 fun _ _ _ z => z))
end
theorem signs_at {x : Str} {i : Nat} {y : M MV} (e : ((Dm.signs x).map fun z => (ret z : M MV))[i]? = some y) : ∃ c, x.cps.toList[i]? = some c ∧ y = ret (.d (.str ⟨#[c]⟩)) := by
  unfold Dm.signs at e
  rw [List.map_map, List.getElem?_map] at e
  cases q : x.cps.toList[i]? with
  | none => rw [q] at e; cases e
  | some c => rw [q] at e; cases e; exact ⟨c, rfl, rfl⟩
end Dm
namespace Lw
open PySem PySem.Spec PyProof.Rows L2 Dm
abbrev abc : Str := "abcdefghijklmnopqrstuvwxyz"
def nm (x : Str) : Bool := decide (1 ≤ x.length) && decide (x.length ≤ 8) && x.cps.toList.all fun c => decide (c ∈ abc.cps.toList)
def opn (x : Str) : Bool := decide (Str.ofString "open" = x) || decide (Str.ofString "shut" = x)
def bsOf : MV → List Bool
  | .d (.int i) => [true, false, decide (0 ≤ i) && decide (i ≤ 99), decide (0 ≤ i) && decide (i ≤ 1000000000), false]
  | .d (.str x) => [false, nm x, false, false, opn x]
  | _ => [false, false, false, false, false]
theorem nm_f1 {x : Str} (h : (x.length : Int) < 1) : nm x = false := by
  unfold nm
  rw [decide_eq_false (by omega)]
  rfl
theorem nm_f2 {x : Str} (h : 8 < (x.length : Int)) : nm x = false := by
  unfold nm
  rw [decide_eq_false (p := x.length ≤ 8) (by omega), Bool.and_false]
  rfl
theorem nm_t {x : Str} (h : 1 ≤ (x.length : Int)) (h2 : (x.length : Int) ≤ 8) : nm x = x.cps.toList.all fun c => decide (c ∈ abc.cps.toList) := by
  unfold nm
  rw [decide_eq_true (p := 1 ≤ x.length) (by omega), decide_eq_true (p := x.length ≤ 8) (by omega)]
  rfl
theorem shaped_strs {ss : List Str} (h : ∀ s ∈ ss, PyData.strOk s = true) : SeqAt.shaped (.list (ss.map .str)) = true := by
  have h1 : ∀ {ss : List Str}, (∀ s ∈ ss, PyData.strOk s = true) → PyData.canLayAll0 (ss.map .str) = true ∧ PyData.depthAll (ss.map .str) = 0 := by
    intro ss
    induction ss with
    | nil => exact fun _ => ⟨by simp [PyData.canLayAll0], by simp [PyData.depthAll]⟩
    | cons s ss ih =>
      intro h
      obtain ⟨h1, h2⟩ := ih fun s hs => h s (List.mem_cons_of_mem _ hs)
      refine ⟨?_, ?_⟩
      · rw [List.map_cons, PyData.canLayAll0, h1]
        simp [PyData.canLay0, h s List.mem_cons_self]
      · rw [List.map_cons, PyData.depthAll, h2]
        simp [PyData.depth]
  obtain ⟨h1, h2⟩ := h1 h
  unfold SeqAt.shaped
  simp only [PyData.canLay0, PyData.depth, h1, h2]
  decide
def pOut : MV → Bool := fun v => match v with | .d (.str a) => a.cps.toList.all fun c => !decide (c ∈ abc.cps.toList) | _ => false
def fOut : MV → PyData := fun v => match v with | .d d => d | _ => .none
theorem signs_kept {x : Str} : ((Dm.signs x).filter pOut).map fOut = ((x.cps.toList.filter fun c => !decide (c ∈ abc.cps.toList)).map fun c => (⟨#[c]⟩ : Str)).map .str := by
  have e : ∀ c : Nat, pOut (.d (.str ⟨#[c]⟩)) = !decide (c ∈ abc.cps.toList) := fun c => by
    show ([c].all fun c => !decide (c ∈ abc.cps.toList)) = _
    rw [List.all_cons, List.all_nil, Bool.and_true]
  unfold Dm.signs
  rw [List.filter_map, List.map_map, List.map_map]
  congr 1
  exact List.filter_congr fun c _ => e c
theorem eqv_nil {ss : List Str} : PyData.eqv (.list (ss.map .str)) (.list []) = ss.isEmpty := by
  cases ss <;> simp [PyData.eqv, PyData.eqvAll]
theorem all_filter {l : List Nat} {p : Nat → Bool} {f : Nat → Str} : ((l.filter fun c => !p c).map f).isEmpty = l.all p := by
  induction l with
  | nil => rfl
  | cons a l ih =>
    rw [List.filter_cons, List.all_cons]
    cases h : p a
    · simp
    · simpa using ih
theorem due_whole {st : Sto} (i : Int) : Wp (m_law_due [.d (.str "whole"), .d (.int i)]) st (fun v s => v = .d (.list ((bsOf (.d (.int i))).map .bool)) ∧ Above 0 st s) noX := by
  have e9 : (10 : Int) ^ Int.toNat 9 = 1000000000 := by decide
  refine w_fn rfl ?_
  unfold b_law_due
  (repeat' (first | ((with_reducible apply w_eqSt); (decide +kernel); (exact ok_ofString _)) | ((with_reducible apply w_eqSf); (decide +kernel); (exact ok_ofString _); (exact ok_ofString _)) | with_reducible refine w_c ?_ | ((with_reducible apply w_var); (exact rfl)) | with_reducible refine w_m2 ?_ | with_reducible refine w_cons ?_ | with_reducible refine w_nil ?_ | with_reducible refine w_mk ?_ | with_reducible refine w_call ?_ | with_reducible refine w_sq ?_ | with_reducible refine w_set ?_ | with_reducible refine w_tst ?_ | with_reducible refine t_b ?_ | with_reducible refine w_if ?_ | with_reducible refine w_nx ?_ | with_reducible refine w_retS ?_ | with_reducible refine w_eqI ?_ | (with_reducible refine b_dec (fun _ => ?_) (fun _ => ?_)) | with_reducible refine w_addI ?_ | with_reducible refine w_sub' ?_ | with_reducible refine w_iadd ?_ | with_reducible refine w_lt ?_ | with_reducible refine w_le ?_ | with_reducible refine w_gt ?_ | with_reducible refine w_ge ?_ | with_reducible refine w_neI ?_ | with_reducible refine w_chain ?_ | with_reducible refine w_and ?_ | with_reducible refine w_or ?_ | with_reducible refine w_not ?_ | with_reducible refine w_andV ?_ | with_reducible refine w_orV ?_ | with_reducible refine w_notV ?_ | with_reducible refine w_mIf ?_ | with_reducible refine w_bnd ?_ | with_reducible refine w_ret ?_ | with_reducible refine b_t ?_ | with_reducible refine b_f ?_ | with_reducible refine b_not ?_ | with_reducible refine w_expr ?_ | with_reducible refine w_sub ?_ | with_reducible refine w_augS ?_ | with_reducible refine w_retN ?_ | with_reducible refine w_lenD ?_ | with_reducible refine w_lenT ?_ | with_reducible refine w_isub ?_ | with_reducible refine w_bk ?_ | with_reducible refine w_ct ?_ | ((with_reducible apply w_mod); (first | decide | assumption | omega)) | ((with_reducible apply w_div); (first | decide | (constructor <;> first | assumption | omega))) | ((with_reducible apply w_mul); (first | exact .inr (by decide) | exact .inl (by decide) | omega)) | ((with_reducible apply w_pow); (decide)) | ((with_reducible apply w_ixL); (first | assumption | exact put_self); (first | exact atI0 | exact atI1 | exact atI2 | exact atI3 | exact atI_map (by omega) (by assumption))) | ((with_reducible apply w_getL); (first | assumption | exact put_self); (first | exact atI0 | exact atI1 | exact atI2 | exact atI3 | exact atI_map (by omega) (by assumption))) | ((with_reducible apply w_setL); (first | assumption | exact put_self); (first | exact ixL0 | exact ixL1 | exact ixL2)) | ((with_reducible apply w_ixD); (first | exact atI0 | exact atI1 | exact atI2 | exact atI3 | exact atI_map (by omega) (by assumption))) | ((with_reducible apply w_lenL); (first | assumption | exact put_self)) | ((with_reducible apply w_draw_l); (with_reducible assumption); (first | with_reducible assumption | omega | (simp only [List.length_cons, List.length_nil]; omega)); (first | with_reducible assumption | omega | (simp only [List.length_cons, List.length_nil]; omega)); (intro _ _ _ _ _)) | ((with_reducible refine w_ixA ?_ ?_ (allC ?_ ?_)); (first | with_reducible assumption | omega | (simp only [List.length_cons, List.length_nil]; omega)); (first | with_reducible assumption | omega | (simp only [List.length_cons, List.length_nil]; omega))) | with_reducible exact allN | with_reducible refine allC ?_ ?_ | ((with_reducible apply w_ixLA); (first | assumption | exact new_self); (first | with_reducible assumption | omega | (simp only [List.length_cons, List.length_nil]; omega)); (first | with_reducible assumption | omega | (simp only [List.length_cons, List.length_nil]; omega))) | ((with_reducible apply w_addS); (exact tok2 (by (repeat' (first | assumption | exact TOk.lit2 (by decide +kernel) | with_reducible apply TOk.app | with_reducible apply TOk.cut))) (by (repeat' (first | assumption | exact TOk.lit2 (by decide +kernel) | with_reducible apply TOk.app | with_reducible apply TOk.cut))) (by decide))) | ((with_reducible apply w_lenS2); ((repeat' (first | assumption | exact TOk.lit2 (by decide +kernel) | with_reducible apply TOk.app | with_reducible apply TOk.cut))); (decide); (intro _)) | ((with_reducible apply w_cutS); (exact TOk.len (by (repeat' (first | assumption | exact TOk.lit2 (by decide +kernel) | with_reducible apply TOk.app | with_reducible apply TOk.cut))) (by decide))) | with_reducible refine w_slice ?_ | with_reducible refine w_dict0 ?_ | with_reducible refine w_exc0 ?_ | with_reducible refine w_dict ?_ | with_reducible refine w_pairs0 ?_ | with_reducible refine w_pairs ?_ | with_reducible refine w_isi ?_ | with_reducible refine w_abs ?_ | with_reducible refine w_max ?_ | with_reducible refine w_min ?_ | with_reducible refine w_gNm ?_ | with_reducible refine w_gCons ?_ | with_reducible refine w_gNil ?_ | with_reducible refine w_retF ?_ | with_reducible refine w_lcI ?_ | with_reducible refine w_forI ?_ | with_reducible refine w_meth ?_ | (with_reducible refine w_part ?_) | (with_reducible refine w_itRange ?_) | (with_reducible refine w_itList ?_) | (with_reducible refine w_itStr ?_) | (with_reducible refine w_rev ?_) | with_reducible refine e_int ?_ | with_reducible refine e_str ?_ | with_reducible refine e_keyS ?_ | with_reducible refine e_keyI ?_ | with_reducible refine e_tyS ?_ | with_reducible refine e_tt ?_ | ((with_reducible refine e_rng ?_ ?_ ?_); (first | with_reducible assumption | omega | (simp only [List.length_cons, List.length_nil]; omega)); (first | with_reducible assumption | omega | (simp only [List.length_cons, List.length_nil]; omega))) | ((with_reducible apply e_isi); (exact rfl); (first | exact rfl | decide)) | ((with_reducible apply w_mkL); (decide); (exact rfl)) | ((with_reducible apply w_mkLp); (decide); (exact rfl)) | ((with_reducible apply w_mkLc); (decide)) | ((with_reducible apply w_mkT); (decide); (exact rfl)) | ((with_reducible apply w_mkTp); (decide); (exact rfl))))
  all_goals refine ⟨?_, .refl⟩
  all_goals simp_all [bsOf]
  all_goals omega
theorem due_other {st : Sto} (t : MV) (h : bsOf t = [false, false, false, false, false]) : Wp (m_law_due [.d (.str "other"), t]) st (fun v s => v = .d (.list ((bsOf t).map .bool)) ∧ Above 0 st s) noX := by
  refine w_fn rfl ?_
  unfold b_law_due
  (repeat' (first | ((with_reducible apply w_eqSt); (decide +kernel); (exact ok_ofString _)) | ((with_reducible apply w_eqSf); (decide +kernel); (exact ok_ofString _); (exact ok_ofString _)) | with_reducible refine w_c ?_ | ((with_reducible apply w_var); (exact rfl)) | with_reducible refine w_m2 ?_ | with_reducible refine w_cons ?_ | with_reducible refine w_nil ?_ | with_reducible refine w_mk ?_ | with_reducible refine w_call ?_ | with_reducible refine w_sq ?_ | with_reducible refine w_set ?_ | with_reducible refine w_tst ?_ | with_reducible refine t_b ?_ | with_reducible refine w_if ?_ | with_reducible refine w_nx ?_ | with_reducible refine w_retS ?_ | with_reducible refine w_eqI ?_ | (with_reducible refine b_dec (fun _ => ?_) (fun _ => ?_)) | with_reducible refine w_addI ?_ | with_reducible refine w_sub' ?_ | with_reducible refine w_iadd ?_ | with_reducible refine w_lt ?_ | with_reducible refine w_le ?_ | with_reducible refine w_gt ?_ | with_reducible refine w_ge ?_ | with_reducible refine w_neI ?_ | with_reducible refine w_chain ?_ | with_reducible refine w_and ?_ | with_reducible refine w_or ?_ | with_reducible refine w_not ?_ | with_reducible refine w_andV ?_ | with_reducible refine w_orV ?_ | with_reducible refine w_notV ?_ | with_reducible refine w_mIf ?_ | with_reducible refine w_bnd ?_ | with_reducible refine w_ret ?_ | with_reducible refine b_t ?_ | with_reducible refine b_f ?_ | with_reducible refine b_not ?_ | with_reducible refine w_expr ?_ | with_reducible refine w_sub ?_ | with_reducible refine w_augS ?_ | with_reducible refine w_retN ?_ | with_reducible refine w_lenD ?_ | with_reducible refine w_lenT ?_ | with_reducible refine w_isub ?_ | with_reducible refine w_bk ?_ | with_reducible refine w_ct ?_ | ((with_reducible apply w_mod); (first | decide | assumption | omega)) | ((with_reducible apply w_div); (first | decide | (constructor <;> first | assumption | omega))) | ((with_reducible apply w_mul); (first | exact .inr (by decide) | exact .inl (by decide) | omega)) | ((with_reducible apply w_pow); (decide)) | ((with_reducible apply w_ixL); (first | assumption | exact put_self); (first | exact atI0 | exact atI1 | exact atI2 | exact atI3 | exact atI_map (by omega) (by assumption))) | ((with_reducible apply w_getL); (first | assumption | exact put_self); (first | exact atI0 | exact atI1 | exact atI2 | exact atI3 | exact atI_map (by omega) (by assumption))) | ((with_reducible apply w_setL); (first | assumption | exact put_self); (first | exact ixL0 | exact ixL1 | exact ixL2)) | ((with_reducible apply w_ixD); (first | exact atI0 | exact atI1 | exact atI2 | exact atI3 | exact atI_map (by omega) (by assumption))) | ((with_reducible apply w_lenL); (first | assumption | exact put_self)) | ((with_reducible apply w_draw_l); (with_reducible assumption); (first | with_reducible assumption | omega | (simp only [List.length_cons, List.length_nil]; omega)); (first | with_reducible assumption | omega | (simp only [List.length_cons, List.length_nil]; omega)); (intro _ _ _ _ _)) | ((with_reducible refine w_ixA ?_ ?_ (allC ?_ ?_)); (first | with_reducible assumption | omega | (simp only [List.length_cons, List.length_nil]; omega)); (first | with_reducible assumption | omega | (simp only [List.length_cons, List.length_nil]; omega))) | with_reducible exact allN | with_reducible refine allC ?_ ?_ | ((with_reducible apply w_ixLA); (first | assumption | exact new_self); (first | with_reducible assumption | omega | (simp only [List.length_cons, List.length_nil]; omega)); (first | with_reducible assumption | omega | (simp only [List.length_cons, List.length_nil]; omega))) | ((with_reducible apply w_addS); (exact tok2 (by (repeat' (first | assumption | exact TOk.lit2 (by decide +kernel) | with_reducible apply TOk.app | with_reducible apply TOk.cut))) (by (repeat' (first | assumption | exact TOk.lit2 (by decide +kernel) | with_reducible apply TOk.app | with_reducible apply TOk.cut))) (by decide))) | ((with_reducible apply w_lenS2); ((repeat' (first | assumption | exact TOk.lit2 (by decide +kernel) | with_reducible apply TOk.app | with_reducible apply TOk.cut))); (decide); (intro _)) | ((with_reducible apply w_cutS); (exact TOk.len (by (repeat' (first | assumption | exact TOk.lit2 (by decide +kernel) | with_reducible apply TOk.app | with_reducible apply TOk.cut))) (by decide))) | with_reducible refine w_slice ?_ | with_reducible refine w_dict0 ?_ | with_reducible refine w_exc0 ?_ | with_reducible refine w_dict ?_ | with_reducible refine w_pairs0 ?_ | with_reducible refine w_pairs ?_ | with_reducible refine w_isi ?_ | with_reducible refine w_abs ?_ | with_reducible refine w_max ?_ | with_reducible refine w_min ?_ | with_reducible refine w_gNm ?_ | with_reducible refine w_gCons ?_ | with_reducible refine w_gNil ?_ | with_reducible refine w_retF ?_ | with_reducible refine w_lcI ?_ | with_reducible refine w_forI ?_ | with_reducible refine w_meth ?_ | (with_reducible refine w_part ?_) | (with_reducible refine w_itRange ?_) | (with_reducible refine w_itList ?_) | (with_reducible refine w_itStr ?_) | (with_reducible refine w_rev ?_) | with_reducible refine e_int ?_ | with_reducible refine e_str ?_ | with_reducible refine e_keyS ?_ | with_reducible refine e_keyI ?_ | with_reducible refine e_tyS ?_ | with_reducible refine e_tt ?_ | ((with_reducible refine e_rng ?_ ?_ ?_); (first | with_reducible assumption | omega | (simp only [List.length_cons, List.length_nil]; omega)); (first | with_reducible assumption | omega | (simp only [List.length_cons, List.length_nil]; omega))) | ((with_reducible apply e_isi); (exact rfl); (first | exact rfl | decide)) | ((with_reducible apply w_mkL); (decide); (exact rfl)) | ((with_reducible apply w_mkLp); (decide); (exact rfl)) | ((with_reducible apply w_mkLc); (decide)) | ((with_reducible apply w_mkT); (decide); (exact rfl)) | ((with_reducible apply w_mkTp); (decide); (exact rfl))))
  all_goals refine ⟨?_, .refl⟩
  all_goals rw [h]; rfl
theorem due_text {st : Sto} {x : Str} (hx : TOk x 1000) : Wp (m_law_due [.d (.str "text"), .d (.str x)]) st (fun v s => v = .d (.list ((bsOf (.d (.str x))).map .bool)) ∧ Above 0 st s) noX := by
  refine w_fn rfl ?_
  unfold b_law_due
  refine w_sq (w_set (w_c ?_))
  refine w_sqV (fun v s => v = .d (.bool false) ∧ s = st) (by
    (repeat' (first | ((with_reducible apply w_eqSt); (decide +kernel); (exact ok_ofString _)) | ((with_reducible apply w_eqSf); (decide +kernel); (exact ok_ofString _); (exact ok_ofString _)) | with_reducible refine w_c ?_ | ((with_reducible apply w_var); (exact rfl)) | with_reducible refine w_m2 ?_ | with_reducible refine w_cons ?_ | with_reducible refine w_nil ?_ | with_reducible refine w_mk ?_ | with_reducible refine w_call ?_ | with_reducible refine w_sq ?_ | with_reducible refine w_set ?_ | with_reducible refine w_tst ?_ | with_reducible refine t_b ?_ | with_reducible refine w_if ?_ | with_reducible refine w_nx ?_ | with_reducible refine w_retS ?_ | with_reducible refine w_eqI ?_ | (with_reducible refine b_dec (fun _ => ?_) (fun _ => ?_)) | with_reducible refine w_addI ?_ | with_reducible refine w_sub' ?_ | with_reducible refine w_iadd ?_ | with_reducible refine w_lt ?_ | with_reducible refine w_le ?_ | with_reducible refine w_gt ?_ | with_reducible refine w_ge ?_ | with_reducible refine w_neI ?_ | with_reducible refine w_chain ?_ | with_reducible refine w_and ?_ | with_reducible refine w_or ?_ | with_reducible refine w_not ?_ | with_reducible refine w_andV ?_ | with_reducible refine w_orV ?_ | with_reducible refine w_notV ?_ | with_reducible refine w_mIf ?_ | with_reducible refine w_bnd ?_ | with_reducible refine w_ret ?_ | with_reducible refine b_t ?_ | with_reducible refine b_f ?_ | with_reducible refine b_not ?_ | with_reducible refine w_expr ?_ | with_reducible refine w_sub ?_ | with_reducible refine w_augS ?_ | with_reducible refine w_retN ?_ | with_reducible refine w_lenD ?_ | with_reducible refine w_lenT ?_ | with_reducible refine w_isub ?_ | with_reducible refine w_bk ?_ | with_reducible refine w_ct ?_ | ((with_reducible apply w_mod); (first | decide | assumption | omega)) | ((with_reducible apply w_div); (first | decide | (constructor <;> first | assumption | omega))) | ((with_reducible apply w_mul); (first | exact .inr (by decide) | exact .inl (by decide) | omega)) | ((with_reducible apply w_pow); (decide)) | ((with_reducible apply w_ixL); (first | assumption | exact put_self); (first | exact atI0 | exact atI1 | exact atI2 | exact atI3 | exact atI_map (by omega) (by assumption))) | ((with_reducible apply w_getL); (first | assumption | exact put_self); (first | exact atI0 | exact atI1 | exact atI2 | exact atI3 | exact atI_map (by omega) (by assumption))) | ((with_reducible apply w_setL); (first | assumption | exact put_self); (first | exact ixL0 | exact ixL1 | exact ixL2)) | ((with_reducible apply w_ixD); (first | exact atI0 | exact atI1 | exact atI2 | exact atI3 | exact atI_map (by omega) (by assumption))) | ((with_reducible apply w_lenL); (first | assumption | exact put_self)) | ((with_reducible apply w_draw_l); (with_reducible assumption); (first | with_reducible assumption | omega | (simp only [List.length_cons, List.length_nil]; omega)); (first | with_reducible assumption | omega | (simp only [List.length_cons, List.length_nil]; omega)); (intro _ _ _ _ _)) | ((with_reducible refine w_ixA ?_ ?_ (allC ?_ ?_)); (first | with_reducible assumption | omega | (simp only [List.length_cons, List.length_nil]; omega)); (first | with_reducible assumption | omega | (simp only [List.length_cons, List.length_nil]; omega))) | with_reducible exact allN | with_reducible refine allC ?_ ?_ | ((with_reducible apply w_ixLA); (first | assumption | exact new_self); (first | with_reducible assumption | omega | (simp only [List.length_cons, List.length_nil]; omega)); (first | with_reducible assumption | omega | (simp only [List.length_cons, List.length_nil]; omega))) | ((with_reducible apply w_addS); (exact tok2 (by (repeat' (first | assumption | exact TOk.lit2 (by decide +kernel) | with_reducible apply TOk.app | with_reducible apply TOk.cut))) (by (repeat' (first | assumption | exact TOk.lit2 (by decide +kernel) | with_reducible apply TOk.app | with_reducible apply TOk.cut))) (by decide))) | ((with_reducible apply w_lenS2); ((repeat' (first | assumption | exact TOk.lit2 (by decide +kernel) | with_reducible apply TOk.app | with_reducible apply TOk.cut))); (decide); (intro _)) | ((with_reducible apply w_cutS); (exact TOk.len (by (repeat' (first | assumption | exact TOk.lit2 (by decide +kernel) | with_reducible apply TOk.app | with_reducible apply TOk.cut))) (by decide))) | with_reducible refine w_slice ?_ | with_reducible refine w_dict0 ?_ | with_reducible refine w_exc0 ?_ | with_reducible refine w_dict ?_ | with_reducible refine w_pairs0 ?_ | with_reducible refine w_pairs ?_ | with_reducible refine w_isi ?_ | with_reducible refine w_abs ?_ | with_reducible refine w_max ?_ | with_reducible refine w_min ?_ | with_reducible refine w_gNm ?_ | with_reducible refine w_gCons ?_ | with_reducible refine w_gNil ?_ | with_reducible refine w_retF ?_ | with_reducible refine w_lcI ?_ | with_reducible refine w_forI ?_ | with_reducible refine w_meth ?_ | (with_reducible refine w_part ?_) | (with_reducible refine w_itRange ?_) | (with_reducible refine w_itList ?_) | (with_reducible refine w_itStr ?_) | (with_reducible refine w_rev ?_) | with_reducible refine e_int ?_ | with_reducible refine e_str ?_ | with_reducible refine e_keyS ?_ | with_reducible refine e_keyI ?_ | with_reducible refine e_tyS ?_ | with_reducible refine e_tt ?_ | ((with_reducible refine e_rng ?_ ?_ ?_); (first | with_reducible assumption | omega | (simp only [List.length_cons, List.length_nil]; omega)); (first | with_reducible assumption | omega | (simp only [List.length_cons, List.length_nil]; omega))) | ((with_reducible apply e_isi); (exact rfl); (first | exact rfl | decide)) | ((with_reducible apply w_mkL); (decide); (exact rfl)) | ((with_reducible apply w_mkLp); (decide); (exact rfl)) | ((with_reducible apply w_mkLc); (decide)) | ((with_reducible apply w_mkT); (decide); (exact rfl)) | ((with_reducible apply w_mkTp); (decide); (exact rfl))))
    exact ⟨rfl, rfl⟩) fun v s ⟨e, e'⟩ => ?_
  subst e
  subst e'
  refine w_sqV (fun v s1 => v = .d (.bool (nm x)) ∧ Above 0 s s1) (by
    (repeat' (first | ((with_reducible apply w_eqSt); (decide +kernel); (exact ok_ofString _)) | ((with_reducible apply w_eqSf); (decide +kernel); (exact ok_ofString _); (exact ok_ofString _)) | with_reducible refine w_c ?_ | ((with_reducible apply w_var); (exact rfl)) | with_reducible refine w_m2 ?_ | with_reducible refine w_cons ?_ | with_reducible refine w_nil ?_ | with_reducible refine w_mk ?_ | with_reducible refine w_call ?_ | with_reducible refine w_sq ?_ | with_reducible refine w_set ?_ | with_reducible refine w_tst ?_ | with_reducible refine t_b ?_ | with_reducible refine w_if ?_ | with_reducible refine w_nx ?_ | with_reducible refine w_retS ?_ | with_reducible refine w_eqI ?_ | (with_reducible refine b_dec (fun _ => ?_) (fun _ => ?_)) | with_reducible refine w_addI ?_ | with_reducible refine w_sub' ?_ | with_reducible refine w_iadd ?_ | with_reducible refine w_lt ?_ | with_reducible refine w_le ?_ | with_reducible refine w_gt ?_ | with_reducible refine w_ge ?_ | with_reducible refine w_neI ?_ | with_reducible refine w_chain ?_ | with_reducible refine w_and ?_ | with_reducible refine w_or ?_ | with_reducible refine w_not ?_ | with_reducible refine w_andV ?_ | with_reducible refine w_orV ?_ | with_reducible refine w_notV ?_ | with_reducible refine w_mIf ?_ | with_reducible refine w_bnd ?_ | with_reducible refine w_ret ?_ | with_reducible refine b_t ?_ | with_reducible refine b_f ?_ | with_reducible refine b_not ?_ | with_reducible refine w_expr ?_ | with_reducible refine w_sub ?_ | with_reducible refine w_augS ?_ | with_reducible refine w_retN ?_ | with_reducible refine w_lenD ?_ | with_reducible refine w_lenT ?_ | with_reducible refine w_isub ?_ | with_reducible refine w_bk ?_ | with_reducible refine w_ct ?_ | ((with_reducible apply w_mod); (first | decide | assumption | omega)) | ((with_reducible apply w_div); (first | decide | (constructor <;> first | assumption | omega))) | ((with_reducible apply w_mul); (first | exact .inr (by decide) | exact .inl (by decide) | omega)) | ((with_reducible apply w_pow); (decide)) | ((with_reducible apply w_ixL); (first | assumption | exact put_self); (first | exact atI0 | exact atI1 | exact atI2 | exact atI3 | exact atI_map (by omega) (by assumption))) | ((with_reducible apply w_getL); (first | assumption | exact put_self); (first | exact atI0 | exact atI1 | exact atI2 | exact atI3 | exact atI_map (by omega) (by assumption))) | ((with_reducible apply w_setL); (first | assumption | exact put_self); (first | exact ixL0 | exact ixL1 | exact ixL2)) | ((with_reducible apply w_ixD); (first | exact atI0 | exact atI1 | exact atI2 | exact atI3 | exact atI_map (by omega) (by assumption))) | ((with_reducible apply w_lenL); (first | assumption | exact put_self)) | ((with_reducible apply w_draw_l); (with_reducible assumption); (first | with_reducible assumption | omega | (simp only [List.length_cons, List.length_nil]; omega)); (first | with_reducible assumption | omega | (simp only [List.length_cons, List.length_nil]; omega)); (intro _ _ _ _ _)) | ((with_reducible refine w_ixA ?_ ?_ (allC ?_ ?_)); (first | with_reducible assumption | omega | (simp only [List.length_cons, List.length_nil]; omega)); (first | with_reducible assumption | omega | (simp only [List.length_cons, List.length_nil]; omega))) | with_reducible exact allN | with_reducible refine allC ?_ ?_ | ((with_reducible apply w_ixLA); (first | assumption | exact new_self); (first | with_reducible assumption | omega | (simp only [List.length_cons, List.length_nil]; omega)); (first | with_reducible assumption | omega | (simp only [List.length_cons, List.length_nil]; omega))) | ((with_reducible apply w_addS); (exact tok2 (by (repeat' (first | assumption | exact TOk.lit2 (by decide +kernel) | with_reducible apply TOk.app | with_reducible apply TOk.cut))) (by (repeat' (first | assumption | exact TOk.lit2 (by decide +kernel) | with_reducible apply TOk.app | with_reducible apply TOk.cut))) (by decide))) | ((with_reducible apply w_lenS2); ((repeat' (first | assumption | exact TOk.lit2 (by decide +kernel) | with_reducible apply TOk.app | with_reducible apply TOk.cut))); (decide); (intro _)) | ((with_reducible apply w_cutS); (exact TOk.len (by (repeat' (first | assumption | exact TOk.lit2 (by decide +kernel) | with_reducible apply TOk.app | with_reducible apply TOk.cut))) (by decide))) | with_reducible refine w_slice ?_ | with_reducible refine w_dict0 ?_ | with_reducible refine w_exc0 ?_ | with_reducible refine w_dict ?_ | with_reducible refine w_pairs0 ?_ | with_reducible refine w_pairs ?_ | with_reducible refine w_isi ?_ | with_reducible refine w_abs ?_ | with_reducible refine w_max ?_ | with_reducible refine w_min ?_ | with_reducible refine w_gNm ?_ | with_reducible refine w_gCons ?_ | with_reducible refine w_gNil ?_ | with_reducible refine w_retF ?_ | with_reducible refine w_lcI ?_ | with_reducible refine w_forI ?_ | with_reducible refine w_meth ?_ | (with_reducible refine w_part ?_) | (with_reducible refine w_itRange ?_) | (with_reducible refine w_itList ?_) | (with_reducible refine w_itStr ?_) | (with_reducible refine w_rev ?_) | with_reducible refine e_int ?_ | with_reducible refine e_str ?_ | with_reducible refine e_keyS ?_ | with_reducible refine e_keyI ?_ | with_reducible refine e_tyS ?_ | with_reducible refine e_tt ?_ | ((with_reducible refine e_rng ?_ ?_ ?_); (first | with_reducible assumption | omega | (simp only [List.length_cons, List.length_nil]; omega)); (first | with_reducible assumption | omega | (simp only [List.length_cons, List.length_nil]; omega))) | ((with_reducible apply e_isi); (exact rfl); (first | exact rfl | decide)) | ((with_reducible apply w_mkL); (decide); (exact rfl)) | ((with_reducible apply w_mkLp); (decide); (exact rfl)) | ((with_reducible apply w_mkLc); (decide)) | ((with_reducible apply w_mkT); (decide); (exact rfl)) | ((with_reducible apply w_mkTp); (decide); (exact rfl))))
    · refine w_lcB (F := fOut) (p := pOut) (fun _ _ => trivial) ?_ (fun z hz s1 A => ?_) fun s1 A => ?_
      · unfold Dm.signs
        rw [List.length_map]
        exact Nat.lt_of_le_of_lt (show x.cps.toList.length ≤ 1000 by have := hx.2; simpa [Str.length] using this) (by decide +kernel)
      · obtain ⟨c, hc, rfl⟩ := List.mem_map.mp hz
        refine w_gNm ⟨rfl, ?_⟩
        refine w_tst (w_m2 (w_var rfl (w_var rfl (w_notinS ?_))))
        refine t_b ⟨rfl, by simp [pOut], fun _ => w_var rfl ⟨rfl, rfl⟩⟩
      · rename_i h1 h2
        rw [signs_kept]
        refine w_mk (w_nil (w_mkL (by decide) rfl ?_))
        have hz : ∀ s ∈ (x.cps.toList.filter fun c => !decide (c ∈ abc.cps.toList)).map fun c => (⟨#[c]⟩ : Str), PyData.strOk s = true := fun s hs => by
          obtain ⟨c, hc, rfl⟩ := List.mem_map.mp hs
          exact (TOk.sign hx.1 (List.mem_filter.mp hc).1).1
        refine w_eqD (d := .list _) (e := .list []) (by rw [shaped_strs hz]; rfl) ?_
        · refine ⟨?_, A⟩
          rw [nm_t h1 h2, eqv_nil]
          simp only [Bool.false_eq_true, if_false]
          rw [all_filter]
    · exact ⟨by rw [nm_f2 (by omega)], .refl⟩
    · exact ⟨by rw [nm_f1 (by omega)], .refl⟩) fun v s1 ⟨e, A⟩ => ?_
  subst e
  (repeat' (first | ((with_reducible apply w_eqSt); (decide +kernel); (exact ok_ofString _)) | ((with_reducible apply w_eqSf); (decide +kernel); (exact ok_ofString _); (exact ok_ofString _)) | (with_reducible refine w_in2 ?_) | with_reducible refine w_c ?_ | ((with_reducible apply w_var); (exact rfl)) | with_reducible refine w_m2 ?_ | with_reducible refine w_cons ?_ | with_reducible refine w_nil ?_ | with_reducible refine w_mk ?_ | with_reducible refine w_call ?_ | with_reducible refine w_sq ?_ | with_reducible refine w_set ?_ | with_reducible refine w_tst ?_ | with_reducible refine t_b ?_ | with_reducible refine w_if ?_ | with_reducible refine w_nx ?_ | with_reducible refine w_retS ?_ | with_reducible refine w_eqI ?_ | (with_reducible refine b_dec (fun _ => ?_) (fun _ => ?_)) | with_reducible refine w_addI ?_ | with_reducible refine w_sub' ?_ | with_reducible refine w_iadd ?_ | with_reducible refine w_lt ?_ | with_reducible refine w_le ?_ | with_reducible refine w_gt ?_ | with_reducible refine w_ge ?_ | with_reducible refine w_neI ?_ | with_reducible refine w_chain ?_ | with_reducible refine w_and ?_ | with_reducible refine w_or ?_ | with_reducible refine w_not ?_ | with_reducible refine w_andV ?_ | with_reducible refine w_orV ?_ | with_reducible refine w_notV ?_ | with_reducible refine w_mIf ?_ | with_reducible refine w_bnd ?_ | with_reducible refine w_ret ?_ | with_reducible refine b_t ?_ | with_reducible refine b_f ?_ | with_reducible refine b_not ?_ | with_reducible refine w_expr ?_ | with_reducible refine w_sub ?_ | with_reducible refine w_augS ?_ | with_reducible refine w_retN ?_ | with_reducible refine w_lenD ?_ | with_reducible refine w_lenT ?_ | with_reducible refine w_isub ?_ | with_reducible refine w_bk ?_ | with_reducible refine w_ct ?_ | ((with_reducible apply w_mod); (first | decide | assumption | omega)) | ((with_reducible apply w_div); (first | decide | (constructor <;> first | assumption | omega))) | ((with_reducible apply w_mul); (first | exact .inr (by decide) | exact .inl (by decide) | omega)) | ((with_reducible apply w_pow); (decide)) | ((with_reducible apply w_ixL); (first | assumption | exact put_self); (first | exact atI0 | exact atI1 | exact atI2 | exact atI3 | exact atI_map (by omega) (by assumption))) | ((with_reducible apply w_getL); (first | assumption | exact put_self); (first | exact atI0 | exact atI1 | exact atI2 | exact atI3 | exact atI_map (by omega) (by assumption))) | ((with_reducible apply w_setL); (first | assumption | exact put_self); (first | exact ixL0 | exact ixL1 | exact ixL2)) | ((with_reducible apply w_ixD); (first | exact atI0 | exact atI1 | exact atI2 | exact atI3 | exact atI_map (by omega) (by assumption))) | ((with_reducible apply w_lenL); (first | assumption | exact put_self)) | ((with_reducible apply w_draw_l); (with_reducible assumption); (first | with_reducible assumption | omega | (simp only [List.length_cons, List.length_nil]; omega)); (first | with_reducible assumption | omega | (simp only [List.length_cons, List.length_nil]; omega)); (intro _ _ _ _ _)) | ((with_reducible refine w_ixA ?_ ?_ (allC ?_ ?_)); (first | with_reducible assumption | omega | (simp only [List.length_cons, List.length_nil]; omega)); (first | with_reducible assumption | omega | (simp only [List.length_cons, List.length_nil]; omega))) | with_reducible exact allN | with_reducible refine allC ?_ ?_ | ((with_reducible apply w_ixLA); (first | assumption | exact new_self); (first | with_reducible assumption | omega | (simp only [List.length_cons, List.length_nil]; omega)); (first | with_reducible assumption | omega | (simp only [List.length_cons, List.length_nil]; omega))) | ((with_reducible apply w_addS); (exact tok2 (by (repeat' (first | assumption | exact TOk.lit2 (by decide +kernel) | with_reducible apply TOk.app | with_reducible apply TOk.cut))) (by (repeat' (first | assumption | exact TOk.lit2 (by decide +kernel) | with_reducible apply TOk.app | with_reducible apply TOk.cut))) (by decide))) | ((with_reducible apply w_lenS2); ((repeat' (first | assumption | exact TOk.lit2 (by decide +kernel) | with_reducible apply TOk.app | with_reducible apply TOk.cut))); (decide); (intro _)) | ((with_reducible apply w_cutS); (exact TOk.len (by (repeat' (first | assumption | exact TOk.lit2 (by decide +kernel) | with_reducible apply TOk.app | with_reducible apply TOk.cut))) (by decide))) | with_reducible refine w_slice ?_ | with_reducible refine w_dict0 ?_ | with_reducible refine w_exc0 ?_ | with_reducible refine w_dict ?_ | with_reducible refine w_pairs0 ?_ | with_reducible refine w_pairs ?_ | with_reducible refine w_isi ?_ | with_reducible refine w_abs ?_ | with_reducible refine w_max ?_ | with_reducible refine w_min ?_ | with_reducible refine w_gNm ?_ | with_reducible refine w_gCons ?_ | with_reducible refine w_gNil ?_ | with_reducible refine w_retF ?_ | with_reducible refine w_lcI ?_ | with_reducible refine w_forI ?_ | with_reducible refine w_meth ?_ | (with_reducible refine w_part ?_) | (with_reducible refine w_itRange ?_) | (with_reducible refine w_itList ?_) | (with_reducible refine w_itStr ?_) | (with_reducible refine w_rev ?_) | with_reducible refine e_int ?_ | with_reducible refine e_str ?_ | with_reducible refine e_keyS ?_ | with_reducible refine e_keyI ?_ | with_reducible refine e_tyS ?_ | with_reducible refine e_tt ?_ | ((with_reducible refine e_rng ?_ ?_ ?_); (first | with_reducible assumption | omega | (simp only [List.length_cons, List.length_nil]; omega)); (first | with_reducible assumption | omega | (simp only [List.length_cons, List.length_nil]; omega))) | ((with_reducible apply e_isi); (exact rfl); (first | exact rfl | decide)) | ((with_reducible apply w_mkL); (decide); (exact rfl)) | ((with_reducible apply w_mkLp); (decide); (exact rfl)) | ((with_reducible apply w_mkLc); (decide)) | ((with_reducible apply w_mkT); (decide); (exact rfl)) | ((with_reducible apply w_mkTp); (decide); (exact rfl))))
  exact ⟨rfl, A⟩
end Lw

set_option Elab.async false
set_option linter.all false
set_option maxRecDepth 100000
set_option maxHeartbeats 1000000
namespace Lw
open PySem PySem.Spec PyProof.Rows L2 Dm
theorem name_text {st : Sto} {x : Str} (hx : TOk x 1000) : Wp (m_is_name [.d (.str x)]) st (fun v s => v = .d (.bool (nm x)) ∧ s = st) noX := by
  refine w_fn rfl ?_
  unfold b_is_name
  (repeat' (first | ((with_reducible apply w_draw_l); (with_reducible assumption); (first | with_reducible assumption | omega | (simp only [List.length_cons, List.length_nil]; omega)); (first | with_reducible assumption | omega | (simp only [List.length_cons, List.length_nil]; omega)); (intro _ _ _ _ _)) | with_reducible refine w_c ?_ | ((with_reducible apply w_var); (exact rfl)) | with_reducible refine w_m2 ?_ | with_reducible refine w_cons ?_ | with_reducible refine w_nil ?_ | with_reducible refine w_mk ?_ | with_reducible refine w_call ?_ | with_reducible refine w_sq ?_ | with_reducible refine w_set ?_ | with_reducible refine w_tst ?_ | with_reducible refine t_b ?_ | with_reducible refine w_if ?_ | with_reducible refine w_nx ?_ | with_reducible refine w_retS ?_ | with_reducible refine w_eqI ?_ | (with_reducible refine b_dec (fun _ => ?_) (fun _ => ?_)) | with_reducible refine w_addI ?_ | with_reducible refine w_sub' ?_ | with_reducible refine w_iadd ?_ | with_reducible refine w_lt ?_ | with_reducible refine w_le ?_ | with_reducible refine w_gt ?_ | with_reducible refine w_ge ?_ | with_reducible refine w_neI ?_ | with_reducible refine w_chain ?_ | with_reducible refine w_and ?_ | with_reducible refine w_or ?_ | with_reducible refine w_not ?_ | with_reducible refine w_andV ?_ | with_reducible refine w_orV ?_ | with_reducible refine w_notV ?_ | with_reducible refine w_mIf ?_ | with_reducible refine w_bnd ?_ | with_reducible refine w_ret ?_ | with_reducible refine b_t ?_ | with_reducible refine b_f ?_ | with_reducible refine b_not ?_ | with_reducible refine w_expr ?_ | with_reducible refine w_sub ?_ | with_reducible refine w_augS ?_ | with_reducible refine w_retN ?_ | with_reducible refine w_lenD ?_ | with_reducible refine w_lenT ?_ | with_reducible refine w_isub ?_ | with_reducible refine w_bk ?_ | with_reducible refine w_ct ?_ | ((with_reducible apply w_mod); (first | decide | assumption | omega)) | ((with_reducible apply w_div); (first | decide | (constructor <;> first | assumption | omega))) | ((with_reducible apply w_mul); (first | exact .inr (by decide) | exact .inl (by decide) | omega)) | ((with_reducible apply w_pow); (decide)) | ((with_reducible apply w_ixL); (first | assumption | exact put_self); (first | exact atI0 | exact atI1 | exact atI2 | exact atI3 | exact atI_map (by omega) (by assumption))) | ((with_reducible apply w_getL); (first | assumption | exact put_self); (first | exact atI0 | exact atI1 | exact atI2 | exact atI3 | exact atI_map (by omega) (by assumption))) | ((with_reducible apply w_setL); (first | assumption | exact put_self); (first | exact ixL0 | exact ixL1 | exact ixL2)) | ((with_reducible apply w_ixD); (first | exact atI0 | exact atI1 | exact atI2 | exact atI3 | exact atI_map (by omega) (by assumption))) | ((with_reducible apply w_lenL); (first | assumption | exact put_self)) | ((with_reducible refine w_ixA ?_ ?_ (allC ?_ ?_)); (first | with_reducible assumption | omega | (simp only [List.length_cons, List.length_nil]; omega)); (first | with_reducible assumption | omega | (simp only [List.length_cons, List.length_nil]; omega))) | with_reducible exact allN | with_reducible refine allC ?_ ?_ | ((with_reducible apply w_ixLA); (first | assumption | exact new_self); (first | with_reducible assumption | omega | (simp only [List.length_cons, List.length_nil]; omega)); (first | with_reducible assumption | omega | (simp only [List.length_cons, List.length_nil]; omega))) | ((with_reducible apply w_addS); (exact tok2 (by (repeat' (first | assumption | exact TOk.lit2 (by decide +kernel) | with_reducible apply TOk.app | with_reducible apply TOk.cut))) (by (repeat' (first | assumption | exact TOk.lit2 (by decide +kernel) | with_reducible apply TOk.app | with_reducible apply TOk.cut))) (by decide))) | ((with_reducible apply w_lenS2); ((repeat' (first | assumption | exact TOk.lit2 (by decide +kernel) | with_reducible apply TOk.app | with_reducible apply TOk.cut))); (decide); (intro _)) | ((with_reducible apply w_cutS); (exact TOk.len (by (repeat' (first | assumption | exact TOk.lit2 (by decide +kernel) | with_reducible apply TOk.app | with_reducible apply TOk.cut))) (by decide))) | with_reducible refine w_slice ?_ | with_reducible refine w_dict0 ?_ | with_reducible refine w_exc0 ?_ | with_reducible refine w_dict ?_ | with_reducible refine w_pairs0 ?_ | with_reducible refine w_pairs ?_ | with_reducible refine w_isi ?_ | with_reducible refine w_abs ?_ | with_reducible refine w_max ?_ | with_reducible refine w_min ?_ | with_reducible refine w_gNm ?_ | with_reducible refine w_gCons ?_ | with_reducible refine w_gNil ?_ | with_reducible refine w_retF ?_ | with_reducible refine w_lcI ?_ | with_reducible refine w_forI ?_ | with_reducible refine w_meth ?_ | (with_reducible refine w_part ?_) | (with_reducible refine w_itRange ?_) | (with_reducible refine w_itList ?_) | (with_reducible refine w_itStr ?_) | (with_reducible refine w_rev ?_) | with_reducible refine e_int ?_ | with_reducible refine e_str ?_ | with_reducible refine e_keyS ?_ | with_reducible refine e_keyI ?_ | with_reducible refine e_tyS ?_ | with_reducible refine e_tt ?_ | ((with_reducible refine e_rng ?_ ?_ ?_); (first | with_reducible assumption | omega | (simp only [List.length_cons, List.length_nil]; omega)); (first | with_reducible assumption | omega | (simp only [List.length_cons, List.length_nil]; omega))) | ((with_reducible apply e_isi); (exact rfl); (first | exact rfl | decide)) | ((with_reducible apply w_mkL); (decide); (exact rfl)) | ((with_reducible apply w_mkLp); (decide); (exact rfl)) | ((with_reducible apply w_mkLc); (decide)) | ((with_reducible apply w_mkT); (decide); (exact rfl)) | ((with_reducible apply w_mkTp); (decide); (exact rfl))))
  · refine w_for (fun j ρ s => s = st ∧ (∃ a, ρ = [some (.d (.str x)), a]) ∧ ∀ c ∈ x.cps.toList.take j, c ∈ abc.cps.toList) (fun _ _ _ _ => trivial) _ 0 _ _ ⟨rfl, ⟨_, rfl⟩, fun c hc => by simp at hc⟩ (fun i y e ρ s h => ?_) (fun ρ s h => ?_)
    · obtain ⟨rfl, ⟨a, rfl⟩, h⟩ := h
      obtain ⟨c, hc, rfl⟩ := signs_at e
      refine w_ret (w_gNm ?_)
      (repeat' (first | (with_reducible refine w_notinS ?_) | with_reducible refine w_c ?_ | ((with_reducible apply w_var); (exact rfl)) | with_reducible refine w_m2 ?_ | with_reducible refine w_cons ?_ | with_reducible refine w_nil ?_ | with_reducible refine w_mk ?_ | with_reducible refine w_call ?_ | with_reducible refine w_sq ?_ | with_reducible refine w_set ?_ | with_reducible refine w_tst ?_ | with_reducible refine t_b ?_ | with_reducible refine w_if ?_ | with_reducible refine w_nx ?_ | with_reducible refine w_retS ?_ | with_reducible refine w_eqI ?_ | (with_reducible refine b_dec (fun _ => ?_) (fun _ => ?_)) | with_reducible refine w_addI ?_ | with_reducible refine w_sub' ?_ | with_reducible refine w_iadd ?_ | with_reducible refine w_lt ?_ | with_reducible refine w_le ?_ | with_reducible refine w_gt ?_ | with_reducible refine w_ge ?_ | with_reducible refine w_neI ?_ | with_reducible refine w_chain ?_ | with_reducible refine w_and ?_ | with_reducible refine w_or ?_ | with_reducible refine w_not ?_ | with_reducible refine w_andV ?_ | with_reducible refine w_orV ?_ | with_reducible refine w_notV ?_ | with_reducible refine w_mIf ?_ | with_reducible refine w_bnd ?_ | with_reducible refine w_ret ?_ | with_reducible refine b_t ?_ | with_reducible refine b_f ?_ | with_reducible refine b_not ?_ | with_reducible refine w_expr ?_ | with_reducible refine w_sub ?_ | with_reducible refine w_augS ?_ | with_reducible refine w_retN ?_ | with_reducible refine w_lenD ?_ | with_reducible refine w_lenT ?_ | with_reducible refine w_isub ?_ | with_reducible refine w_bk ?_ | with_reducible refine w_ct ?_ | ((with_reducible apply w_mod); (first | decide | assumption | omega)) | ((with_reducible apply w_div); (first | decide | (constructor <;> first | assumption | omega))) | ((with_reducible apply w_mul); (first | exact .inr (by decide) | exact .inl (by decide) | omega)) | ((with_reducible apply w_pow); (decide)) | ((with_reducible apply w_ixL); (first | assumption | exact put_self); (first | exact atI0 | exact atI1 | exact atI2 | exact atI3 | exact atI_map (by omega) (by assumption))) | ((with_reducible apply w_getL); (first | assumption | exact put_self); (first | exact atI0 | exact atI1 | exact atI2 | exact atI3 | exact atI_map (by omega) (by assumption))) | ((with_reducible apply w_setL); (first | assumption | exact put_self); (first | exact ixL0 | exact ixL1 | exact ixL2)) | ((with_reducible apply w_ixD); (first | exact atI0 | exact atI1 | exact atI2 | exact atI3 | exact atI_map (by omega) (by assumption))) | ((with_reducible apply w_lenL); (first | assumption | exact put_self)) | ((with_reducible apply w_draw_l); (with_reducible assumption); (first | with_reducible assumption | omega | (simp only [List.length_cons, List.length_nil]; omega)); (first | with_reducible assumption | omega | (simp only [List.length_cons, List.length_nil]; omega)); (intro _ _ _ _ _)) | ((with_reducible refine w_ixA ?_ ?_ (allC ?_ ?_)); (first | with_reducible assumption | omega | (simp only [List.length_cons, List.length_nil]; omega)); (first | with_reducible assumption | omega | (simp only [List.length_cons, List.length_nil]; omega))) | with_reducible exact allN | with_reducible refine allC ?_ ?_ | ((with_reducible apply w_ixLA); (first | assumption | exact new_self); (first | with_reducible assumption | omega | (simp only [List.length_cons, List.length_nil]; omega)); (first | with_reducible assumption | omega | (simp only [List.length_cons, List.length_nil]; omega))) | ((with_reducible apply w_addS); (exact tok2 (by (repeat' (first | assumption | exact TOk.lit2 (by decide +kernel) | with_reducible apply TOk.app | with_reducible apply TOk.cut))) (by (repeat' (first | assumption | exact TOk.lit2 (by decide +kernel) | with_reducible apply TOk.app | with_reducible apply TOk.cut))) (by decide))) | ((with_reducible apply w_lenS2); ((repeat' (first | assumption | exact TOk.lit2 (by decide +kernel) | with_reducible apply TOk.app | with_reducible apply TOk.cut))); (decide); (intro _)) | ((with_reducible apply w_cutS); (exact TOk.len (by (repeat' (first | assumption | exact TOk.lit2 (by decide +kernel) | with_reducible apply TOk.app | with_reducible apply TOk.cut))) (by decide))) | with_reducible refine w_slice ?_ | with_reducible refine w_dict0 ?_ | with_reducible refine w_exc0 ?_ | with_reducible refine w_dict ?_ | with_reducible refine w_pairs0 ?_ | with_reducible refine w_pairs ?_ | with_reducible refine w_isi ?_ | with_reducible refine w_abs ?_ | with_reducible refine w_max ?_ | with_reducible refine w_min ?_ | with_reducible refine w_gNm ?_ | with_reducible refine w_gCons ?_ | with_reducible refine w_gNil ?_ | with_reducible refine w_retF ?_ | with_reducible refine w_lcI ?_ | with_reducible refine w_forI ?_ | with_reducible refine w_meth ?_ | (with_reducible refine w_part ?_) | (with_reducible refine w_itRange ?_) | (with_reducible refine w_itList ?_) | (with_reducible refine w_itStr ?_) | (with_reducible refine w_rev ?_) | with_reducible refine e_int ?_ | with_reducible refine e_str ?_ | with_reducible refine e_keyS ?_ | with_reducible refine e_keyI ?_ | with_reducible refine e_tyS ?_ | with_reducible refine e_tt ?_ | ((with_reducible refine e_rng ?_ ?_ ?_); (first | with_reducible assumption | omega | (simp only [List.length_cons, List.length_nil]; omega)); (first | with_reducible assumption | omega | (simp only [List.length_cons, List.length_nil]; omega))) | ((with_reducible apply e_isi); (exact rfl); (first | exact rfl | decide)) | ((with_reducible apply w_mkL); (decide); (exact rfl)) | ((with_reducible apply w_mkLp); (decide); (exact rfl)) | ((with_reducible apply w_mkLc); (decide)) | ((with_reducible apply w_mkT); (decide); (exact rfl)) | ((with_reducible apply w_mkTp); (decide); (exact rfl))))
      · rename_i hn
        refine ⟨rfl, ⟨_, rfl⟩, fun d hd => ?_⟩
        rw [show 0 + i + 1 = i + 1 by omega, List.take_add_one, hc] at hd
        rcases List.mem_append.mp hd with hd | hd
        · exact h d (by rw [Nat.zero_add]; exact hd)
        · have : d = c := by simpa using hd
          rw [this]
          exact hn
      · rename_i hn
        refine ⟨?_, rfl⟩
        rw [nm_t (by omega) (by omega), List.all_eq_false.mpr ⟨c, List.mem_of_getElem? hc, by simpa using hn⟩]
    · obtain ⟨rfl, ⟨a, rfl⟩, h⟩ := h
      (repeat' (first | ((with_reducible apply w_draw_l); (with_reducible assumption); (first | with_reducible assumption | omega | (simp only [List.length_cons, List.length_nil]; omega)); (first | with_reducible assumption | omega | (simp only [List.length_cons, List.length_nil]; omega)); (intro _ _ _ _ _)) | with_reducible refine w_c ?_ | ((with_reducible apply w_var); (exact rfl)) | with_reducible refine w_m2 ?_ | with_reducible refine w_cons ?_ | with_reducible refine w_nil ?_ | with_reducible refine w_mk ?_ | with_reducible refine w_call ?_ | with_reducible refine w_sq ?_ | with_reducible refine w_set ?_ | with_reducible refine w_tst ?_ | with_reducible refine t_b ?_ | with_reducible refine w_if ?_ | with_reducible refine w_nx ?_ | with_reducible refine w_retS ?_ | with_reducible refine w_eqI ?_ | (with_reducible refine b_dec (fun _ => ?_) (fun _ => ?_)) | with_reducible refine w_addI ?_ | with_reducible refine w_sub' ?_ | with_reducible refine w_iadd ?_ | with_reducible refine w_lt ?_ | with_reducible refine w_le ?_ | with_reducible refine w_gt ?_ | with_reducible refine w_ge ?_ | with_reducible refine w_neI ?_ | with_reducible refine w_chain ?_ | with_reducible refine w_and ?_ | with_reducible refine w_or ?_ | with_reducible refine w_not ?_ | with_reducible refine w_andV ?_ | with_reducible refine w_orV ?_ | with_reducible refine w_notV ?_ | with_reducible refine w_mIf ?_ | with_reducible refine w_bnd ?_ | with_reducible refine w_ret ?_ | with_reducible refine b_t ?_ | with_reducible refine b_f ?_ | with_reducible refine b_not ?_ | with_reducible refine w_expr ?_ | with_reducible refine w_sub ?_ | with_reducible refine w_augS ?_ | with_reducible refine w_retN ?_ | with_reducible refine w_lenD ?_ | with_reducible refine w_lenT ?_ | with_reducible refine w_isub ?_ | with_reducible refine w_bk ?_ | with_reducible refine w_ct ?_ | ((with_reducible apply w_mod); (first | decide | assumption | omega)) | ((with_reducible apply w_div); (first | decide | (constructor <;> first | assumption | omega))) | ((with_reducible apply w_mul); (first | exact .inr (by decide) | exact .inl (by decide) | omega)) | ((with_reducible apply w_pow); (decide)) | ((with_reducible apply w_ixL); (first | assumption | exact put_self); (first | exact atI0 | exact atI1 | exact atI2 | exact atI3 | exact atI_map (by omega) (by assumption))) | ((with_reducible apply w_getL); (first | assumption | exact put_self); (first | exact atI0 | exact atI1 | exact atI2 | exact atI3 | exact atI_map (by omega) (by assumption))) | ((with_reducible apply w_setL); (first | assumption | exact put_self); (first | exact ixL0 | exact ixL1 | exact ixL2)) | ((with_reducible apply w_ixD); (first | exact atI0 | exact atI1 | exact atI2 | exact atI3 | exact atI_map (by omega) (by assumption))) | ((with_reducible apply w_lenL); (first | assumption | exact put_self)) | ((with_reducible refine w_ixA ?_ ?_ (allC ?_ ?_)); (first | with_reducible assumption | omega | (simp only [List.length_cons, List.length_nil]; omega)); (first | with_reducible assumption | omega | (simp only [List.length_cons, List.length_nil]; omega))) | with_reducible exact allN | with_reducible refine allC ?_ ?_ | ((with_reducible apply w_ixLA); (first | assumption | exact new_self); (first | with_reducible assumption | omega | (simp only [List.length_cons, List.length_nil]; omega)); (first | with_reducible assumption | omega | (simp only [List.length_cons, List.length_nil]; omega))) | ((with_reducible apply w_addS); (exact tok2 (by (repeat' (first | assumption | exact TOk.lit2 (by decide +kernel) | with_reducible apply TOk.app | with_reducible apply TOk.cut))) (by (repeat' (first | assumption | exact TOk.lit2 (by decide +kernel) | with_reducible apply TOk.app | with_reducible apply TOk.cut))) (by decide))) | ((with_reducible apply w_lenS2); ((repeat' (first | assumption | exact TOk.lit2 (by decide +kernel) | with_reducible apply TOk.app | with_reducible apply TOk.cut))); (decide); (intro _)) | ((with_reducible apply w_cutS); (exact TOk.len (by (repeat' (first | assumption | exact TOk.lit2 (by decide +kernel) | with_reducible apply TOk.app | with_reducible apply TOk.cut))) (by decide))) | with_reducible refine w_slice ?_ | with_reducible refine w_dict0 ?_ | with_reducible refine w_exc0 ?_ | with_reducible refine w_dict ?_ | with_reducible refine w_pairs0 ?_ | with_reducible refine w_pairs ?_ | with_reducible refine w_isi ?_ | with_reducible refine w_abs ?_ | with_reducible refine w_max ?_ | with_reducible refine w_min ?_ | with_reducible refine w_gNm ?_ | with_reducible refine w_gCons ?_ | with_reducible refine w_gNil ?_ | with_reducible refine w_retF ?_ | with_reducible refine w_lcI ?_ | with_reducible refine w_forI ?_ | with_reducible refine w_meth ?_ | (with_reducible refine w_part ?_) | (with_reducible refine w_itRange ?_) | (with_reducible refine w_itList ?_) | (with_reducible refine w_itStr ?_) | (with_reducible refine w_rev ?_) | with_reducible refine e_int ?_ | with_reducible refine e_str ?_ | with_reducible refine e_keyS ?_ | with_reducible refine e_keyI ?_ | with_reducible refine e_tyS ?_ | with_reducible refine e_tt ?_ | ((with_reducible refine e_rng ?_ ?_ ?_); (first | with_reducible assumption | omega | (simp only [List.length_cons, List.length_nil]; omega)); (first | with_reducible assumption | omega | (simp only [List.length_cons, List.length_nil]; omega))) | ((with_reducible apply e_isi); (exact rfl); (first | exact rfl | decide)) | ((with_reducible apply w_mkL); (decide); (exact rfl)) | ((with_reducible apply w_mkLp); (decide); (exact rfl)) | ((with_reducible apply w_mkLc); (decide)) | ((with_reducible apply w_mkT); (decide); (exact rfl)) | ((with_reducible apply w_mkTp); (decide); (exact rfl))))
      refine ⟨?_, rfl⟩
      rw [nm_t (by omega) (by omega), List.all_eq_true.mpr fun c hc => ?_]
      have := h c (by rw [Nat.zero_add]; unfold Dm.signs; rw [List.length_map, List.length_map, List.take_length]; exact hc)
      simpa using this
  · exact ⟨by rw [nm_f2 (by omega)], rfl⟩
  · exact ⟨by rw [nm_f1 (by omega)], rfl⟩
/-- a value that is no text, no whole -/
structure No (s : Sto) (t : MV) : Prop where
  k1 : kitKnown [] ["NoRow"] s t = true
  ex : ∃ g, tagOf s t = some g ∧ kfT [("NoneType", false), ("bool", false), ("int", false), ("str", true), ("list", false), ("tuple", false), ("dict", false)] [("NoRow", false)] g = some false ∧ ((kfT [("NoneType", false), ("bool", true), ("int", true), ("str", false), ("list", false), ("tuple", false), ("dict", false)] [("NoRow", false)] g = some false) ∨ (kfT [("NoneType", false), ("bool", true), ("int", true), ("str", false), ("list", false), ("tuple", false), ("dict", false)] [("NoRow", false)] g = some true ∧ kfT [("NoneType", false), ("bool", true), ("int", false), ("str", false), ("list", false), ("tuple", false), ("dict", false)] [("NoRow", false)] g = some true))
theorem oth_no {lo : Nat} {s : Sto} {t : MV} (h : Oth lo s t) : No s t ∧ bsOf t = [false, false, false, false, false] := by
  rcases h with ⟨d, rfl, _, h⟩ | ⟨i, rfl, _, _, h⟩
  · cases d with
    | none => exact ⟨⟨rfl, _, rfl, rfl, .inl rfl⟩, rfl⟩
    | bool b => exact ⟨⟨rfl, _, rfl, rfl, .inr ⟨rfl, rfl⟩⟩, rfl⟩
    | list b => exact ⟨⟨rfl, _, rfl, rfl, .inl rfl⟩, rfl⟩
    | tuple b => exact ⟨⟨rfl, _, rfl, rfl, .inl rfl⟩, rfl⟩
    | _ => exact h.elim
  · have e1 : ∀ {o : MO}, s.o i = some o → tagOf s (.c i) = (match some o with
      | some (.lst _) => some (.bi "list")
      | some (.tup _) => some (.bi "tuple")
      | some (.dic _) => some (.bi "dict")
      | some (.ins c _) => some (.own c)
      | some (.exc c _) => some (.own c)
      | some (.exc0 c) => some (.own c)
      | none => none) := fun {o} e => by unfold tagOf; simp only [e] <;> (cases o <;> rfl)
    have e2 : ∀ {o : MO}, s.o i = some o → kitKnown [] ["NoRow"] s (.c i) = (match some o with
      | some (.ins c _) => decide (c ∈ ([] : List Str))
      | some (.exc c _) => decide (c ∈ (["NoRow"] : List Str))
      | some (.exc0 c) => decide (c ∈ (["NoRow"] : List Str))
      | _ => true) := fun {o} e => by unfold kitKnown; simp only [e] <;> (cases o <;> rfl)
    rcases h with h | ⟨d, _, h⟩ | h
    · exact ⟨⟨by rw [e2 h], _, by rw [e1 h], rfl, .inl rfl⟩, rfl⟩
    · exact ⟨⟨by rw [e2 h], _, by rw [e1 h], rfl, .inl rfl⟩, rfl⟩
    · exact ⟨⟨by rw [e2 h]; exact decide_eq_true List.mem_cons_self, _, by rw [e1 h], by decide +kernel, .inl (by decide +kernel)⟩, rfl⟩
theorem w_isiN {tb : List (String × Bool)} {to : List (Str × Bool)} {s : Sto} {t : MV} {g : Tag} {b : Bool} {Q : Bool → Prop} (h : kitKnown [] ["NoRow"] s t = true) (h1 : tagOf s t = some g) (h2 : kfT tb to g = some b) (h3 : Q b) : kitKnown [] ["NoRow"] s t = true ∧ ∃ t' b, tagOf s t = some t' ∧ kfT tb to t' = some b ∧ Q b := ⟨h, g, b, h1, h2, h3⟩
theorem asked_no {s : Sto} {t : MV} (h : No s t) (w : Int) : Wp (m_law_asked [.d (.int w), t]) s (fun v s' => v = .d (.bool false) ∧ s' = s) noX := by
  obtain ⟨hk, g, e, h1, h2⟩ := h
  have W : ∀ {Q : MV → Sto → Prop} {E : XP}, Q (.d (.bool false)) s → Wp (m_is_whole [t]) s Q E := fun {Q E} q => by
    refine w_fn rfl ?_
    unfold b_is_whole
    rcases h2 with h2 | ⟨h2, h3⟩
    · (repeat' (first | ((with_reducible apply w_isiN); (exact hk); (exact e); (exact h2)) | with_reducible refine w_c ?_ | ((with_reducible apply w_var); (exact rfl)) | with_reducible refine w_m2 ?_ | with_reducible refine w_cons ?_ | with_reducible refine w_nil ?_ | with_reducible refine w_mk ?_ | with_reducible refine w_call ?_ | with_reducible refine w_sq ?_ | with_reducible refine w_set ?_ | with_reducible refine w_tst ?_ | with_reducible refine t_b ?_ | with_reducible refine w_if ?_ | with_reducible refine w_nx ?_ | with_reducible refine w_retS ?_ | with_reducible refine w_eqI ?_ | (with_reducible refine b_dec (fun _ => ?_) (fun _ => ?_)) | with_reducible refine w_addI ?_ | with_reducible refine w_sub' ?_ | with_reducible refine w_iadd ?_ | with_reducible refine w_lt ?_ | with_reducible refine w_le ?_ | with_reducible refine w_gt ?_ | with_reducible refine w_ge ?_ | with_reducible refine w_neI ?_ | with_reducible refine w_chain ?_ | with_reducible refine w_and ?_ | with_reducible refine w_or ?_ | with_reducible refine w_not ?_ | with_reducible refine w_andV ?_ | with_reducible refine w_orV ?_ | with_reducible refine w_notV ?_ | with_reducible refine w_mIf ?_ | with_reducible refine w_bnd ?_ | with_reducible refine w_ret ?_ | with_reducible refine b_t ?_ | with_reducible refine b_f ?_ | with_reducible refine b_not ?_ | with_reducible refine w_expr ?_ | with_reducible refine w_sub ?_ | with_reducible refine w_augS ?_ | with_reducible refine w_retN ?_ | with_reducible refine w_lenD ?_ | with_reducible refine w_lenT ?_ | with_reducible refine w_isub ?_ | with_reducible refine w_bk ?_ | with_reducible refine w_ct ?_ | ((with_reducible apply w_mod); (first | decide | assumption | omega)) | ((with_reducible apply w_div); (first | decide | (constructor <;> first | assumption | omega))) | ((with_reducible apply w_mul); (first | exact .inr (by decide) | exact .inl (by decide) | omega)) | ((with_reducible apply w_pow); (decide)) | ((with_reducible apply w_ixL); (first | assumption | exact put_self); (first | exact atI0 | exact atI1 | exact atI2 | exact atI3 | exact atI_map (by omega) (by assumption))) | ((with_reducible apply w_getL); (first | assumption | exact put_self); (first | exact atI0 | exact atI1 | exact atI2 | exact atI3 | exact atI_map (by omega) (by assumption))) | ((with_reducible apply w_setL); (first | assumption | exact put_self); (first | exact ixL0 | exact ixL1 | exact ixL2)) | ((with_reducible apply w_ixD); (first | exact atI0 | exact atI1 | exact atI2 | exact atI3 | exact atI_map (by omega) (by assumption))) | ((with_reducible apply w_lenL); (first | assumption | exact put_self)) | ((with_reducible apply w_draw_l); (with_reducible assumption); (first | with_reducible assumption | omega | (simp only [List.length_cons, List.length_nil]; omega)); (first | with_reducible assumption | omega | (simp only [List.length_cons, List.length_nil]; omega)); (intro _ _ _ _ _)) | ((with_reducible refine w_ixA ?_ ?_ (allC ?_ ?_)); (first | with_reducible assumption | omega | (simp only [List.length_cons, List.length_nil]; omega)); (first | with_reducible assumption | omega | (simp only [List.length_cons, List.length_nil]; omega))) | with_reducible exact allN | with_reducible refine allC ?_ ?_ | ((with_reducible apply w_ixLA); (first | assumption | exact new_self); (first | with_reducible assumption | omega | (simp only [List.length_cons, List.length_nil]; omega)); (first | with_reducible assumption | omega | (simp only [List.length_cons, List.length_nil]; omega))) | ((with_reducible apply w_addS); (exact tok2 (by (repeat' (first | assumption | exact TOk.lit2 (by decide +kernel) | with_reducible apply TOk.app | with_reducible apply TOk.cut))) (by (repeat' (first | assumption | exact TOk.lit2 (by decide +kernel) | with_reducible apply TOk.app | with_reducible apply TOk.cut))) (by decide))) | ((with_reducible apply w_lenS2); ((repeat' (first | assumption | exact TOk.lit2 (by decide +kernel) | with_reducible apply TOk.app | with_reducible apply TOk.cut))); (decide); (intro _)) | ((with_reducible apply w_cutS); (exact TOk.len (by (repeat' (first | assumption | exact TOk.lit2 (by decide +kernel) | with_reducible apply TOk.app | with_reducible apply TOk.cut))) (by decide))) | with_reducible refine w_slice ?_ | with_reducible refine w_dict0 ?_ | with_reducible refine w_exc0 ?_ | with_reducible refine w_dict ?_ | with_reducible refine w_pairs0 ?_ | with_reducible refine w_pairs ?_ | with_reducible refine w_isi ?_ | with_reducible refine w_abs ?_ | with_reducible refine w_max ?_ | with_reducible refine w_min ?_ | with_reducible refine w_gNm ?_ | with_reducible refine w_gCons ?_ | with_reducible refine w_gNil ?_ | with_reducible refine w_retF ?_ | with_reducible refine w_lcI ?_ | with_reducible refine w_forI ?_ | with_reducible refine w_meth ?_ | (with_reducible refine w_part ?_) | (with_reducible refine w_itRange ?_) | (with_reducible refine w_itList ?_) | (with_reducible refine w_itStr ?_) | (with_reducible refine w_rev ?_) | with_reducible refine e_int ?_ | with_reducible refine e_str ?_ | with_reducible refine e_keyS ?_ | with_reducible refine e_keyI ?_ | with_reducible refine e_tyS ?_ | with_reducible refine e_tt ?_ | ((with_reducible refine e_rng ?_ ?_ ?_); (first | with_reducible assumption | omega | (simp only [List.length_cons, List.length_nil]; omega)); (first | with_reducible assumption | omega | (simp only [List.length_cons, List.length_nil]; omega))) | ((with_reducible apply e_isi); (exact rfl); (first | exact rfl | decide)) | ((with_reducible apply w_mkL); (decide); (exact rfl)) | ((with_reducible apply w_mkLp); (decide); (exact rfl)) | ((with_reducible apply w_mkLc); (decide)) | ((with_reducible apply w_mkT); (decide); (exact rfl)) | ((with_reducible apply w_mkTp); (decide); (exact rfl))))
      exact q
    · (repeat' (first | ((with_reducible apply w_isiN); (exact hk); (exact e); (first | exact h2 | exact h3)) | with_reducible refine w_c ?_ | ((with_reducible apply w_var); (exact rfl)) | with_reducible refine w_m2 ?_ | with_reducible refine w_cons ?_ | with_reducible refine w_nil ?_ | with_reducible refine w_mk ?_ | with_reducible refine w_call ?_ | with_reducible refine w_sq ?_ | with_reducible refine w_set ?_ | with_reducible refine w_tst ?_ | with_reducible refine t_b ?_ | with_reducible refine w_if ?_ | with_reducible refine w_nx ?_ | with_reducible refine w_retS ?_ | with_reducible refine w_eqI ?_ | (with_reducible refine b_dec (fun _ => ?_) (fun _ => ?_)) | with_reducible refine w_addI ?_ | with_reducible refine w_sub' ?_ | with_reducible refine w_iadd ?_ | with_reducible refine w_lt ?_ | with_reducible refine w_le ?_ | with_reducible refine w_gt ?_ | with_reducible refine w_ge ?_ | with_reducible refine w_neI ?_ | with_reducible refine w_chain ?_ | with_reducible refine w_and ?_ | with_reducible refine w_or ?_ | with_reducible refine w_not ?_ | with_reducible refine w_andV ?_ | with_reducible refine w_orV ?_ | with_reducible refine w_notV ?_ | with_reducible refine w_mIf ?_ | with_reducible refine w_bnd ?_ | with_reducible refine w_ret ?_ | with_reducible refine b_t ?_ | with_reducible refine b_f ?_ | with_reducible refine b_not ?_ | with_reducible refine w_expr ?_ | with_reducible refine w_sub ?_ | with_reducible refine w_augS ?_ | with_reducible refine w_retN ?_ | with_reducible refine w_lenD ?_ | with_reducible refine w_lenT ?_ | with_reducible refine w_isub ?_ | with_reducible refine w_bk ?_ | with_reducible refine w_ct ?_ | ((with_reducible apply w_mod); (first | decide | assumption | omega)) | ((with_reducible apply w_div); (first | decide | (constructor <;> first | assumption | omega))) | ((with_reducible apply w_mul); (first | exact .inr (by decide) | exact .inl (by decide) | omega)) | ((with_reducible apply w_pow); (decide)) | ((with_reducible apply w_ixL); (first | assumption | exact put_self); (first | exact atI0 | exact atI1 | exact atI2 | exact atI3 | exact atI_map (by omega) (by assumption))) | ((with_reducible apply w_getL); (first | assumption | exact put_self); (first | exact atI0 | exact atI1 | exact atI2 | exact atI3 | exact atI_map (by omega) (by assumption))) | ((with_reducible apply w_setL); (first | assumption | exact put_self); (first | exact ixL0 | exact ixL1 | exact ixL2)) | ((with_reducible apply w_ixD); (first | exact atI0 | exact atI1 | exact atI2 | exact atI3 | exact atI_map (by omega) (by assumption))) | ((with_reducible apply w_lenL); (first | assumption | exact put_self)) | ((with_reducible apply w_draw_l); (with_reducible assumption); (first | with_reducible assumption | omega | (simp only [List.length_cons, List.length_nil]; omega)); (first | with_reducible assumption | omega | (simp only [List.length_cons, List.length_nil]; omega)); (intro _ _ _ _ _)) | ((with_reducible refine w_ixA ?_ ?_ (allC ?_ ?_)); (first | with_reducible assumption | omega | (simp only [List.length_cons, List.length_nil]; omega)); (first | with_reducible assumption | omega | (simp only [List.length_cons, List.length_nil]; omega))) | with_reducible exact allN | with_reducible refine allC ?_ ?_ | ((with_reducible apply w_ixLA); (first | assumption | exact new_self); (first | with_reducible assumption | omega | (simp only [List.length_cons, List.length_nil]; omega)); (first | with_reducible assumption | omega | (simp only [List.length_cons, List.length_nil]; omega))) | ((with_reducible apply w_addS); (exact tok2 (by (repeat' (first | assumption | exact TOk.lit2 (by decide +kernel) | with_reducible apply TOk.app | with_reducible apply TOk.cut))) (by (repeat' (first | assumption | exact TOk.lit2 (by decide +kernel) | with_reducible apply TOk.app | with_reducible apply TOk.cut))) (by decide))) | ((with_reducible apply w_lenS2); ((repeat' (first | assumption | exact TOk.lit2 (by decide +kernel) | with_reducible apply TOk.app | with_reducible apply TOk.cut))); (decide); (intro _)) | ((with_reducible apply w_cutS); (exact TOk.len (by (repeat' (first | assumption | exact TOk.lit2 (by decide +kernel) | with_reducible apply TOk.app | with_reducible apply TOk.cut))) (by decide))) | with_reducible refine w_slice ?_ | with_reducible refine w_dict0 ?_ | with_reducible refine w_exc0 ?_ | with_reducible refine w_dict ?_ | with_reducible refine w_pairs0 ?_ | with_reducible refine w_pairs ?_ | with_reducible refine w_isi ?_ | with_reducible refine w_abs ?_ | with_reducible refine w_max ?_ | with_reducible refine w_min ?_ | with_reducible refine w_gNm ?_ | with_reducible refine w_gCons ?_ | with_reducible refine w_gNil ?_ | with_reducible refine w_retF ?_ | with_reducible refine w_lcI ?_ | with_reducible refine w_forI ?_ | with_reducible refine w_meth ?_ | (with_reducible refine w_part ?_) | (with_reducible refine w_itRange ?_) | (with_reducible refine w_itList ?_) | (with_reducible refine w_itStr ?_) | (with_reducible refine w_rev ?_) | with_reducible refine e_int ?_ | with_reducible refine e_str ?_ | with_reducible refine e_keyS ?_ | with_reducible refine e_keyI ?_ | with_reducible refine e_tyS ?_ | with_reducible refine e_tt ?_ | ((with_reducible refine e_rng ?_ ?_ ?_); (first | with_reducible assumption | omega | (simp only [List.length_cons, List.length_nil]; omega)); (first | with_reducible assumption | omega | (simp only [List.length_cons, List.length_nil]; omega))) | ((with_reducible apply e_isi); (exact rfl); (first | exact rfl | decide)) | ((with_reducible apply w_mkL); (decide); (exact rfl)) | ((with_reducible apply w_mkLp); (decide); (exact rfl)) | ((with_reducible apply w_mkLc); (decide)) | ((with_reducible apply w_mkT); (decide); (exact rfl)) | ((with_reducible apply w_mkTp); (decide); (exact rfl))))
      exact q
  refine w_fn rfl ?_
  unfold b_law_asked
  (repeat' (first | ((with_reducible apply W)) | with_reducible refine w_c ?_ | ((with_reducible apply w_var); (exact rfl)) | with_reducible refine w_m2 ?_ | with_reducible refine w_cons ?_ | with_reducible refine w_nil ?_ | with_reducible refine w_mk ?_ | with_reducible refine w_call ?_ | with_reducible refine w_sq ?_ | with_reducible refine w_set ?_ | with_reducible refine w_tst ?_ | with_reducible refine t_b ?_ | with_reducible refine w_if ?_ | with_reducible refine w_nx ?_ | with_reducible refine w_retS ?_ | with_reducible refine w_eqI ?_ | (with_reducible refine b_dec (fun _ => ?_) (fun _ => ?_)) | with_reducible refine w_addI ?_ | with_reducible refine w_sub' ?_ | with_reducible refine w_iadd ?_ | with_reducible refine w_lt ?_ | with_reducible refine w_le ?_ | with_reducible refine w_gt ?_ | with_reducible refine w_ge ?_ | with_reducible refine w_neI ?_ | with_reducible refine w_chain ?_ | with_reducible refine w_and ?_ | with_reducible refine w_or ?_ | with_reducible refine w_not ?_ | with_reducible refine w_andV ?_ | with_reducible refine w_orV ?_ | with_reducible refine w_notV ?_ | with_reducible refine w_mIf ?_ | with_reducible refine w_bnd ?_ | with_reducible refine w_ret ?_ | with_reducible refine b_t ?_ | with_reducible refine b_f ?_ | with_reducible refine b_not ?_ | with_reducible refine w_expr ?_ | with_reducible refine w_sub ?_ | with_reducible refine w_augS ?_ | with_reducible refine w_retN ?_ | with_reducible refine w_lenD ?_ | with_reducible refine w_lenT ?_ | with_reducible refine w_isub ?_ | with_reducible refine w_bk ?_ | with_reducible refine w_ct ?_ | ((with_reducible apply w_mod); (first | decide | assumption | omega)) | ((with_reducible apply w_div); (first | decide | (constructor <;> first | assumption | omega))) | ((with_reducible apply w_mul); (first | exact .inr (by decide) | exact .inl (by decide) | omega)) | ((with_reducible apply w_pow); (decide)) | ((with_reducible apply w_ixL); (first | assumption | exact put_self); (first | exact atI0 | exact atI1 | exact atI2 | exact atI3 | exact atI_map (by omega) (by assumption))) | ((with_reducible apply w_getL); (first | assumption | exact put_self); (first | exact atI0 | exact atI1 | exact atI2 | exact atI3 | exact atI_map (by omega) (by assumption))) | ((with_reducible apply w_setL); (first | assumption | exact put_self); (first | exact ixL0 | exact ixL1 | exact ixL2)) | ((with_reducible apply w_ixD); (first | exact atI0 | exact atI1 | exact atI2 | exact atI3 | exact atI_map (by omega) (by assumption))) | ((with_reducible apply w_lenL); (first | assumption | exact put_self)) | ((with_reducible apply w_draw_l); (with_reducible assumption); (first | with_reducible assumption | omega | (simp only [List.length_cons, List.length_nil]; omega)); (first | with_reducible assumption | omega | (simp only [List.length_cons, List.length_nil]; omega)); (intro _ _ _ _ _)) | ((with_reducible refine w_ixA ?_ ?_ (allC ?_ ?_)); (first | with_reducible assumption | omega | (simp only [List.length_cons, List.length_nil]; omega)); (first | with_reducible assumption | omega | (simp only [List.length_cons, List.length_nil]; omega))) | with_reducible exact allN | with_reducible refine allC ?_ ?_ | ((with_reducible apply w_ixLA); (first | assumption | exact new_self); (first | with_reducible assumption | omega | (simp only [List.length_cons, List.length_nil]; omega)); (first | with_reducible assumption | omega | (simp only [List.length_cons, List.length_nil]; omega))) | ((with_reducible apply w_addS); (exact tok2 (by (repeat' (first | assumption | exact TOk.lit2 (by decide +kernel) | with_reducible apply TOk.app | with_reducible apply TOk.cut))) (by (repeat' (first | assumption | exact TOk.lit2 (by decide +kernel) | with_reducible apply TOk.app | with_reducible apply TOk.cut))) (by decide))) | ((with_reducible apply w_lenS2); ((repeat' (first | assumption | exact TOk.lit2 (by decide +kernel) | with_reducible apply TOk.app | with_reducible apply TOk.cut))); (decide); (intro _)) | ((with_reducible apply w_cutS); (exact TOk.len (by (repeat' (first | assumption | exact TOk.lit2 (by decide +kernel) | with_reducible apply TOk.app | with_reducible apply TOk.cut))) (by decide))) | with_reducible refine w_slice ?_ | with_reducible refine w_dict0 ?_ | with_reducible refine w_exc0 ?_ | with_reducible refine w_dict ?_ | with_reducible refine w_pairs0 ?_ | with_reducible refine w_pairs ?_ | with_reducible refine w_isi ?_ | with_reducible refine w_abs ?_ | with_reducible refine w_max ?_ | with_reducible refine w_min ?_ | with_reducible refine w_gNm ?_ | with_reducible refine w_gCons ?_ | with_reducible refine w_gNil ?_ | with_reducible refine w_retF ?_ | with_reducible refine w_lcI ?_ | with_reducible refine w_forI ?_ | with_reducible refine w_meth ?_ | (with_reducible refine w_part ?_) | (with_reducible refine w_itRange ?_) | (with_reducible refine w_itList ?_) | (with_reducible refine w_itStr ?_) | (with_reducible refine w_rev ?_) | with_reducible refine e_int ?_ | with_reducible refine e_str ?_ | with_reducible refine e_keyS ?_ | with_reducible refine e_keyI ?_ | with_reducible refine e_tyS ?_ | with_reducible refine e_tt ?_ | ((with_reducible refine e_rng ?_ ?_ ?_); (first | with_reducible assumption | omega | (simp only [List.length_cons, List.length_nil]; omega)); (first | with_reducible assumption | omega | (simp only [List.length_cons, List.length_nil]; omega))) | ((with_reducible apply e_isi); (exact rfl); (first | exact rfl | decide)) | ((with_reducible apply w_mkL); (decide); (exact rfl)) | ((with_reducible apply w_mkLp); (decide); (exact rfl)) | ((with_reducible apply w_mkLc); (decide)) | ((with_reducible apply w_mkT); (decide); (exact rfl)) | ((with_reducible apply w_mkTp); (decide); (exact rfl))))
  all_goals try exact ⟨rfl, rfl⟩
  · refine w_fn rfl ?_
    unfold b_is_name
    (repeat' (first | ((with_reducible apply w_isiN); (exact hk); (exact e); (exact h1)) | with_reducible refine w_c ?_ | ((with_reducible apply w_var); (exact rfl)) | with_reducible refine w_m2 ?_ | with_reducible refine w_cons ?_ | with_reducible refine w_nil ?_ | with_reducible refine w_mk ?_ | with_reducible refine w_call ?_ | with_reducible refine w_sq ?_ | with_reducible refine w_set ?_ | with_reducible refine w_tst ?_ | with_reducible refine t_b ?_ | with_reducible refine w_if ?_ | with_reducible refine w_nx ?_ | with_reducible refine w_retS ?_ | with_reducible refine w_eqI ?_ | (with_reducible refine b_dec (fun _ => ?_) (fun _ => ?_)) | with_reducible refine w_addI ?_ | with_reducible refine w_sub' ?_ | with_reducible refine w_iadd ?_ | with_reducible refine w_lt ?_ | with_reducible refine w_le ?_ | with_reducible refine w_gt ?_ | with_reducible refine w_ge ?_ | with_reducible refine w_neI ?_ | with_reducible refine w_chain ?_ | with_reducible refine w_and ?_ | with_reducible refine w_or ?_ | with_reducible refine w_not ?_ | with_reducible refine w_andV ?_ | with_reducible refine w_orV ?_ | with_reducible refine w_notV ?_ | with_reducible refine w_mIf ?_ | with_reducible refine w_bnd ?_ | with_reducible refine w_ret ?_ | with_reducible refine b_t ?_ | with_reducible refine b_f ?_ | with_reducible refine b_not ?_ | with_reducible refine w_expr ?_ | with_reducible refine w_sub ?_ | with_reducible refine w_augS ?_ | with_reducible refine w_retN ?_ | with_reducible refine w_lenD ?_ | with_reducible refine w_lenT ?_ | with_reducible refine w_isub ?_ | with_reducible refine w_bk ?_ | with_reducible refine w_ct ?_ | ((with_reducible apply w_mod); (first | decide | assumption | omega)) | ((with_reducible apply w_div); (first | decide | (constructor <;> first | assumption | omega))) | ((with_reducible apply w_mul); (first | exact .inr (by decide) | exact .inl (by decide) | omega)) | ((with_reducible apply w_pow); (decide)) | ((with_reducible apply w_ixL); (first | assumption | exact put_self); (first | exact atI0 | exact atI1 | exact atI2 | exact atI3 | exact atI_map (by omega) (by assumption))) | ((with_reducible apply w_getL); (first | assumption | exact put_self); (first | exact atI0 | exact atI1 | exact atI2 | exact atI3 | exact atI_map (by omega) (by assumption))) | ((with_reducible apply w_setL); (first | assumption | exact put_self); (first | exact ixL0 | exact ixL1 | exact ixL2)) | ((with_reducible apply w_ixD); (first | exact atI0 | exact atI1 | exact atI2 | exact atI3 | exact atI_map (by omega) (by assumption))) | ((with_reducible apply w_lenL); (first | assumption | exact put_self)) | ((with_reducible apply w_draw_l); (with_reducible assumption); (first | with_reducible assumption | omega | (simp only [List.length_cons, List.length_nil]; omega)); (first | with_reducible assumption | omega | (simp only [List.length_cons, List.length_nil]; omega)); (intro _ _ _ _ _)) | ((with_reducible refine w_ixA ?_ ?_ (allC ?_ ?_)); (first | with_reducible assumption | omega | (simp only [List.length_cons, List.length_nil]; omega)); (first | with_reducible assumption | omega | (simp only [List.length_cons, List.length_nil]; omega))) | with_reducible exact allN | with_reducible refine allC ?_ ?_ | ((with_reducible apply w_ixLA); (first | assumption | exact new_self); (first | with_reducible assumption | omega | (simp only [List.length_cons, List.length_nil]; omega)); (first | with_reducible assumption | omega | (simp only [List.length_cons, List.length_nil]; omega))) | ((with_reducible apply w_addS); (exact tok2 (by (repeat' (first | assumption | exact TOk.lit2 (by decide +kernel) | with_reducible apply TOk.app | with_reducible apply TOk.cut))) (by (repeat' (first | assumption | exact TOk.lit2 (by decide +kernel) | with_reducible apply TOk.app | with_reducible apply TOk.cut))) (by decide))) | ((with_reducible apply w_lenS2); ((repeat' (first | assumption | exact TOk.lit2 (by decide +kernel) | with_reducible apply TOk.app | with_reducible apply TOk.cut))); (decide); (intro _)) | ((with_reducible apply w_cutS); (exact TOk.len (by (repeat' (first | assumption | exact TOk.lit2 (by decide +kernel) | with_reducible apply TOk.app | with_reducible apply TOk.cut))) (by decide))) | with_reducible refine w_slice ?_ | with_reducible refine w_dict0 ?_ | with_reducible refine w_exc0 ?_ | with_reducible refine w_dict ?_ | with_reducible refine w_pairs0 ?_ | with_reducible refine w_pairs ?_ | with_reducible refine w_isi ?_ | with_reducible refine w_abs ?_ | with_reducible refine w_max ?_ | with_reducible refine w_min ?_ | with_reducible refine w_gNm ?_ | with_reducible refine w_gCons ?_ | with_reducible refine w_gNil ?_ | with_reducible refine w_retF ?_ | with_reducible refine w_lcI ?_ | with_reducible refine w_forI ?_ | with_reducible refine w_meth ?_ | (with_reducible refine w_part ?_) | (with_reducible refine w_itRange ?_) | (with_reducible refine w_itList ?_) | (with_reducible refine w_itStr ?_) | (with_reducible refine w_rev ?_) | with_reducible refine e_int ?_ | with_reducible refine e_str ?_ | with_reducible refine e_keyS ?_ | with_reducible refine e_keyI ?_ | with_reducible refine e_tyS ?_ | with_reducible refine e_tt ?_ | ((with_reducible refine e_rng ?_ ?_ ?_); (first | with_reducible assumption | omega | (simp only [List.length_cons, List.length_nil]; omega)); (first | with_reducible assumption | omega | (simp only [List.length_cons, List.length_nil]; omega))) | ((with_reducible apply e_isi); (exact rfl); (first | exact rfl | decide)) | ((with_reducible apply w_mkL); (decide); (exact rfl)) | ((with_reducible apply w_mkLp); (decide); (exact rfl)) | ((with_reducible apply w_mkLc); (decide)) | ((with_reducible apply w_mkT); (decide); (exact rfl)) | ((with_reducible apply w_mkTp); (decide); (exact rfl))))
    exact ⟨rfl, rfl⟩
  · refine w_fn rfl ?_
    unfold b_is_cost
    (repeat' (first | ((with_reducible apply W)) | with_reducible refine w_c ?_ | ((with_reducible apply w_var); (exact rfl)) | with_reducible refine w_m2 ?_ | with_reducible refine w_cons ?_ | with_reducible refine w_nil ?_ | with_reducible refine w_mk ?_ | with_reducible refine w_call ?_ | with_reducible refine w_sq ?_ | with_reducible refine w_set ?_ | with_reducible refine w_tst ?_ | with_reducible refine t_b ?_ | with_reducible refine w_if ?_ | with_reducible refine w_nx ?_ | with_reducible refine w_retS ?_ | with_reducible refine w_eqI ?_ | (with_reducible refine b_dec (fun _ => ?_) (fun _ => ?_)) | with_reducible refine w_addI ?_ | with_reducible refine w_sub' ?_ | with_reducible refine w_iadd ?_ | with_reducible refine w_lt ?_ | with_reducible refine w_le ?_ | with_reducible refine w_gt ?_ | with_reducible refine w_ge ?_ | with_reducible refine w_neI ?_ | with_reducible refine w_chain ?_ | with_reducible refine w_and ?_ | with_reducible refine w_or ?_ | with_reducible refine w_not ?_ | with_reducible refine w_andV ?_ | with_reducible refine w_orV ?_ | with_reducible refine w_notV ?_ | with_reducible refine w_mIf ?_ | with_reducible refine w_bnd ?_ | with_reducible refine w_ret ?_ | with_reducible refine b_t ?_ | with_reducible refine b_f ?_ | with_reducible refine b_not ?_ | with_reducible refine w_expr ?_ | with_reducible refine w_sub ?_ | with_reducible refine w_augS ?_ | with_reducible refine w_retN ?_ | with_reducible refine w_lenD ?_ | with_reducible refine w_lenT ?_ | with_reducible refine w_isub ?_ | with_reducible refine w_bk ?_ | with_reducible refine w_ct ?_ | ((with_reducible apply w_mod); (first | decide | assumption | omega)) | ((with_reducible apply w_div); (first | decide | (constructor <;> first | assumption | omega))) | ((with_reducible apply w_mul); (first | exact .inr (by decide) | exact .inl (by decide) | omega)) | ((with_reducible apply w_pow); (decide)) | ((with_reducible apply w_ixL); (first | assumption | exact put_self); (first | exact atI0 | exact atI1 | exact atI2 | exact atI3 | exact atI_map (by omega) (by assumption))) | ((with_reducible apply w_getL); (first | assumption | exact put_self); (first | exact atI0 | exact atI1 | exact atI2 | exact atI3 | exact atI_map (by omega) (by assumption))) | ((with_reducible apply w_setL); (first | assumption | exact put_self); (first | exact ixL0 | exact ixL1 | exact ixL2)) | ((with_reducible apply w_ixD); (first | exact atI0 | exact atI1 | exact atI2 | exact atI3 | exact atI_map (by omega) (by assumption))) | ((with_reducible apply w_lenL); (first | assumption | exact put_self)) | ((with_reducible apply w_draw_l); (with_reducible assumption); (first | with_reducible assumption | omega | (simp only [List.length_cons, List.length_nil]; omega)); (first | with_reducible assumption | omega | (simp only [List.length_cons, List.length_nil]; omega)); (intro _ _ _ _ _)) | ((with_reducible refine w_ixA ?_ ?_ (allC ?_ ?_)); (first | with_reducible assumption | omega | (simp only [List.length_cons, List.length_nil]; omega)); (first | with_reducible assumption | omega | (simp only [List.length_cons, List.length_nil]; omega))) | with_reducible exact allN | with_reducible refine allC ?_ ?_ | ((with_reducible apply w_ixLA); (first | assumption | exact new_self); (first | with_reducible assumption | omega | (simp only [List.length_cons, List.length_nil]; omega)); (first | with_reducible assumption | omega | (simp only [List.length_cons, List.length_nil]; omega))) | ((with_reducible apply w_addS); (exact tok2 (by (repeat' (first | assumption | exact TOk.lit2 (by decide +kernel) | with_reducible apply TOk.app | with_reducible apply TOk.cut))) (by (repeat' (first | assumption | exact TOk.lit2 (by decide +kernel) | with_reducible apply TOk.app | with_reducible apply TOk.cut))) (by decide))) | ((with_reducible apply w_lenS2); ((repeat' (first | assumption | exact TOk.lit2 (by decide +kernel) | with_reducible apply TOk.app | with_reducible apply TOk.cut))); (decide); (intro _)) | ((with_reducible apply w_cutS); (exact TOk.len (by (repeat' (first | assumption | exact TOk.lit2 (by decide +kernel) | with_reducible apply TOk.app | with_reducible apply TOk.cut))) (by decide))) | with_reducible refine w_slice ?_ | with_reducible refine w_dict0 ?_ | with_reducible refine w_exc0 ?_ | with_reducible refine w_dict ?_ | with_reducible refine w_pairs0 ?_ | with_reducible refine w_pairs ?_ | with_reducible refine w_isi ?_ | with_reducible refine w_abs ?_ | with_reducible refine w_max ?_ | with_reducible refine w_min ?_ | with_reducible refine w_gNm ?_ | with_reducible refine w_gCons ?_ | with_reducible refine w_gNil ?_ | with_reducible refine w_retF ?_ | with_reducible refine w_lcI ?_ | with_reducible refine w_forI ?_ | with_reducible refine w_meth ?_ | (with_reducible refine w_part ?_) | (with_reducible refine w_itRange ?_) | (with_reducible refine w_itList ?_) | (with_reducible refine w_itStr ?_) | (with_reducible refine w_rev ?_) | with_reducible refine e_int ?_ | with_reducible refine e_str ?_ | with_reducible refine e_keyS ?_ | with_reducible refine e_keyI ?_ | with_reducible refine e_tyS ?_ | with_reducible refine e_tt ?_ | ((with_reducible refine e_rng ?_ ?_ ?_); (first | with_reducible assumption | omega | (simp only [List.length_cons, List.length_nil]; omega)); (first | with_reducible assumption | omega | (simp only [List.length_cons, List.length_nil]; omega))) | ((with_reducible apply e_isi); (exact rfl); (first | exact rfl | decide)) | ((with_reducible apply w_mkL); (decide); (exact rfl)) | ((with_reducible apply w_mkLp); (decide); (exact rfl)) | ((with_reducible apply w_mkLc); (decide)) | ((with_reducible apply w_mkT); (decide); (exact rfl)) | ((with_reducible apply w_mkTp); (decide); (exact rfl))))
    exact ⟨rfl, rfl⟩
  · refine w_fn rfl ?_
    unfold b_is_time
    (repeat' (first | ((with_reducible apply W)) | with_reducible refine w_c ?_ | ((with_reducible apply w_var); (exact rfl)) | with_reducible refine w_m2 ?_ | with_reducible refine w_cons ?_ | with_reducible refine w_nil ?_ | with_reducible refine w_mk ?_ | with_reducible refine w_call ?_ | with_reducible refine w_sq ?_ | with_reducible refine w_set ?_ | with_reducible refine w_tst ?_ | with_reducible refine t_b ?_ | with_reducible refine w_if ?_ | with_reducible refine w_nx ?_ | with_reducible refine w_retS ?_ | with_reducible refine w_eqI ?_ | (with_reducible refine b_dec (fun _ => ?_) (fun _ => ?_)) | with_reducible refine w_addI ?_ | with_reducible refine w_sub' ?_ | with_reducible refine w_iadd ?_ | with_reducible refine w_lt ?_ | with_reducible refine w_le ?_ | with_reducible refine w_gt ?_ | with_reducible refine w_ge ?_ | with_reducible refine w_neI ?_ | with_reducible refine w_chain ?_ | with_reducible refine w_and ?_ | with_reducible refine w_or ?_ | with_reducible refine w_not ?_ | with_reducible refine w_andV ?_ | with_reducible refine w_orV ?_ | with_reducible refine w_notV ?_ | with_reducible refine w_mIf ?_ | with_reducible refine w_bnd ?_ | with_reducible refine w_ret ?_ | with_reducible refine b_t ?_ | with_reducible refine b_f ?_ | with_reducible refine b_not ?_ | with_reducible refine w_expr ?_ | with_reducible refine w_sub ?_ | with_reducible refine w_augS ?_ | with_reducible refine w_retN ?_ | with_reducible refine w_lenD ?_ | with_reducible refine w_lenT ?_ | with_reducible refine w_isub ?_ | with_reducible refine w_bk ?_ | with_reducible refine w_ct ?_ | ((with_reducible apply w_mod); (first | decide | assumption | omega)) | ((with_reducible apply w_div); (first | decide | (constructor <;> first | assumption | omega))) | ((with_reducible apply w_mul); (first | exact .inr (by decide) | exact .inl (by decide) | omega)) | ((with_reducible apply w_pow); (decide)) | ((with_reducible apply w_ixL); (first | assumption | exact put_self); (first | exact atI0 | exact atI1 | exact atI2 | exact atI3 | exact atI_map (by omega) (by assumption))) | ((with_reducible apply w_getL); (first | assumption | exact put_self); (first | exact atI0 | exact atI1 | exact atI2 | exact atI3 | exact atI_map (by omega) (by assumption))) | ((with_reducible apply w_setL); (first | assumption | exact put_self); (first | exact ixL0 | exact ixL1 | exact ixL2)) | ((with_reducible apply w_ixD); (first | exact atI0 | exact atI1 | exact atI2 | exact atI3 | exact atI_map (by omega) (by assumption))) | ((with_reducible apply w_lenL); (first | assumption | exact put_self)) | ((with_reducible apply w_draw_l); (with_reducible assumption); (first | with_reducible assumption | omega | (simp only [List.length_cons, List.length_nil]; omega)); (first | with_reducible assumption | omega | (simp only [List.length_cons, List.length_nil]; omega)); (intro _ _ _ _ _)) | ((with_reducible refine w_ixA ?_ ?_ (allC ?_ ?_)); (first | with_reducible assumption | omega | (simp only [List.length_cons, List.length_nil]; omega)); (first | with_reducible assumption | omega | (simp only [List.length_cons, List.length_nil]; omega))) | with_reducible exact allN | with_reducible refine allC ?_ ?_ | ((with_reducible apply w_ixLA); (first | assumption | exact new_self); (first | with_reducible assumption | omega | (simp only [List.length_cons, List.length_nil]; omega)); (first | with_reducible assumption | omega | (simp only [List.length_cons, List.length_nil]; omega))) | ((with_reducible apply w_addS); (exact tok2 (by (repeat' (first | assumption | exact TOk.lit2 (by decide +kernel) | with_reducible apply TOk.app | with_reducible apply TOk.cut))) (by (repeat' (first | assumption | exact TOk.lit2 (by decide +kernel) | with_reducible apply TOk.app | with_reducible apply TOk.cut))) (by decide))) | ((with_reducible apply w_lenS2); ((repeat' (first | assumption | exact TOk.lit2 (by decide +kernel) | with_reducible apply TOk.app | with_reducible apply TOk.cut))); (decide); (intro _)) | ((with_reducible apply w_cutS); (exact TOk.len (by (repeat' (first | assumption | exact TOk.lit2 (by decide +kernel) | with_reducible apply TOk.app | with_reducible apply TOk.cut))) (by decide))) | with_reducible refine w_slice ?_ | with_reducible refine w_dict0 ?_ | with_reducible refine w_exc0 ?_ | with_reducible refine w_dict ?_ | with_reducible refine w_pairs0 ?_ | with_reducible refine w_pairs ?_ | with_reducible refine w_isi ?_ | with_reducible refine w_abs ?_ | with_reducible refine w_max ?_ | with_reducible refine w_min ?_ | with_reducible refine w_gNm ?_ | with_reducible refine w_gCons ?_ | with_reducible refine w_gNil ?_ | with_reducible refine w_retF ?_ | with_reducible refine w_lcI ?_ | with_reducible refine w_forI ?_ | with_reducible refine w_meth ?_ | (with_reducible refine w_part ?_) | (with_reducible refine w_itRange ?_) | (with_reducible refine w_itList ?_) | (with_reducible refine w_itStr ?_) | (with_reducible refine w_rev ?_) | with_reducible refine e_int ?_ | with_reducible refine e_str ?_ | with_reducible refine e_keyS ?_ | with_reducible refine e_keyI ?_ | with_reducible refine e_tyS ?_ | with_reducible refine e_tt ?_ | ((with_reducible refine e_rng ?_ ?_ ?_); (first | with_reducible assumption | omega | (simp only [List.length_cons, List.length_nil]; omega)); (first | with_reducible assumption | omega | (simp only [List.length_cons, List.length_nil]; omega))) | ((with_reducible apply e_isi); (exact rfl); (first | exact rfl | decide)) | ((with_reducible apply w_mkL); (decide); (exact rfl)) | ((with_reducible apply w_mkLp); (decide); (exact rfl)) | ((with_reducible apply w_mkLc); (decide)) | ((with_reducible apply w_mkT); (decide); (exact rfl)) | ((with_reducible apply w_mkTp); (decide); (exact rfl))))
    exact ⟨rfl, rfl⟩
  · refine w_fn rfl ?_
    unfold b_is_position
    (repeat' (first | ((with_reducible apply w_isiN); (exact hk); (exact e); (exact h1)) | with_reducible refine w_c ?_ | ((with_reducible apply w_var); (exact rfl)) | with_reducible refine w_m2 ?_ | with_reducible refine w_cons ?_ | with_reducible refine w_nil ?_ | with_reducible refine w_mk ?_ | with_reducible refine w_call ?_ | with_reducible refine w_sq ?_ | with_reducible refine w_set ?_ | with_reducible refine w_tst ?_ | with_reducible refine t_b ?_ | with_reducible refine w_if ?_ | with_reducible refine w_nx ?_ | with_reducible refine w_retS ?_ | with_reducible refine w_eqI ?_ | (with_reducible refine b_dec (fun _ => ?_) (fun _ => ?_)) | with_reducible refine w_addI ?_ | with_reducible refine w_sub' ?_ | with_reducible refine w_iadd ?_ | with_reducible refine w_lt ?_ | with_reducible refine w_le ?_ | with_reducible refine w_gt ?_ | with_reducible refine w_ge ?_ | with_reducible refine w_neI ?_ | with_reducible refine w_chain ?_ | with_reducible refine w_and ?_ | with_reducible refine w_or ?_ | with_reducible refine w_not ?_ | with_reducible refine w_andV ?_ | with_reducible refine w_orV ?_ | with_reducible refine w_notV ?_ | with_reducible refine w_mIf ?_ | with_reducible refine w_bnd ?_ | with_reducible refine w_ret ?_ | with_reducible refine b_t ?_ | with_reducible refine b_f ?_ | with_reducible refine b_not ?_ | with_reducible refine w_expr ?_ | with_reducible refine w_sub ?_ | with_reducible refine w_augS ?_ | with_reducible refine w_retN ?_ | with_reducible refine w_lenD ?_ | with_reducible refine w_lenT ?_ | with_reducible refine w_isub ?_ | with_reducible refine w_bk ?_ | with_reducible refine w_ct ?_ | ((with_reducible apply w_mod); (first | decide | assumption | omega)) | ((with_reducible apply w_div); (first | decide | (constructor <;> first | assumption | omega))) | ((with_reducible apply w_mul); (first | exact .inr (by decide) | exact .inl (by decide) | omega)) | ((with_reducible apply w_pow); (decide)) | ((with_reducible apply w_ixL); (first | assumption | exact put_self); (first | exact atI0 | exact atI1 | exact atI2 | exact atI3 | exact atI_map (by omega) (by assumption))) | ((with_reducible apply w_getL); (first | assumption | exact put_self); (first | exact atI0 | exact atI1 | exact atI2 | exact atI3 | exact atI_map (by omega) (by assumption))) | ((with_reducible apply w_setL); (first | assumption | exact put_self); (first | exact ixL0 | exact ixL1 | exact ixL2)) | ((with_reducible apply w_ixD); (first | exact atI0 | exact atI1 | exact atI2 | exact atI3 | exact atI_map (by omega) (by assumption))) | ((with_reducible apply w_lenL); (first | assumption | exact put_self)) | ((with_reducible apply w_draw_l); (with_reducible assumption); (first | with_reducible assumption | omega | (simp only [List.length_cons, List.length_nil]; omega)); (first | with_reducible assumption | omega | (simp only [List.length_cons, List.length_nil]; omega)); (intro _ _ _ _ _)) | ((with_reducible refine w_ixA ?_ ?_ (allC ?_ ?_)); (first | with_reducible assumption | omega | (simp only [List.length_cons, List.length_nil]; omega)); (first | with_reducible assumption | omega | (simp only [List.length_cons, List.length_nil]; omega))) | with_reducible exact allN | with_reducible refine allC ?_ ?_ | ((with_reducible apply w_ixLA); (first | assumption | exact new_self); (first | with_reducible assumption | omega | (simp only [List.length_cons, List.length_nil]; omega)); (first | with_reducible assumption | omega | (simp only [List.length_cons, List.length_nil]; omega))) | ((with_reducible apply w_addS); (exact tok2 (by (repeat' (first | assumption | exact TOk.lit2 (by decide +kernel) | with_reducible apply TOk.app | with_reducible apply TOk.cut))) (by (repeat' (first | assumption | exact TOk.lit2 (by decide +kernel) | with_reducible apply TOk.app | with_reducible apply TOk.cut))) (by decide))) | ((with_reducible apply w_lenS2); ((repeat' (first | assumption | exact TOk.lit2 (by decide +kernel) | with_reducible apply TOk.app | with_reducible apply TOk.cut))); (decide); (intro _)) | ((with_reducible apply w_cutS); (exact TOk.len (by (repeat' (first | assumption | exact TOk.lit2 (by decide +kernel) | with_reducible apply TOk.app | with_reducible apply TOk.cut))) (by decide))) | with_reducible refine w_slice ?_ | with_reducible refine w_dict0 ?_ | with_reducible refine w_exc0 ?_ | with_reducible refine w_dict ?_ | with_reducible refine w_pairs0 ?_ | with_reducible refine w_pairs ?_ | with_reducible refine w_isi ?_ | with_reducible refine w_abs ?_ | with_reducible refine w_max ?_ | with_reducible refine w_min ?_ | with_reducible refine w_gNm ?_ | with_reducible refine w_gCons ?_ | with_reducible refine w_gNil ?_ | with_reducible refine w_retF ?_ | with_reducible refine w_lcI ?_ | with_reducible refine w_forI ?_ | with_reducible refine w_meth ?_ | (with_reducible refine w_part ?_) | (with_reducible refine w_itRange ?_) | (with_reducible refine w_itList ?_) | (with_reducible refine w_itStr ?_) | (with_reducible refine w_rev ?_) | with_reducible refine e_int ?_ | with_reducible refine e_str ?_ | with_reducible refine e_keyS ?_ | with_reducible refine e_keyI ?_ | with_reducible refine e_tyS ?_ | with_reducible refine e_tt ?_ | ((with_reducible refine e_rng ?_ ?_ ?_); (first | with_reducible assumption | omega | (simp only [List.length_cons, List.length_nil]; omega)); (first | with_reducible assumption | omega | (simp only [List.length_cons, List.length_nil]; omega))) | ((with_reducible apply e_isi); (exact rfl); (first | exact rfl | decide)) | ((with_reducible apply w_mkL); (decide); (exact rfl)) | ((with_reducible apply w_mkLp); (decide); (exact rfl)) | ((with_reducible apply w_mkLc); (decide)) | ((with_reducible apply w_mkT); (decide); (exact rfl)) | ((with_reducible apply w_mkTp); (decide); (exact rfl))))
    exact ⟨rfl, rfl⟩
theorem w_whole {i : Int} {st : Sto} {Q : MV → Sto → Prop} {E : XP} (q : Q (.d (.bool true)) st) : Wp (m_is_whole [.d (.int i)]) st Q E := by
  refine w_fn rfl ?_
  unfold b_is_whole
  (repeat' (first | ((with_reducible apply w_draw_l); (with_reducible assumption); (first | with_reducible assumption | omega | (simp only [List.length_cons, List.length_nil]; omega)); (first | with_reducible assumption | omega | (simp only [List.length_cons, List.length_nil]; omega)); (intro _ _ _ _ _)) | with_reducible refine w_c ?_ | ((with_reducible apply w_var); (exact rfl)) | with_reducible refine w_m2 ?_ | with_reducible refine w_cons ?_ | with_reducible refine w_nil ?_ | with_reducible refine w_mk ?_ | with_reducible refine w_call ?_ | with_reducible refine w_sq ?_ | with_reducible refine w_set ?_ | with_reducible refine w_tst ?_ | with_reducible refine t_b ?_ | with_reducible refine w_if ?_ | with_reducible refine w_nx ?_ | with_reducible refine w_retS ?_ | with_reducible refine w_eqI ?_ | (with_reducible refine b_dec (fun _ => ?_) (fun _ => ?_)) | with_reducible refine w_addI ?_ | with_reducible refine w_sub' ?_ | with_reducible refine w_iadd ?_ | with_reducible refine w_lt ?_ | with_reducible refine w_le ?_ | with_reducible refine w_gt ?_ | with_reducible refine w_ge ?_ | with_reducible refine w_neI ?_ | with_reducible refine w_chain ?_ | with_reducible refine w_and ?_ | with_reducible refine w_or ?_ | with_reducible refine w_not ?_ | with_reducible refine w_andV ?_ | with_reducible refine w_orV ?_ | with_reducible refine w_notV ?_ | with_reducible refine w_mIf ?_ | with_reducible refine w_bnd ?_ | with_reducible refine w_ret ?_ | with_reducible refine b_t ?_ | with_reducible refine b_f ?_ | with_reducible refine b_not ?_ | with_reducible refine w_expr ?_ | with_reducible refine w_sub ?_ | with_reducible refine w_augS ?_ | with_reducible refine w_retN ?_ | with_reducible refine w_lenD ?_ | with_reducible refine w_lenT ?_ | with_reducible refine w_isub ?_ | with_reducible refine w_bk ?_ | with_reducible refine w_ct ?_ | ((with_reducible apply w_mod); (first | decide | assumption | omega)) | ((with_reducible apply w_div); (first | decide | (constructor <;> first | assumption | omega))) | ((with_reducible apply w_mul); (first | exact .inr (by decide) | exact .inl (by decide) | omega)) | ((with_reducible apply w_pow); (decide)) | ((with_reducible apply w_ixL); (first | assumption | exact put_self); (first | exact atI0 | exact atI1 | exact atI2 | exact atI3 | exact atI_map (by omega) (by assumption))) | ((with_reducible apply w_getL); (first | assumption | exact put_self); (first | exact atI0 | exact atI1 | exact atI2 | exact atI3 | exact atI_map (by omega) (by assumption))) | ((with_reducible apply w_setL); (first | assumption | exact put_self); (first | exact ixL0 | exact ixL1 | exact ixL2)) | ((with_reducible apply w_ixD); (first | exact atI0 | exact atI1 | exact atI2 | exact atI3 | exact atI_map (by omega) (by assumption))) | ((with_reducible apply w_lenL); (first | assumption | exact put_self)) | ((with_reducible refine w_ixA ?_ ?_ (allC ?_ ?_)); (first | with_reducible assumption | omega | (simp only [List.length_cons, List.length_nil]; omega)); (first | with_reducible assumption | omega | (simp only [List.length_cons, List.length_nil]; omega))) | with_reducible exact allN | with_reducible refine allC ?_ ?_ | ((with_reducible apply w_ixLA); (first | assumption | exact new_self); (first | with_reducible assumption | omega | (simp only [List.length_cons, List.length_nil]; omega)); (first | with_reducible assumption | omega | (simp only [List.length_cons, List.length_nil]; omega))) | ((with_reducible apply w_addS); (exact tok2 (by (repeat' (first | assumption | exact TOk.lit2 (by decide +kernel) | with_reducible apply TOk.app | with_reducible apply TOk.cut))) (by (repeat' (first | assumption | exact TOk.lit2 (by decide +kernel) | with_reducible apply TOk.app | with_reducible apply TOk.cut))) (by decide))) | ((with_reducible apply w_lenS2); ((repeat' (first | assumption | exact TOk.lit2 (by decide +kernel) | with_reducible apply TOk.app | with_reducible apply TOk.cut))); (decide); (intro _)) | ((with_reducible apply w_cutS); (exact TOk.len (by (repeat' (first | assumption | exact TOk.lit2 (by decide +kernel) | with_reducible apply TOk.app | with_reducible apply TOk.cut))) (by decide))) | with_reducible refine w_slice ?_ | with_reducible refine w_dict0 ?_ | with_reducible refine w_exc0 ?_ | with_reducible refine w_dict ?_ | with_reducible refine w_pairs0 ?_ | with_reducible refine w_pairs ?_ | with_reducible refine w_isi ?_ | with_reducible refine w_abs ?_ | with_reducible refine w_max ?_ | with_reducible refine w_min ?_ | with_reducible refine w_gNm ?_ | with_reducible refine w_gCons ?_ | with_reducible refine w_gNil ?_ | with_reducible refine w_retF ?_ | with_reducible refine w_lcI ?_ | with_reducible refine w_forI ?_ | with_reducible refine w_meth ?_ | (with_reducible refine w_part ?_) | (with_reducible refine w_itRange ?_) | (with_reducible refine w_itList ?_) | (with_reducible refine w_itStr ?_) | (with_reducible refine w_rev ?_) | with_reducible refine e_int ?_ | with_reducible refine e_str ?_ | with_reducible refine e_keyS ?_ | with_reducible refine e_keyI ?_ | with_reducible refine e_tyS ?_ | with_reducible refine e_tt ?_ | ((with_reducible refine e_rng ?_ ?_ ?_); (first | with_reducible assumption | omega | (simp only [List.length_cons, List.length_nil]; omega)); (first | with_reducible assumption | omega | (simp only [List.length_cons, List.length_nil]; omega))) | ((with_reducible apply e_isi); (exact rfl); (first | exact rfl | decide)) | ((with_reducible apply w_mkL); (decide); (exact rfl)) | ((with_reducible apply w_mkLp); (decide); (exact rfl)) | ((with_reducible apply w_mkLc); (decide)) | ((with_reducible apply w_mkT); (decide); (exact rfl)) | ((with_reducible apply w_mkTp); (decide); (exact rfl))))
  exact q
theorem w_wholeS {i : Str} {st : Sto} {Q : MV → Sto → Prop} {E : XP} (q : Q (.d (.bool false)) st) : Wp (m_is_whole [.d (.str i)]) st Q E := by
  refine w_fn rfl ?_
  unfold b_is_whole
  (repeat' (first | ((with_reducible apply w_draw_l); (with_reducible assumption); (first | with_reducible assumption | omega | (simp only [List.length_cons, List.length_nil]; omega)); (first | with_reducible assumption | omega | (simp only [List.length_cons, List.length_nil]; omega)); (intro _ _ _ _ _)) | with_reducible refine w_c ?_ | ((with_reducible apply w_var); (exact rfl)) | with_reducible refine w_m2 ?_ | with_reducible refine w_cons ?_ | with_reducible refine w_nil ?_ | with_reducible refine w_mk ?_ | with_reducible refine w_call ?_ | with_reducible refine w_sq ?_ | with_reducible refine w_set ?_ | with_reducible refine w_tst ?_ | with_reducible refine t_b ?_ | with_reducible refine w_if ?_ | with_reducible refine w_nx ?_ | with_reducible refine w_retS ?_ | with_reducible refine w_eqI ?_ | (with_reducible refine b_dec (fun _ => ?_) (fun _ => ?_)) | with_reducible refine w_addI ?_ | with_reducible refine w_sub' ?_ | with_reducible refine w_iadd ?_ | with_reducible refine w_lt ?_ | with_reducible refine w_le ?_ | with_reducible refine w_gt ?_ | with_reducible refine w_ge ?_ | with_reducible refine w_neI ?_ | with_reducible refine w_chain ?_ | with_reducible refine w_and ?_ | with_reducible refine w_or ?_ | with_reducible refine w_not ?_ | with_reducible refine w_andV ?_ | with_reducible refine w_orV ?_ | with_reducible refine w_notV ?_ | with_reducible refine w_mIf ?_ | with_reducible refine w_bnd ?_ | with_reducible refine w_ret ?_ | with_reducible refine b_t ?_ | with_reducible refine b_f ?_ | with_reducible refine b_not ?_ | with_reducible refine w_expr ?_ | with_reducible refine w_sub ?_ | with_reducible refine w_augS ?_ | with_reducible refine w_retN ?_ | with_reducible refine w_lenD ?_ | with_reducible refine w_lenT ?_ | with_reducible refine w_isub ?_ | with_reducible refine w_bk ?_ | with_reducible refine w_ct ?_ | ((with_reducible apply w_mod); (first | decide | assumption | omega)) | ((with_reducible apply w_div); (first | decide | (constructor <;> first | assumption | omega))) | ((with_reducible apply w_mul); (first | exact .inr (by decide) | exact .inl (by decide) | omega)) | ((with_reducible apply w_pow); (decide)) | ((with_reducible apply w_ixL); (first | assumption | exact put_self); (first | exact atI0 | exact atI1 | exact atI2 | exact atI3 | exact atI_map (by omega) (by assumption))) | ((with_reducible apply w_getL); (first | assumption | exact put_self); (first | exact atI0 | exact atI1 | exact atI2 | exact atI3 | exact atI_map (by omega) (by assumption))) | ((with_reducible apply w_setL); (first | assumption | exact put_self); (first | exact ixL0 | exact ixL1 | exact ixL2)) | ((with_reducible apply w_ixD); (first | exact atI0 | exact atI1 | exact atI2 | exact atI3 | exact atI_map (by omega) (by assumption))) | ((with_reducible apply w_lenL); (first | assumption | exact put_self)) | ((with_reducible refine w_ixA ?_ ?_ (allC ?_ ?_)); (first | with_reducible assumption | omega | (simp only [List.length_cons, List.length_nil]; omega)); (first | with_reducible assumption | omega | (simp only [List.length_cons, List.length_nil]; omega))) | with_reducible exact allN | with_reducible refine allC ?_ ?_ | ((with_reducible apply w_ixLA); (first | assumption | exact new_self); (first | with_reducible assumption | omega | (simp only [List.length_cons, List.length_nil]; omega)); (first | with_reducible assumption | omega | (simp only [List.length_cons, List.length_nil]; omega))) | ((with_reducible apply w_addS); (exact tok2 (by (repeat' (first | assumption | exact TOk.lit2 (by decide +kernel) | with_reducible apply TOk.app | with_reducible apply TOk.cut))) (by (repeat' (first | assumption | exact TOk.lit2 (by decide +kernel) | with_reducible apply TOk.app | with_reducible apply TOk.cut))) (by decide))) | ((with_reducible apply w_lenS2); ((repeat' (first | assumption | exact TOk.lit2 (by decide +kernel) | with_reducible apply TOk.app | with_reducible apply TOk.cut))); (decide); (intro _)) | ((with_reducible apply w_cutS); (exact TOk.len (by (repeat' (first | assumption | exact TOk.lit2 (by decide +kernel) | with_reducible apply TOk.app | with_reducible apply TOk.cut))) (by decide))) | with_reducible refine w_slice ?_ | with_reducible refine w_dict0 ?_ | with_reducible refine w_exc0 ?_ | with_reducible refine w_dict ?_ | with_reducible refine w_pairs0 ?_ | with_reducible refine w_pairs ?_ | with_reducible refine w_isi ?_ | with_reducible refine w_abs ?_ | with_reducible refine w_max ?_ | with_reducible refine w_min ?_ | with_reducible refine w_gNm ?_ | with_reducible refine w_gCons ?_ | with_reducible refine w_gNil ?_ | with_reducible refine w_retF ?_ | with_reducible refine w_lcI ?_ | with_reducible refine w_forI ?_ | with_reducible refine w_meth ?_ | (with_reducible refine w_part ?_) | (with_reducible refine w_itRange ?_) | (with_reducible refine w_itList ?_) | (with_reducible refine w_itStr ?_) | (with_reducible refine w_rev ?_) | with_reducible refine e_int ?_ | with_reducible refine e_str ?_ | with_reducible refine e_keyS ?_ | with_reducible refine e_keyI ?_ | with_reducible refine e_tyS ?_ | with_reducible refine e_tt ?_ | ((with_reducible refine e_rng ?_ ?_ ?_); (first | with_reducible assumption | omega | (simp only [List.length_cons, List.length_nil]; omega)); (first | with_reducible assumption | omega | (simp only [List.length_cons, List.length_nil]; omega))) | ((with_reducible apply e_isi); (exact rfl); (first | exact rfl | decide)) | ((with_reducible apply w_mkL); (decide); (exact rfl)) | ((with_reducible apply w_mkLp); (decide); (exact rfl)) | ((with_reducible apply w_mkLc); (decide)) | ((with_reducible apply w_mkT); (decide); (exact rfl)) | ((with_reducible apply w_mkTp); (decide); (exact rfl))))
  exact q
theorem asked_int {s : Sto} {i : Int} {w : Nat} (hw : w < 5) : Wp (m_law_asked [.d (.int w), .d (.int i)]) s (fun v s' => ∃ b, (bsOf (.d (.int i)))[w]? = some b ∧ v = .d (.bool b) ∧ s' = s) noX := by
  refine w_fn rfl ?_
  unfold b_law_asked
  (repeat' (first | ((with_reducible apply w_whole)) | with_reducible refine w_c ?_ | ((with_reducible apply w_var); (exact rfl)) | with_reducible refine w_m2 ?_ | with_reducible refine w_cons ?_ | with_reducible refine w_nil ?_ | with_reducible refine w_mk ?_ | with_reducible refine w_call ?_ | with_reducible refine w_sq ?_ | with_reducible refine w_set ?_ | with_reducible refine w_tst ?_ | with_reducible refine t_b ?_ | with_reducible refine w_if ?_ | with_reducible refine w_nx ?_ | with_reducible refine w_retS ?_ | with_reducible refine w_eqI ?_ | (with_reducible refine b_dec (fun _ => ?_) (fun _ => ?_)) | with_reducible refine w_addI ?_ | with_reducible refine w_sub' ?_ | with_reducible refine w_iadd ?_ | with_reducible refine w_lt ?_ | with_reducible refine w_le ?_ | with_reducible refine w_gt ?_ | with_reducible refine w_ge ?_ | with_reducible refine w_neI ?_ | with_reducible refine w_chain ?_ | with_reducible refine w_and ?_ | with_reducible refine w_or ?_ | with_reducible refine w_not ?_ | with_reducible refine w_andV ?_ | with_reducible refine w_orV ?_ | with_reducible refine w_notV ?_ | with_reducible refine w_mIf ?_ | with_reducible refine w_bnd ?_ | with_reducible refine w_ret ?_ | with_reducible refine b_t ?_ | with_reducible refine b_f ?_ | with_reducible refine b_not ?_ | with_reducible refine w_expr ?_ | with_reducible refine w_sub ?_ | with_reducible refine w_augS ?_ | with_reducible refine w_retN ?_ | with_reducible refine w_lenD ?_ | with_reducible refine w_lenT ?_ | with_reducible refine w_isub ?_ | with_reducible refine w_bk ?_ | with_reducible refine w_ct ?_ | ((with_reducible apply w_mod); (first | decide | assumption | omega)) | ((with_reducible apply w_div); (first | decide | (constructor <;> first | assumption | omega))) | ((with_reducible apply w_mul); (first | exact .inr (by decide) | exact .inl (by decide) | omega)) | ((with_reducible apply w_pow); (decide)) | ((with_reducible apply w_ixL); (first | assumption | exact put_self); (first | exact atI0 | exact atI1 | exact atI2 | exact atI3 | exact atI_map (by omega) (by assumption))) | ((with_reducible apply w_getL); (first | assumption | exact put_self); (first | exact atI0 | exact atI1 | exact atI2 | exact atI3 | exact atI_map (by omega) (by assumption))) | ((with_reducible apply w_setL); (first | assumption | exact put_self); (first | exact ixL0 | exact ixL1 | exact ixL2)) | ((with_reducible apply w_ixD); (first | exact atI0 | exact atI1 | exact atI2 | exact atI3 | exact atI_map (by omega) (by assumption))) | ((with_reducible apply w_lenL); (first | assumption | exact put_self)) | ((with_reducible apply w_draw_l); (with_reducible assumption); (first | with_reducible assumption | omega | (simp only [List.length_cons, List.length_nil]; omega)); (first | with_reducible assumption | omega | (simp only [List.length_cons, List.length_nil]; omega)); (intro _ _ _ _ _)) | ((with_reducible refine w_ixA ?_ ?_ (allC ?_ ?_)); (first | with_reducible assumption | omega | (simp only [List.length_cons, List.length_nil]; omega)); (first | with_reducible assumption | omega | (simp only [List.length_cons, List.length_nil]; omega))) | with_reducible exact allN | with_reducible refine allC ?_ ?_ | ((with_reducible apply w_ixLA); (first | assumption | exact new_self); (first | with_reducible assumption | omega | (simp only [List.length_cons, List.length_nil]; omega)); (first | with_reducible assumption | omega | (simp only [List.length_cons, List.length_nil]; omega))) | ((with_reducible apply w_addS); (exact tok2 (by (repeat' (first | assumption | exact TOk.lit2 (by decide +kernel) | with_reducible apply TOk.app | with_reducible apply TOk.cut))) (by (repeat' (first | assumption | exact TOk.lit2 (by decide +kernel) | with_reducible apply TOk.app | with_reducible apply TOk.cut))) (by decide))) | ((with_reducible apply w_lenS2); ((repeat' (first | assumption | exact TOk.lit2 (by decide +kernel) | with_reducible apply TOk.app | with_reducible apply TOk.cut))); (decide); (intro _)) | ((with_reducible apply w_cutS); (exact TOk.len (by (repeat' (first | assumption | exact TOk.lit2 (by decide +kernel) | with_reducible apply TOk.app | with_reducible apply TOk.cut))) (by decide))) | with_reducible refine w_slice ?_ | with_reducible refine w_dict0 ?_ | with_reducible refine w_exc0 ?_ | with_reducible refine w_dict ?_ | with_reducible refine w_pairs0 ?_ | with_reducible refine w_pairs ?_ | with_reducible refine w_isi ?_ | with_reducible refine w_abs ?_ | with_reducible refine w_max ?_ | with_reducible refine w_min ?_ | with_reducible refine w_gNm ?_ | with_reducible refine w_gCons ?_ | with_reducible refine w_gNil ?_ | with_reducible refine w_retF ?_ | with_reducible refine w_lcI ?_ | with_reducible refine w_forI ?_ | with_reducible refine w_meth ?_ | (with_reducible refine w_part ?_) | (with_reducible refine w_itRange ?_) | (with_reducible refine w_itList ?_) | (with_reducible refine w_itStr ?_) | (with_reducible refine w_rev ?_) | with_reducible refine e_int ?_ | with_reducible refine e_str ?_ | with_reducible refine e_keyS ?_ | with_reducible refine e_keyI ?_ | with_reducible refine e_tyS ?_ | with_reducible refine e_tt ?_ | ((with_reducible refine e_rng ?_ ?_ ?_); (first | with_reducible assumption | omega | (simp only [List.length_cons, List.length_nil]; omega)); (first | with_reducible assumption | omega | (simp only [List.length_cons, List.length_nil]; omega))) | ((with_reducible apply e_isi); (exact rfl); (first | exact rfl | decide)) | ((with_reducible apply w_mkL); (decide); (exact rfl)) | ((with_reducible apply w_mkLp); (decide); (exact rfl)) | ((with_reducible apply w_mkLc); (decide)) | ((with_reducible apply w_mkT); (decide); (exact rfl)) | ((with_reducible apply w_mkTp); (decide); (exact rfl))))
  · obtain rfl : w = 0 := by omega
    exact ⟨_, rfl, rfl, rfl⟩
  · obtain rfl : w = 1 := by omega
    refine w_fn rfl ?_
    unfold b_is_name
    (repeat' (first | ((with_reducible apply w_draw_l); (with_reducible assumption); (first | with_reducible assumption | omega | (simp only [List.length_cons, List.length_nil]; omega)); (first | with_reducible assumption | omega | (simp only [List.length_cons, List.length_nil]; omega)); (intro _ _ _ _ _)) | with_reducible refine w_c ?_ | ((with_reducible apply w_var); (exact rfl)) | with_reducible refine w_m2 ?_ | with_reducible refine w_cons ?_ | with_reducible refine w_nil ?_ | with_reducible refine w_mk ?_ | with_reducible refine w_call ?_ | with_reducible refine w_sq ?_ | with_reducible refine w_set ?_ | with_reducible refine w_tst ?_ | with_reducible refine t_b ?_ | with_reducible refine w_if ?_ | with_reducible refine w_nx ?_ | with_reducible refine w_retS ?_ | with_reducible refine w_eqI ?_ | (with_reducible refine b_dec (fun _ => ?_) (fun _ => ?_)) | with_reducible refine w_addI ?_ | with_reducible refine w_sub' ?_ | with_reducible refine w_iadd ?_ | with_reducible refine w_lt ?_ | with_reducible refine w_le ?_ | with_reducible refine w_gt ?_ | with_reducible refine w_ge ?_ | with_reducible refine w_neI ?_ | with_reducible refine w_chain ?_ | with_reducible refine w_and ?_ | with_reducible refine w_or ?_ | with_reducible refine w_not ?_ | with_reducible refine w_andV ?_ | with_reducible refine w_orV ?_ | with_reducible refine w_notV ?_ | with_reducible refine w_mIf ?_ | with_reducible refine w_bnd ?_ | with_reducible refine w_ret ?_ | with_reducible refine b_t ?_ | with_reducible refine b_f ?_ | with_reducible refine b_not ?_ | with_reducible refine w_expr ?_ | with_reducible refine w_sub ?_ | with_reducible refine w_augS ?_ | with_reducible refine w_retN ?_ | with_reducible refine w_lenD ?_ | with_reducible refine w_lenT ?_ | with_reducible refine w_isub ?_ | with_reducible refine w_bk ?_ | with_reducible refine w_ct ?_ | ((with_reducible apply w_mod); (first | decide | assumption | omega)) | ((with_reducible apply w_div); (first | decide | (constructor <;> first | assumption | omega))) | ((with_reducible apply w_mul); (first | exact .inr (by decide) | exact .inl (by decide) | omega)) | ((with_reducible apply w_pow); (decide)) | ((with_reducible apply w_ixL); (first | assumption | exact put_self); (first | exact atI0 | exact atI1 | exact atI2 | exact atI3 | exact atI_map (by omega) (by assumption))) | ((with_reducible apply w_getL); (first | assumption | exact put_self); (first | exact atI0 | exact atI1 | exact atI2 | exact atI3 | exact atI_map (by omega) (by assumption))) | ((with_reducible apply w_setL); (first | assumption | exact put_self); (first | exact ixL0 | exact ixL1 | exact ixL2)) | ((with_reducible apply w_ixD); (first | exact atI0 | exact atI1 | exact atI2 | exact atI3 | exact atI_map (by omega) (by assumption))) | ((with_reducible apply w_lenL); (first | assumption | exact put_self)) | ((with_reducible refine w_ixA ?_ ?_ (allC ?_ ?_)); (first | with_reducible assumption | omega | (simp only [List.length_cons, List.length_nil]; omega)); (first | with_reducible assumption | omega | (simp only [List.length_cons, List.length_nil]; omega))) | with_reducible exact allN | with_reducible refine allC ?_ ?_ | ((with_reducible apply w_ixLA); (first | assumption | exact new_self); (first | with_reducible assumption | omega | (simp only [List.length_cons, List.length_nil]; omega)); (first | with_reducible assumption | omega | (simp only [List.length_cons, List.length_nil]; omega))) | ((with_reducible apply w_addS); (exact tok2 (by (repeat' (first | assumption | exact TOk.lit2 (by decide +kernel) | with_reducible apply TOk.app | with_reducible apply TOk.cut))) (by (repeat' (first | assumption | exact TOk.lit2 (by decide +kernel) | with_reducible apply TOk.app | with_reducible apply TOk.cut))) (by decide))) | ((with_reducible apply w_lenS2); ((repeat' (first | assumption | exact TOk.lit2 (by decide +kernel) | with_reducible apply TOk.app | with_reducible apply TOk.cut))); (decide); (intro _)) | ((with_reducible apply w_cutS); (exact TOk.len (by (repeat' (first | assumption | exact TOk.lit2 (by decide +kernel) | with_reducible apply TOk.app | with_reducible apply TOk.cut))) (by decide))) | with_reducible refine w_slice ?_ | with_reducible refine w_dict0 ?_ | with_reducible refine w_exc0 ?_ | with_reducible refine w_dict ?_ | with_reducible refine w_pairs0 ?_ | with_reducible refine w_pairs ?_ | with_reducible refine w_isi ?_ | with_reducible refine w_abs ?_ | with_reducible refine w_max ?_ | with_reducible refine w_min ?_ | with_reducible refine w_gNm ?_ | with_reducible refine w_gCons ?_ | with_reducible refine w_gNil ?_ | with_reducible refine w_retF ?_ | with_reducible refine w_lcI ?_ | with_reducible refine w_forI ?_ | with_reducible refine w_meth ?_ | (with_reducible refine w_part ?_) | (with_reducible refine w_itRange ?_) | (with_reducible refine w_itList ?_) | (with_reducible refine w_itStr ?_) | (with_reducible refine w_rev ?_) | with_reducible refine e_int ?_ | with_reducible refine e_str ?_ | with_reducible refine e_keyS ?_ | with_reducible refine e_keyI ?_ | with_reducible refine e_tyS ?_ | with_reducible refine e_tt ?_ | ((with_reducible refine e_rng ?_ ?_ ?_); (first | with_reducible assumption | omega | (simp only [List.length_cons, List.length_nil]; omega)); (first | with_reducible assumption | omega | (simp only [List.length_cons, List.length_nil]; omega))) | ((with_reducible apply e_isi); (exact rfl); (first | exact rfl | decide)) | ((with_reducible apply w_mkL); (decide); (exact rfl)) | ((with_reducible apply w_mkLp); (decide); (exact rfl)) | ((with_reducible apply w_mkLc); (decide)) | ((with_reducible apply w_mkT); (decide); (exact rfl)) | ((with_reducible apply w_mkTp); (decide); (exact rfl))))
    exact ⟨_, rfl, rfl, rfl⟩
  · obtain rfl : w = 2 := by omega
    refine w_fn rfl ?_
    unfold b_is_cost
    (repeat' (first | ((with_reducible apply w_whole)) | with_reducible refine w_c ?_ | ((with_reducible apply w_var); (exact rfl)) | with_reducible refine w_m2 ?_ | with_reducible refine w_cons ?_ | with_reducible refine w_nil ?_ | with_reducible refine w_mk ?_ | with_reducible refine w_call ?_ | with_reducible refine w_sq ?_ | with_reducible refine w_set ?_ | with_reducible refine w_tst ?_ | with_reducible refine t_b ?_ | with_reducible refine w_if ?_ | with_reducible refine w_nx ?_ | with_reducible refine w_retS ?_ | with_reducible refine w_eqI ?_ | (with_reducible refine b_dec (fun _ => ?_) (fun _ => ?_)) | with_reducible refine w_addI ?_ | with_reducible refine w_sub' ?_ | with_reducible refine w_iadd ?_ | with_reducible refine w_lt ?_ | with_reducible refine w_le ?_ | with_reducible refine w_gt ?_ | with_reducible refine w_ge ?_ | with_reducible refine w_neI ?_ | with_reducible refine w_chain ?_ | with_reducible refine w_and ?_ | with_reducible refine w_or ?_ | with_reducible refine w_not ?_ | with_reducible refine w_andV ?_ | with_reducible refine w_orV ?_ | with_reducible refine w_notV ?_ | with_reducible refine w_mIf ?_ | with_reducible refine w_bnd ?_ | with_reducible refine w_ret ?_ | with_reducible refine b_t ?_ | with_reducible refine b_f ?_ | with_reducible refine b_not ?_ | with_reducible refine w_expr ?_ | with_reducible refine w_sub ?_ | with_reducible refine w_augS ?_ | with_reducible refine w_retN ?_ | with_reducible refine w_lenD ?_ | with_reducible refine w_lenT ?_ | with_reducible refine w_isub ?_ | with_reducible refine w_bk ?_ | with_reducible refine w_ct ?_ | ((with_reducible apply w_mod); (first | decide | assumption | omega)) | ((with_reducible apply w_div); (first | decide | (constructor <;> first | assumption | omega))) | ((with_reducible apply w_mul); (first | exact .inr (by decide) | exact .inl (by decide) | omega)) | ((with_reducible apply w_pow); (decide)) | ((with_reducible apply w_ixL); (first | assumption | exact put_self); (first | exact atI0 | exact atI1 | exact atI2 | exact atI3 | exact atI_map (by omega) (by assumption))) | ((with_reducible apply w_getL); (first | assumption | exact put_self); (first | exact atI0 | exact atI1 | exact atI2 | exact atI3 | exact atI_map (by omega) (by assumption))) | ((with_reducible apply w_setL); (first | assumption | exact put_self); (first | exact ixL0 | exact ixL1 | exact ixL2)) | ((with_reducible apply w_ixD); (first | exact atI0 | exact atI1 | exact atI2 | exact atI3 | exact atI_map (by omega) (by assumption))) | ((with_reducible apply w_lenL); (first | assumption | exact put_self)) | ((with_reducible apply w_draw_l); (with_reducible assumption); (first | with_reducible assumption | omega | (simp only [List.length_cons, List.length_nil]; omega)); (first | with_reducible assumption | omega | (simp only [List.length_cons, List.length_nil]; omega)); (intro _ _ _ _ _)) | ((with_reducible refine w_ixA ?_ ?_ (allC ?_ ?_)); (first | with_reducible assumption | omega | (simp only [List.length_cons, List.length_nil]; omega)); (first | with_reducible assumption | omega | (simp only [List.length_cons, List.length_nil]; omega))) | with_reducible exact allN | with_reducible refine allC ?_ ?_ | ((with_reducible apply w_ixLA); (first | assumption | exact new_self); (first | with_reducible assumption | omega | (simp only [List.length_cons, List.length_nil]; omega)); (first | with_reducible assumption | omega | (simp only [List.length_cons, List.length_nil]; omega))) | ((with_reducible apply w_addS); (exact tok2 (by (repeat' (first | assumption | exact TOk.lit2 (by decide +kernel) | with_reducible apply TOk.app | with_reducible apply TOk.cut))) (by (repeat' (first | assumption | exact TOk.lit2 (by decide +kernel) | with_reducible apply TOk.app | with_reducible apply TOk.cut))) (by decide))) | ((with_reducible apply w_lenS2); ((repeat' (first | assumption | exact TOk.lit2 (by decide +kernel) | with_reducible apply TOk.app | with_reducible apply TOk.cut))); (decide); (intro _)) | ((with_reducible apply w_cutS); (exact TOk.len (by (repeat' (first | assumption | exact TOk.lit2 (by decide +kernel) | with_reducible apply TOk.app | with_reducible apply TOk.cut))) (by decide))) | with_reducible refine w_slice ?_ | with_reducible refine w_dict0 ?_ | with_reducible refine w_exc0 ?_ | with_reducible refine w_dict ?_ | with_reducible refine w_pairs0 ?_ | with_reducible refine w_pairs ?_ | with_reducible refine w_isi ?_ | with_reducible refine w_abs ?_ | with_reducible refine w_max ?_ | with_reducible refine w_min ?_ | with_reducible refine w_gNm ?_ | with_reducible refine w_gCons ?_ | with_reducible refine w_gNil ?_ | with_reducible refine w_retF ?_ | with_reducible refine w_lcI ?_ | with_reducible refine w_forI ?_ | with_reducible refine w_meth ?_ | (with_reducible refine w_part ?_) | (with_reducible refine w_itRange ?_) | (with_reducible refine w_itList ?_) | (with_reducible refine w_itStr ?_) | (with_reducible refine w_rev ?_) | with_reducible refine e_int ?_ | with_reducible refine e_str ?_ | with_reducible refine e_keyS ?_ | with_reducible refine e_keyI ?_ | with_reducible refine e_tyS ?_ | with_reducible refine e_tt ?_ | ((with_reducible refine e_rng ?_ ?_ ?_); (first | with_reducible assumption | omega | (simp only [List.length_cons, List.length_nil]; omega)); (first | with_reducible assumption | omega | (simp only [List.length_cons, List.length_nil]; omega))) | ((with_reducible apply e_isi); (exact rfl); (first | exact rfl | decide)) | ((with_reducible apply w_mkL); (decide); (exact rfl)) | ((with_reducible apply w_mkLp); (decide); (exact rfl)) | ((with_reducible apply w_mkLc); (decide)) | ((with_reducible apply w_mkT); (decide); (exact rfl)) | ((with_reducible apply w_mkTp); (decide); (exact rfl))))
    all_goals refine ⟨_, rfl, ?_, rfl⟩
    all_goals simp_all
    all_goals omega
  · obtain rfl : w = 3 := by omega
    refine w_fn rfl ?_
    unfold b_is_time
    (repeat' (first | ((with_reducible apply w_whole)) | with_reducible refine w_c ?_ | ((with_reducible apply w_var); (exact rfl)) | with_reducible refine w_m2 ?_ | with_reducible refine w_cons ?_ | with_reducible refine w_nil ?_ | with_reducible refine w_mk ?_ | with_reducible refine w_call ?_ | with_reducible refine w_sq ?_ | with_reducible refine w_set ?_ | with_reducible refine w_tst ?_ | with_reducible refine t_b ?_ | with_reducible refine w_if ?_ | with_reducible refine w_nx ?_ | with_reducible refine w_retS ?_ | with_reducible refine w_eqI ?_ | (with_reducible refine b_dec (fun _ => ?_) (fun _ => ?_)) | with_reducible refine w_addI ?_ | with_reducible refine w_sub' ?_ | with_reducible refine w_iadd ?_ | with_reducible refine w_lt ?_ | with_reducible refine w_le ?_ | with_reducible refine w_gt ?_ | with_reducible refine w_ge ?_ | with_reducible refine w_neI ?_ | with_reducible refine w_chain ?_ | with_reducible refine w_and ?_ | with_reducible refine w_or ?_ | with_reducible refine w_not ?_ | with_reducible refine w_andV ?_ | with_reducible refine w_orV ?_ | with_reducible refine w_notV ?_ | with_reducible refine w_mIf ?_ | with_reducible refine w_bnd ?_ | with_reducible refine w_ret ?_ | with_reducible refine b_t ?_ | with_reducible refine b_f ?_ | with_reducible refine b_not ?_ | with_reducible refine w_expr ?_ | with_reducible refine w_sub ?_ | with_reducible refine w_augS ?_ | with_reducible refine w_retN ?_ | with_reducible refine w_lenD ?_ | with_reducible refine w_lenT ?_ | with_reducible refine w_isub ?_ | with_reducible refine w_bk ?_ | with_reducible refine w_ct ?_ | ((with_reducible apply w_mod); (first | decide | assumption | omega)) | ((with_reducible apply w_div); (first | decide | (constructor <;> first | assumption | omega))) | ((with_reducible apply w_mul); (first | exact .inr (by decide) | exact .inl (by decide) | omega)) | ((with_reducible apply w_pow); (decide)) | ((with_reducible apply w_ixL); (first | assumption | exact put_self); (first | exact atI0 | exact atI1 | exact atI2 | exact atI3 | exact atI_map (by omega) (by assumption))) | ((with_reducible apply w_getL); (first | assumption | exact put_self); (first | exact atI0 | exact atI1 | exact atI2 | exact atI3 | exact atI_map (by omega) (by assumption))) | ((with_reducible apply w_setL); (first | assumption | exact put_self); (first | exact ixL0 | exact ixL1 | exact ixL2)) | ((with_reducible apply w_ixD); (first | exact atI0 | exact atI1 | exact atI2 | exact atI3 | exact atI_map (by omega) (by assumption))) | ((with_reducible apply w_lenL); (first | assumption | exact put_self)) | ((with_reducible apply w_draw_l); (with_reducible assumption); (first | with_reducible assumption | omega | (simp only [List.length_cons, List.length_nil]; omega)); (first | with_reducible assumption | omega | (simp only [List.length_cons, List.length_nil]; omega)); (intro _ _ _ _ _)) | ((with_reducible refine w_ixA ?_ ?_ (allC ?_ ?_)); (first | with_reducible assumption | omega | (simp only [List.length_cons, List.length_nil]; omega)); (first | with_reducible assumption | omega | (simp only [List.length_cons, List.length_nil]; omega))) | with_reducible exact allN | with_reducible refine allC ?_ ?_ | ((with_reducible apply w_ixLA); (first | assumption | exact new_self); (first | with_reducible assumption | omega | (simp only [List.length_cons, List.length_nil]; omega)); (first | with_reducible assumption | omega | (simp only [List.length_cons, List.length_nil]; omega))) | ((with_reducible apply w_addS); (exact tok2 (by (repeat' (first | assumption | exact TOk.lit2 (by decide +kernel) | with_reducible apply TOk.app | with_reducible apply TOk.cut))) (by (repeat' (first | assumption | exact TOk.lit2 (by decide +kernel) | with_reducible apply TOk.app | with_reducible apply TOk.cut))) (by decide))) | ((with_reducible apply w_lenS2); ((repeat' (first | assumption | exact TOk.lit2 (by decide +kernel) | with_reducible apply TOk.app | with_reducible apply TOk.cut))); (decide); (intro _)) | ((with_reducible apply w_cutS); (exact TOk.len (by (repeat' (first | assumption | exact TOk.lit2 (by decide +kernel) | with_reducible apply TOk.app | with_reducible apply TOk.cut))) (by decide))) | with_reducible refine w_slice ?_ | with_reducible refine w_dict0 ?_ | with_reducible refine w_exc0 ?_ | with_reducible refine w_dict ?_ | with_reducible refine w_pairs0 ?_ | with_reducible refine w_pairs ?_ | with_reducible refine w_isi ?_ | with_reducible refine w_abs ?_ | with_reducible refine w_max ?_ | with_reducible refine w_min ?_ | with_reducible refine w_gNm ?_ | with_reducible refine w_gCons ?_ | with_reducible refine w_gNil ?_ | with_reducible refine w_retF ?_ | with_reducible refine w_lcI ?_ | with_reducible refine w_forI ?_ | with_reducible refine w_meth ?_ | (with_reducible refine w_part ?_) | (with_reducible refine w_itRange ?_) | (with_reducible refine w_itList ?_) | (with_reducible refine w_itStr ?_) | (with_reducible refine w_rev ?_) | with_reducible refine e_int ?_ | with_reducible refine e_str ?_ | with_reducible refine e_keyS ?_ | with_reducible refine e_keyI ?_ | with_reducible refine e_tyS ?_ | with_reducible refine e_tt ?_ | ((with_reducible refine e_rng ?_ ?_ ?_); (first | with_reducible assumption | omega | (simp only [List.length_cons, List.length_nil]; omega)); (first | with_reducible assumption | omega | (simp only [List.length_cons, List.length_nil]; omega))) | ((with_reducible apply e_isi); (exact rfl); (first | exact rfl | decide)) | ((with_reducible apply w_mkL); (decide); (exact rfl)) | ((with_reducible apply w_mkLp); (decide); (exact rfl)) | ((with_reducible apply w_mkLc); (decide)) | ((with_reducible apply w_mkT); (decide); (exact rfl)) | ((with_reducible apply w_mkTp); (decide); (exact rfl))))
    all_goals refine ⟨_, rfl, ?_, rfl⟩
    all_goals simp_all
    all_goals omega
  · obtain rfl : w = 4 := by omega
    refine w_fn rfl ?_
    unfold b_is_position
    (repeat' (first | ((with_reducible apply w_draw_l); (with_reducible assumption); (first | with_reducible assumption | omega | (simp only [List.length_cons, List.length_nil]; omega)); (first | with_reducible assumption | omega | (simp only [List.length_cons, List.length_nil]; omega)); (intro _ _ _ _ _)) | with_reducible refine w_c ?_ | ((with_reducible apply w_var); (exact rfl)) | with_reducible refine w_m2 ?_ | with_reducible refine w_cons ?_ | with_reducible refine w_nil ?_ | with_reducible refine w_mk ?_ | with_reducible refine w_call ?_ | with_reducible refine w_sq ?_ | with_reducible refine w_set ?_ | with_reducible refine w_tst ?_ | with_reducible refine t_b ?_ | with_reducible refine w_if ?_ | with_reducible refine w_nx ?_ | with_reducible refine w_retS ?_ | with_reducible refine w_eqI ?_ | (with_reducible refine b_dec (fun _ => ?_) (fun _ => ?_)) | with_reducible refine w_addI ?_ | with_reducible refine w_sub' ?_ | with_reducible refine w_iadd ?_ | with_reducible refine w_lt ?_ | with_reducible refine w_le ?_ | with_reducible refine w_gt ?_ | with_reducible refine w_ge ?_ | with_reducible refine w_neI ?_ | with_reducible refine w_chain ?_ | with_reducible refine w_and ?_ | with_reducible refine w_or ?_ | with_reducible refine w_not ?_ | with_reducible refine w_andV ?_ | with_reducible refine w_orV ?_ | with_reducible refine w_notV ?_ | with_reducible refine w_mIf ?_ | with_reducible refine w_bnd ?_ | with_reducible refine w_ret ?_ | with_reducible refine b_t ?_ | with_reducible refine b_f ?_ | with_reducible refine b_not ?_ | with_reducible refine w_expr ?_ | with_reducible refine w_sub ?_ | with_reducible refine w_augS ?_ | with_reducible refine w_retN ?_ | with_reducible refine w_lenD ?_ | with_reducible refine w_lenT ?_ | with_reducible refine w_isub ?_ | with_reducible refine w_bk ?_ | with_reducible refine w_ct ?_ | ((with_reducible apply w_mod); (first | decide | assumption | omega)) | ((with_reducible apply w_div); (first | decide | (constructor <;> first | assumption | omega))) | ((with_reducible apply w_mul); (first | exact .inr (by decide) | exact .inl (by decide) | omega)) | ((with_reducible apply w_pow); (decide)) | ((with_reducible apply w_ixL); (first | assumption | exact put_self); (first | exact atI0 | exact atI1 | exact atI2 | exact atI3 | exact atI_map (by omega) (by assumption))) | ((with_reducible apply w_getL); (first | assumption | exact put_self); (first | exact atI0 | exact atI1 | exact atI2 | exact atI3 | exact atI_map (by omega) (by assumption))) | ((with_reducible apply w_setL); (first | assumption | exact put_self); (first | exact ixL0 | exact ixL1 | exact ixL2)) | ((with_reducible apply w_ixD); (first | exact atI0 | exact atI1 | exact atI2 | exact atI3 | exact atI_map (by omega) (by assumption))) | ((with_reducible apply w_lenL); (first | assumption | exact put_self)) | ((with_reducible refine w_ixA ?_ ?_ (allC ?_ ?_)); (first | with_reducible assumption | omega | (simp only [List.length_cons, List.length_nil]; omega)); (first | with_reducible assumption | omega | (simp only [List.length_cons, List.length_nil]; omega))) | with_reducible exact allN | with_reducible refine allC ?_ ?_ | ((with_reducible apply w_ixLA); (first | assumption | exact new_self); (first | with_reducible assumption | omega | (simp only [List.length_cons, List.length_nil]; omega)); (first | with_reducible assumption | omega | (simp only [List.length_cons, List.length_nil]; omega))) | ((with_reducible apply w_addS); (exact tok2 (by (repeat' (first | assumption | exact TOk.lit2 (by decide +kernel) | with_reducible apply TOk.app | with_reducible apply TOk.cut))) (by (repeat' (first | assumption | exact TOk.lit2 (by decide +kernel) | with_reducible apply TOk.app | with_reducible apply TOk.cut))) (by decide))) | ((with_reducible apply w_lenS2); ((repeat' (first | assumption | exact TOk.lit2 (by decide +kernel) | with_reducible apply TOk.app | with_reducible apply TOk.cut))); (decide); (intro _)) | ((with_reducible apply w_cutS); (exact TOk.len (by (repeat' (first | assumption | exact TOk.lit2 (by decide +kernel) | with_reducible apply TOk.app | with_reducible apply TOk.cut))) (by decide))) | with_reducible refine w_slice ?_ | with_reducible refine w_dict0 ?_ | with_reducible refine w_exc0 ?_ | with_reducible refine w_dict ?_ | with_reducible refine w_pairs0 ?_ | with_reducible refine w_pairs ?_ | with_reducible refine w_isi ?_ | with_reducible refine w_abs ?_ | with_reducible refine w_max ?_ | with_reducible refine w_min ?_ | with_reducible refine w_gNm ?_ | with_reducible refine w_gCons ?_ | with_reducible refine w_gNil ?_ | with_reducible refine w_retF ?_ | with_reducible refine w_lcI ?_ | with_reducible refine w_forI ?_ | with_reducible refine w_meth ?_ | (with_reducible refine w_part ?_) | (with_reducible refine w_itRange ?_) | (with_reducible refine w_itList ?_) | (with_reducible refine w_itStr ?_) | (with_reducible refine w_rev ?_) | with_reducible refine e_int ?_ | with_reducible refine e_str ?_ | with_reducible refine e_keyS ?_ | with_reducible refine e_keyI ?_ | with_reducible refine e_tyS ?_ | with_reducible refine e_tt ?_ | ((with_reducible refine e_rng ?_ ?_ ?_); (first | with_reducible assumption | omega | (simp only [List.length_cons, List.length_nil]; omega)); (first | with_reducible assumption | omega | (simp only [List.length_cons, List.length_nil]; omega))) | ((with_reducible apply e_isi); (exact rfl); (first | exact rfl | decide)) | ((with_reducible apply w_mkL); (decide); (exact rfl)) | ((with_reducible apply w_mkLp); (decide); (exact rfl)) | ((with_reducible apply w_mkLc); (decide)) | ((with_reducible apply w_mkT); (decide); (exact rfl)) | ((with_reducible apply w_mkTp); (decide); (exact rfl))))
    exact ⟨_, rfl, rfl, rfl⟩
theorem asked_text {s : Sto} {i : Str} (hx : TOk i 1000) {w : Nat} (hw : w < 5) : Wp (m_law_asked [.d (.int w), .d (.str i)]) s (fun v s' => ∃ b, (bsOf (.d (.str i)))[w]? = some b ∧ v = .d (.bool b) ∧ s' = s) noX := by
  refine w_fn rfl ?_
  unfold b_law_asked
  (repeat' (first | ((with_reducible apply w_wholeS)) | with_reducible refine w_c ?_ | ((with_reducible apply w_var); (exact rfl)) | with_reducible refine w_m2 ?_ | with_reducible refine w_cons ?_ | with_reducible refine w_nil ?_ | with_reducible refine w_mk ?_ | with_reducible refine w_call ?_ | with_reducible refine w_sq ?_ | with_reducible refine w_set ?_ | with_reducible refine w_tst ?_ | with_reducible refine t_b ?_ | with_reducible refine w_if ?_ | with_reducible refine w_nx ?_ | with_reducible refine w_retS ?_ | with_reducible refine w_eqI ?_ | (with_reducible refine b_dec (fun _ => ?_) (fun _ => ?_)) | with_reducible refine w_addI ?_ | with_reducible refine w_sub' ?_ | with_reducible refine w_iadd ?_ | with_reducible refine w_lt ?_ | with_reducible refine w_le ?_ | with_reducible refine w_gt ?_ | with_reducible refine w_ge ?_ | with_reducible refine w_neI ?_ | with_reducible refine w_chain ?_ | with_reducible refine w_and ?_ | with_reducible refine w_or ?_ | with_reducible refine w_not ?_ | with_reducible refine w_andV ?_ | with_reducible refine w_orV ?_ | with_reducible refine w_notV ?_ | with_reducible refine w_mIf ?_ | with_reducible refine w_bnd ?_ | with_reducible refine w_ret ?_ | with_reducible refine b_t ?_ | with_reducible refine b_f ?_ | with_reducible refine b_not ?_ | with_reducible refine w_expr ?_ | with_reducible refine w_sub ?_ | with_reducible refine w_augS ?_ | with_reducible refine w_retN ?_ | with_reducible refine w_lenD ?_ | with_reducible refine w_lenT ?_ | with_reducible refine w_isub ?_ | with_reducible refine w_bk ?_ | with_reducible refine w_ct ?_ | ((with_reducible apply w_mod); (first | decide | assumption | omega)) | ((with_reducible apply w_div); (first | decide | (constructor <;> first | assumption | omega))) | ((with_reducible apply w_mul); (first | exact .inr (by decide) | exact .inl (by decide) | omega)) | ((with_reducible apply w_pow); (decide)) | ((with_reducible apply w_ixL); (first | assumption | exact put_self); (first | exact atI0 | exact atI1 | exact atI2 | exact atI3 | exact atI_map (by omega) (by assumption))) | ((with_reducible apply w_getL); (first | assumption | exact put_self); (first | exact atI0 | exact atI1 | exact atI2 | exact atI3 | exact atI_map (by omega) (by assumption))) | ((with_reducible apply w_setL); (first | assumption | exact put_self); (first | exact ixL0 | exact ixL1 | exact ixL2)) | ((with_reducible apply w_ixD); (first | exact atI0 | exact atI1 | exact atI2 | exact atI3 | exact atI_map (by omega) (by assumption))) | ((with_reducible apply w_lenL); (first | assumption | exact put_self)) | ((with_reducible apply w_draw_l); (with_reducible assumption); (first | with_reducible assumption | omega | (simp only [List.length_cons, List.length_nil]; omega)); (first | with_reducible assumption | omega | (simp only [List.length_cons, List.length_nil]; omega)); (intro _ _ _ _ _)) | ((with_reducible refine w_ixA ?_ ?_ (allC ?_ ?_)); (first | with_reducible assumption | omega | (simp only [List.length_cons, List.length_nil]; omega)); (first | with_reducible assumption | omega | (simp only [List.length_cons, List.length_nil]; omega))) | with_reducible exact allN | with_reducible refine allC ?_ ?_ | ((with_reducible apply w_ixLA); (first | assumption | exact new_self); (first | with_reducible assumption | omega | (simp only [List.length_cons, List.length_nil]; omega)); (first | with_reducible assumption | omega | (simp only [List.length_cons, List.length_nil]; omega))) | ((with_reducible apply w_addS); (exact tok2 (by (repeat' (first | assumption | exact TOk.lit2 (by decide +kernel) | with_reducible apply TOk.app | with_reducible apply TOk.cut))) (by (repeat' (first | assumption | exact TOk.lit2 (by decide +kernel) | with_reducible apply TOk.app | with_reducible apply TOk.cut))) (by decide))) | ((with_reducible apply w_lenS2); ((repeat' (first | assumption | exact TOk.lit2 (by decide +kernel) | with_reducible apply TOk.app | with_reducible apply TOk.cut))); (decide); (intro _)) | ((with_reducible apply w_cutS); (exact TOk.len (by (repeat' (first | assumption | exact TOk.lit2 (by decide +kernel) | with_reducible apply TOk.app | with_reducible apply TOk.cut))) (by decide))) | with_reducible refine w_slice ?_ | with_reducible refine w_dict0 ?_ | with_reducible refine w_exc0 ?_ | with_reducible refine w_dict ?_ | with_reducible refine w_pairs0 ?_ | with_reducible refine w_pairs ?_ | with_reducible refine w_isi ?_ | with_reducible refine w_abs ?_ | with_reducible refine w_max ?_ | with_reducible refine w_min ?_ | with_reducible refine w_gNm ?_ | with_reducible refine w_gCons ?_ | with_reducible refine w_gNil ?_ | with_reducible refine w_retF ?_ | with_reducible refine w_lcI ?_ | with_reducible refine w_forI ?_ | with_reducible refine w_meth ?_ | (with_reducible refine w_part ?_) | (with_reducible refine w_itRange ?_) | (with_reducible refine w_itList ?_) | (with_reducible refine w_itStr ?_) | (with_reducible refine w_rev ?_) | with_reducible refine e_int ?_ | with_reducible refine e_str ?_ | with_reducible refine e_keyS ?_ | with_reducible refine e_keyI ?_ | with_reducible refine e_tyS ?_ | with_reducible refine e_tt ?_ | ((with_reducible refine e_rng ?_ ?_ ?_); (first | with_reducible assumption | omega | (simp only [List.length_cons, List.length_nil]; omega)); (first | with_reducible assumption | omega | (simp only [List.length_cons, List.length_nil]; omega))) | ((with_reducible apply e_isi); (exact rfl); (first | exact rfl | decide)) | ((with_reducible apply w_mkL); (decide); (exact rfl)) | ((with_reducible apply w_mkLp); (decide); (exact rfl)) | ((with_reducible apply w_mkLc); (decide)) | ((with_reducible apply w_mkT); (decide); (exact rfl)) | ((with_reducible apply w_mkTp); (decide); (exact rfl))))
  · obtain rfl : w = 0 := by omega
    exact ⟨_, rfl, rfl, rfl⟩
  · obtain rfl : w = 1 := by omega
    exact (name_text hx).then fun v s' ⟨e, e'⟩ => ⟨_, rfl, e, e'⟩
  · obtain rfl : w = 2 := by omega
    refine w_fn rfl ?_
    unfold b_is_cost
    (repeat' (first | ((with_reducible apply w_wholeS)) | with_reducible refine w_c ?_ | ((with_reducible apply w_var); (exact rfl)) | with_reducible refine w_m2 ?_ | with_reducible refine w_cons ?_ | with_reducible refine w_nil ?_ | with_reducible refine w_mk ?_ | with_reducible refine w_call ?_ | with_reducible refine w_sq ?_ | with_reducible refine w_set ?_ | with_reducible refine w_tst ?_ | with_reducible refine t_b ?_ | with_reducible refine w_if ?_ | with_reducible refine w_nx ?_ | with_reducible refine w_retS ?_ | with_reducible refine w_eqI ?_ | (with_reducible refine b_dec (fun _ => ?_) (fun _ => ?_)) | with_reducible refine w_addI ?_ | with_reducible refine w_sub' ?_ | with_reducible refine w_iadd ?_ | with_reducible refine w_lt ?_ | with_reducible refine w_le ?_ | with_reducible refine w_gt ?_ | with_reducible refine w_ge ?_ | with_reducible refine w_neI ?_ | with_reducible refine w_chain ?_ | with_reducible refine w_and ?_ | with_reducible refine w_or ?_ | with_reducible refine w_not ?_ | with_reducible refine w_andV ?_ | with_reducible refine w_orV ?_ | with_reducible refine w_notV ?_ | with_reducible refine w_mIf ?_ | with_reducible refine w_bnd ?_ | with_reducible refine w_ret ?_ | with_reducible refine b_t ?_ | with_reducible refine b_f ?_ | with_reducible refine b_not ?_ | with_reducible refine w_expr ?_ | with_reducible refine w_sub ?_ | with_reducible refine w_augS ?_ | with_reducible refine w_retN ?_ | with_reducible refine w_lenD ?_ | with_reducible refine w_lenT ?_ | with_reducible refine w_isub ?_ | with_reducible refine w_bk ?_ | with_reducible refine w_ct ?_ | ((with_reducible apply w_mod); (first | decide | assumption | omega)) | ((with_reducible apply w_div); (first | decide | (constructor <;> first | assumption | omega))) | ((with_reducible apply w_mul); (first | exact .inr (by decide) | exact .inl (by decide) | omega)) | ((with_reducible apply w_pow); (decide)) | ((with_reducible apply w_ixL); (first | assumption | exact put_self); (first | exact atI0 | exact atI1 | exact atI2 | exact atI3 | exact atI_map (by omega) (by assumption))) | ((with_reducible apply w_getL); (first | assumption | exact put_self); (first | exact atI0 | exact atI1 | exact atI2 | exact atI3 | exact atI_map (by omega) (by assumption))) | ((with_reducible apply w_setL); (first | assumption | exact put_self); (first | exact ixL0 | exact ixL1 | exact ixL2)) | ((with_reducible apply w_ixD); (first | exact atI0 | exact atI1 | exact atI2 | exact atI3 | exact atI_map (by omega) (by assumption))) | ((with_reducible apply w_lenL); (first | assumption | exact put_self)) | ((with_reducible apply w_draw_l); (with_reducible assumption); (first | with_reducible assumption | omega | (simp only [List.length_cons, List.length_nil]; omega)); (first | with_reducible assumption | omega | (simp only [List.length_cons, List.length_nil]; omega)); (intro _ _ _ _ _)) | ((with_reducible refine w_ixA ?_ ?_ (allC ?_ ?_)); (first | with_reducible assumption | omega | (simp only [List.length_cons, List.length_nil]; omega)); (first | with_reducible assumption | omega | (simp only [List.length_cons, List.length_nil]; omega))) | with_reducible exact allN | with_reducible refine allC ?_ ?_ | ((with_reducible apply w_ixLA); (first | assumption | exact new_self); (first | with_reducible assumption | omega | (simp only [List.length_cons, List.length_nil]; omega)); (first | with_reducible assumption | omega | (simp only [List.length_cons, List.length_nil]; omega))) | ((with_reducible apply w_addS); (exact tok2 (by (repeat' (first | assumption | exact TOk.lit2 (by decide +kernel) | with_reducible apply TOk.app | with_reducible apply TOk.cut))) (by (repeat' (first | assumption | exact TOk.lit2 (by decide +kernel) | with_reducible apply TOk.app | with_reducible apply TOk.cut))) (by decide))) | ((with_reducible apply w_lenS2); ((repeat' (first | assumption | exact TOk.lit2 (by decide +kernel) | with_reducible apply TOk.app | with_reducible apply TOk.cut))); (decide); (intro _)) | ((with_reducible apply w_cutS); (exact TOk.len (by (repeat' (first | assumption | exact TOk.lit2 (by decide +kernel) | with_reducible apply TOk.app | with_reducible apply TOk.cut))) (by decide))) | with_reducible refine w_slice ?_ | with_reducible refine w_dict0 ?_ | with_reducible refine w_exc0 ?_ | with_reducible refine w_dict ?_ | with_reducible refine w_pairs0 ?_ | with_reducible refine w_pairs ?_ | with_reducible refine w_isi ?_ | with_reducible refine w_abs ?_ | with_reducible refine w_max ?_ | with_reducible refine w_min ?_ | with_reducible refine w_gNm ?_ | with_reducible refine w_gCons ?_ | with_reducible refine w_gNil ?_ | with_reducible refine w_retF ?_ | with_reducible refine w_lcI ?_ | with_reducible refine w_forI ?_ | with_reducible refine w_meth ?_ | (with_reducible refine w_part ?_) | (with_reducible refine w_itRange ?_) | (with_reducible refine w_itList ?_) | (with_reducible refine w_itStr ?_) | (with_reducible refine w_rev ?_) | with_reducible refine e_int ?_ | with_reducible refine e_str ?_ | with_reducible refine e_keyS ?_ | with_reducible refine e_keyI ?_ | with_reducible refine e_tyS ?_ | with_reducible refine e_tt ?_ | ((with_reducible refine e_rng ?_ ?_ ?_); (first | with_reducible assumption | omega | (simp only [List.length_cons, List.length_nil]; omega)); (first | with_reducible assumption | omega | (simp only [List.length_cons, List.length_nil]; omega))) | ((with_reducible apply e_isi); (exact rfl); (first | exact rfl | decide)) | ((with_reducible apply w_mkL); (decide); (exact rfl)) | ((with_reducible apply w_mkLp); (decide); (exact rfl)) | ((with_reducible apply w_mkLc); (decide)) | ((with_reducible apply w_mkT); (decide); (exact rfl)) | ((with_reducible apply w_mkTp); (decide); (exact rfl))))
    exact ⟨_, rfl, rfl, rfl⟩
  · obtain rfl : w = 3 := by omega
    refine w_fn rfl ?_
    unfold b_is_time
    (repeat' (first | ((with_reducible apply w_wholeS)) | with_reducible refine w_c ?_ | ((with_reducible apply w_var); (exact rfl)) | with_reducible refine w_m2 ?_ | with_reducible refine w_cons ?_ | with_reducible refine w_nil ?_ | with_reducible refine w_mk ?_ | with_reducible refine w_call ?_ | with_reducible refine w_sq ?_ | with_reducible refine w_set ?_ | with_reducible refine w_tst ?_ | with_reducible refine t_b ?_ | with_reducible refine w_if ?_ | with_reducible refine w_nx ?_ | with_reducible refine w_retS ?_ | with_reducible refine w_eqI ?_ | (with_reducible refine b_dec (fun _ => ?_) (fun _ => ?_)) | with_reducible refine w_addI ?_ | with_reducible refine w_sub' ?_ | with_reducible refine w_iadd ?_ | with_reducible refine w_lt ?_ | with_reducible refine w_le ?_ | with_reducible refine w_gt ?_ | with_reducible refine w_ge ?_ | with_reducible refine w_neI ?_ | with_reducible refine w_chain ?_ | with_reducible refine w_and ?_ | with_reducible refine w_or ?_ | with_reducible refine w_not ?_ | with_reducible refine w_andV ?_ | with_reducible refine w_orV ?_ | with_reducible refine w_notV ?_ | with_reducible refine w_mIf ?_ | with_reducible refine w_bnd ?_ | with_reducible refine w_ret ?_ | with_reducible refine b_t ?_ | with_reducible refine b_f ?_ | with_reducible refine b_not ?_ | with_reducible refine w_expr ?_ | with_reducible refine w_sub ?_ | with_reducible refine w_augS ?_ | with_reducible refine w_retN ?_ | with_reducible refine w_lenD ?_ | with_reducible refine w_lenT ?_ | with_reducible refine w_isub ?_ | with_reducible refine w_bk ?_ | with_reducible refine w_ct ?_ | ((with_reducible apply w_mod); (first | decide | assumption | omega)) | ((with_reducible apply w_div); (first | decide | (constructor <;> first | assumption | omega))) | ((with_reducible apply w_mul); (first | exact .inr (by decide) | exact .inl (by decide) | omega)) | ((with_reducible apply w_pow); (decide)) | ((with_reducible apply w_ixL); (first | assumption | exact put_self); (first | exact atI0 | exact atI1 | exact atI2 | exact atI3 | exact atI_map (by omega) (by assumption))) | ((with_reducible apply w_getL); (first | assumption | exact put_self); (first | exact atI0 | exact atI1 | exact atI2 | exact atI3 | exact atI_map (by omega) (by assumption))) | ((with_reducible apply w_setL); (first | assumption | exact put_self); (first | exact ixL0 | exact ixL1 | exact ixL2)) | ((with_reducible apply w_ixD); (first | exact atI0 | exact atI1 | exact atI2 | exact atI3 | exact atI_map (by omega) (by assumption))) | ((with_reducible apply w_lenL); (first | assumption | exact put_self)) | ((with_reducible apply w_draw_l); (with_reducible assumption); (first | with_reducible assumption | omega | (simp only [List.length_cons, List.length_nil]; omega)); (first | with_reducible assumption | omega | (simp only [List.length_cons, List.length_nil]; omega)); (intro _ _ _ _ _)) | ((with_reducible refine w_ixA ?_ ?_ (allC ?_ ?_)); (first | with_reducible assumption | omega | (simp only [List.length_cons, List.length_nil]; omega)); (first | with_reducible assumption | omega | (simp only [List.length_cons, List.length_nil]; omega))) | with_reducible exact allN | with_reducible refine allC ?_ ?_ | ((with_reducible apply w_ixLA); (first | assumption | exact new_self); (first | with_reducible assumption | omega | (simp only [List.length_cons, List.length_nil]; omega)); (first | with_reducible assumption | omega | (simp only [List.length_cons, List.length_nil]; omega))) | ((with_reducible apply w_addS); (exact tok2 (by (repeat' (first | assumption | exact TOk.lit2 (by decide +kernel) | with_reducible apply TOk.app | with_reducible apply TOk.cut))) (by (repeat' (first | assumption | exact TOk.lit2 (by decide +kernel) | with_reducible apply TOk.app | with_reducible apply TOk.cut))) (by decide))) | ((with_reducible apply w_lenS2); ((repeat' (first | assumption | exact TOk.lit2 (by decide +kernel) | with_reducible apply TOk.app | with_reducible apply TOk.cut))); (decide); (intro _)) | ((with_reducible apply w_cutS); (exact TOk.len (by (repeat' (first | assumption | exact TOk.lit2 (by decide +kernel) | with_reducible apply TOk.app | with_reducible apply TOk.cut))) (by decide))) | with_reducible refine w_slice ?_ | with_reducible refine w_dict0 ?_ | with_reducible refine w_exc0 ?_ | with_reducible refine w_dict ?_ | with_reducible refine w_pairs0 ?_ | with_reducible refine w_pairs ?_ | with_reducible refine w_isi ?_ | with_reducible refine w_abs ?_ | with_reducible refine w_max ?_ | with_reducible refine w_min ?_ | with_reducible refine w_gNm ?_ | with_reducible refine w_gCons ?_ | with_reducible refine w_gNil ?_ | with_reducible refine w_retF ?_ | with_reducible refine w_lcI ?_ | with_reducible refine w_forI ?_ | with_reducible refine w_meth ?_ | (with_reducible refine w_part ?_) | (with_reducible refine w_itRange ?_) | (with_reducible refine w_itList ?_) | (with_reducible refine w_itStr ?_) | (with_reducible refine w_rev ?_) | with_reducible refine e_int ?_ | with_reducible refine e_str ?_ | with_reducible refine e_keyS ?_ | with_reducible refine e_keyI ?_ | with_reducible refine e_tyS ?_ | with_reducible refine e_tt ?_ | ((with_reducible refine e_rng ?_ ?_ ?_); (first | with_reducible assumption | omega | (simp only [List.length_cons, List.length_nil]; omega)); (first | with_reducible assumption | omega | (simp only [List.length_cons, List.length_nil]; omega))) | ((with_reducible apply e_isi); (exact rfl); (first | exact rfl | decide)) | ((with_reducible apply w_mkL); (decide); (exact rfl)) | ((with_reducible apply w_mkLp); (decide); (exact rfl)) | ((with_reducible apply w_mkLc); (decide)) | ((with_reducible apply w_mkT); (decide); (exact rfl)) | ((with_reducible apply w_mkTp); (decide); (exact rfl))))
    exact ⟨_, rfl, rfl, rfl⟩
  · obtain rfl : w = 4 := by omega
    refine w_fn rfl ?_
    unfold b_is_position
    (repeat' (first | ((with_reducible apply w_eqS); (exact hx.1); (exact ok_ofString _)) | with_reducible refine w_c ?_ | ((with_reducible apply w_var); (exact rfl)) | with_reducible refine w_m2 ?_ | with_reducible refine w_cons ?_ | with_reducible refine w_nil ?_ | with_reducible refine w_mk ?_ | with_reducible refine w_call ?_ | with_reducible refine w_sq ?_ | with_reducible refine w_set ?_ | with_reducible refine w_tst ?_ | with_reducible refine t_b ?_ | with_reducible refine w_if ?_ | with_reducible refine w_nx ?_ | with_reducible refine w_retS ?_ | with_reducible refine w_eqI ?_ | (with_reducible refine b_dec (fun _ => ?_) (fun _ => ?_)) | with_reducible refine w_addI ?_ | with_reducible refine w_sub' ?_ | with_reducible refine w_iadd ?_ | with_reducible refine w_lt ?_ | with_reducible refine w_le ?_ | with_reducible refine w_gt ?_ | with_reducible refine w_ge ?_ | with_reducible refine w_neI ?_ | with_reducible refine w_chain ?_ | with_reducible refine w_and ?_ | with_reducible refine w_or ?_ | with_reducible refine w_not ?_ | with_reducible refine w_andV ?_ | with_reducible refine w_orV ?_ | with_reducible refine w_notV ?_ | with_reducible refine w_mIf ?_ | with_reducible refine w_bnd ?_ | with_reducible refine w_ret ?_ | with_reducible refine b_t ?_ | with_reducible refine b_f ?_ | with_reducible refine b_not ?_ | with_reducible refine w_expr ?_ | with_reducible refine w_sub ?_ | with_reducible refine w_augS ?_ | with_reducible refine w_retN ?_ | with_reducible refine w_lenD ?_ | with_reducible refine w_lenT ?_ | with_reducible refine w_isub ?_ | with_reducible refine w_bk ?_ | with_reducible refine w_ct ?_ | ((with_reducible apply w_mod); (first | decide | assumption | omega)) | ((with_reducible apply w_div); (first | decide | (constructor <;> first | assumption | omega))) | ((with_reducible apply w_mul); (first | exact .inr (by decide) | exact .inl (by decide) | omega)) | ((with_reducible apply w_pow); (decide)) | ((with_reducible apply w_ixL); (first | assumption | exact put_self); (first | exact atI0 | exact atI1 | exact atI2 | exact atI3 | exact atI_map (by omega) (by assumption))) | ((with_reducible apply w_getL); (first | assumption | exact put_self); (first | exact atI0 | exact atI1 | exact atI2 | exact atI3 | exact atI_map (by omega) (by assumption))) | ((with_reducible apply w_setL); (first | assumption | exact put_self); (first | exact ixL0 | exact ixL1 | exact ixL2)) | ((with_reducible apply w_ixD); (first | exact atI0 | exact atI1 | exact atI2 | exact atI3 | exact atI_map (by omega) (by assumption))) | ((with_reducible apply w_lenL); (first | assumption | exact put_self)) | ((with_reducible apply w_draw_l); (with_reducible assumption); (first | with_reducible assumption | omega | (simp only [List.length_cons, List.length_nil]; omega)); (first | with_reducible assumption | omega | (simp only [List.length_cons, List.length_nil]; omega)); (intro _ _ _ _ _)) | ((with_reducible refine w_ixA ?_ ?_ (allC ?_ ?_)); (first | with_reducible assumption | omega | (simp only [List.length_cons, List.length_nil]; omega)); (first | with_reducible assumption | omega | (simp only [List.length_cons, List.length_nil]; omega))) | with_reducible exact allN | with_reducible refine allC ?_ ?_ | ((with_reducible apply w_ixLA); (first | assumption | exact new_self); (first | with_reducible assumption | omega | (simp only [List.length_cons, List.length_nil]; omega)); (first | with_reducible assumption | omega | (simp only [List.length_cons, List.length_nil]; omega))) | ((with_reducible apply w_addS); (exact tok2 (by (repeat' (first | assumption | exact TOk.lit2 (by decide +kernel) | with_reducible apply TOk.app | with_reducible apply TOk.cut))) (by (repeat' (first | assumption | exact TOk.lit2 (by decide +kernel) | with_reducible apply TOk.app | with_reducible apply TOk.cut))) (by decide))) | ((with_reducible apply w_lenS2); ((repeat' (first | assumption | exact TOk.lit2 (by decide +kernel) | with_reducible apply TOk.app | with_reducible apply TOk.cut))); (decide); (intro _)) | ((with_reducible apply w_cutS); (exact TOk.len (by (repeat' (first | assumption | exact TOk.lit2 (by decide +kernel) | with_reducible apply TOk.app | with_reducible apply TOk.cut))) (by decide))) | with_reducible refine w_slice ?_ | with_reducible refine w_dict0 ?_ | with_reducible refine w_exc0 ?_ | with_reducible refine w_dict ?_ | with_reducible refine w_pairs0 ?_ | with_reducible refine w_pairs ?_ | with_reducible refine w_isi ?_ | with_reducible refine w_abs ?_ | with_reducible refine w_max ?_ | with_reducible refine w_min ?_ | with_reducible refine w_gNm ?_ | with_reducible refine w_gCons ?_ | with_reducible refine w_gNil ?_ | with_reducible refine w_retF ?_ | with_reducible refine w_lcI ?_ | with_reducible refine w_forI ?_ | with_reducible refine w_meth ?_ | (with_reducible refine w_part ?_) | (with_reducible refine w_itRange ?_) | (with_reducible refine w_itList ?_) | (with_reducible refine w_itStr ?_) | (with_reducible refine w_rev ?_) | with_reducible refine e_int ?_ | with_reducible refine e_str ?_ | with_reducible refine e_keyS ?_ | with_reducible refine e_keyI ?_ | with_reducible refine e_tyS ?_ | with_reducible refine e_tt ?_ | ((with_reducible refine e_rng ?_ ?_ ?_); (first | with_reducible assumption | omega | (simp only [List.length_cons, List.length_nil]; omega)); (first | with_reducible assumption | omega | (simp only [List.length_cons, List.length_nil]; omega))) | ((with_reducible apply e_isi); (exact rfl); (first | exact rfl | decide)) | ((with_reducible apply w_mkL); (decide); (exact rfl)) | ((with_reducible apply w_mkLp); (decide); (exact rfl)) | ((with_reducible apply w_mkLc); (decide)) | ((with_reducible apply w_mkT); (decide); (exact rfl)) | ((with_reducible apply w_mkTp); (decide); (exact rfl))))
    all_goals refine ⟨_, rfl, ?_, rfl⟩
    all_goals simp_all [opn, @eq_comm _ _ i]
theorem kd_asked {lo : Nat} {s : Sto} {k : Str} {t : MV} (h : Kd lo s k t) {w : Nat} (hw : w < 5) : Wp (m_law_asked [.d (.int w), t]) s (fun v s' => ∃ b, (bsOf t)[w]? = some b ∧ v = .d (.bool b) ∧ s' = s) noX := by
  rcases h with ⟨rfl, i, rfl, _⟩ | ⟨rfl, x, rfl, hx⟩ | ⟨rfl, h⟩
  · exact asked_int hw
  · exact asked_text hx hw
  · obtain ⟨h1, h2⟩ := oth_no h
    refine (asked_no h1 w).then fun v s' ⟨e, e'⟩ => ⟨false, ?_, e, e'⟩
    rw [h2]
    match w, hw with
    | 0, _ => rfl
    | 1, _ => rfl
    | 2, _ => rfl
    | 3, _ => rfl
    | 4, _ => rfl
theorem kd_due {lo : Nat} {s : Sto} {k : Str} {t : MV} (h : Kd lo s k t) : Wp (m_law_due [.d (.str k), t]) s (fun v s' => v = .d (.list ((bsOf t).map .bool)) ∧ Above 0 s s') noX := by
  rcases h with ⟨rfl, i, rfl, _⟩ | ⟨rfl, x, rfl, hx⟩ | ⟨rfl, h⟩
  · exact due_whole i
  · exact due_text hx
  · exact due_other t (oth_no h).2
theorem bs_len (t : MV) : (bsOf t).length = 5 := by
  unfold bsOf
  split <;> rfl
theorem upTo_at {n : Nat} {i : Nat} {y : M MV} (e : ((upTo 0 n).map fun z => (ret z : M MV))[i]? = some y) : y = ret (.d (.int (0 + (i : Int)))) ∧ i < n := by
  unfold Dm.upTo at e
  rw [List.map_map, List.getElem?_map] at e
  by_cases h : i < n
  · rw [List.getElem?_range h] at e
    cases e
    exact ⟨rfl, h⟩
  · rw [List.getElem?_eq_none (by simpa using h)] at e
    cases e
theorem right_ok {lo : Nat} {st : Sto} {k : Str} {t : MV} (h : Kd lo st k t) {f g : Int} (hf : 0 ≤ f) (hg : 0 ≤ g) (hg2 : g ≤ 10) : Wp (m_law_right [t, .d (.list ((bsOf t).map .bool)), .d (.int f), .d (.int g)]) st (fun v s => v = .d (.bool true) ∧ s = st) noX := by
  refine w_fn rfl ?_
  unfold b_law_right
  (repeat' (first | ((with_reducible apply w_draw_l); (with_reducible assumption); (first | with_reducible assumption | omega | (simp only [List.length_cons, List.length_nil]; omega)); (first | with_reducible assumption | omega | (simp only [List.length_cons, List.length_nil]; omega)); (intro _ _ _ _ _)) | with_reducible refine w_c ?_ | ((with_reducible apply w_var); (exact rfl)) | with_reducible refine w_m2 ?_ | with_reducible refine w_cons ?_ | with_reducible refine w_nil ?_ | with_reducible refine w_mk ?_ | with_reducible refine w_call ?_ | with_reducible refine w_sq ?_ | with_reducible refine w_set ?_ | with_reducible refine w_tst ?_ | with_reducible refine t_b ?_ | with_reducible refine w_if ?_ | with_reducible refine w_nx ?_ | with_reducible refine w_retS ?_ | with_reducible refine w_eqI ?_ | (with_reducible refine b_dec (fun _ => ?_) (fun _ => ?_)) | with_reducible refine w_addI ?_ | with_reducible refine w_sub' ?_ | with_reducible refine w_iadd ?_ | with_reducible refine w_lt ?_ | with_reducible refine w_le ?_ | with_reducible refine w_gt ?_ | with_reducible refine w_ge ?_ | with_reducible refine w_neI ?_ | with_reducible refine w_chain ?_ | with_reducible refine w_and ?_ | with_reducible refine w_or ?_ | with_reducible refine w_not ?_ | with_reducible refine w_andV ?_ | with_reducible refine w_orV ?_ | with_reducible refine w_notV ?_ | with_reducible refine w_mIf ?_ | with_reducible refine w_bnd ?_ | with_reducible refine w_ret ?_ | with_reducible refine b_t ?_ | with_reducible refine b_f ?_ | with_reducible refine b_not ?_ | with_reducible refine w_expr ?_ | with_reducible refine w_sub ?_ | with_reducible refine w_augS ?_ | with_reducible refine w_retN ?_ | with_reducible refine w_lenD ?_ | with_reducible refine w_lenT ?_ | with_reducible refine w_isub ?_ | with_reducible refine w_bk ?_ | with_reducible refine w_ct ?_ | ((with_reducible apply w_mod); (first | decide | assumption | omega)) | ((with_reducible apply w_div); (first | decide | (constructor <;> first | assumption | omega))) | ((with_reducible apply w_mul); (first | exact .inr (by decide) | exact .inl (by decide) | omega)) | ((with_reducible apply w_pow); (decide)) | ((with_reducible apply w_ixL); (first | assumption | exact put_self); (first | exact atI0 | exact atI1 | exact atI2 | exact atI3 | exact atI_map (by omega) (by assumption))) | ((with_reducible apply w_getL); (first | assumption | exact put_self); (first | exact atI0 | exact atI1 | exact atI2 | exact atI3 | exact atI_map (by omega) (by assumption))) | ((with_reducible apply w_setL); (first | assumption | exact put_self); (first | exact ixL0 | exact ixL1 | exact ixL2)) | ((with_reducible apply w_ixD); (first | exact atI0 | exact atI1 | exact atI2 | exact atI3 | exact atI_map (by omega) (by assumption))) | ((with_reducible apply w_lenL); (first | assumption | exact put_self)) | ((with_reducible refine w_ixA ?_ ?_ (allC ?_ ?_)); (first | with_reducible assumption | omega | (simp only [List.length_cons, List.length_nil]; omega)); (first | with_reducible assumption | omega | (simp only [List.length_cons, List.length_nil]; omega))) | with_reducible exact allN | with_reducible refine allC ?_ ?_ | ((with_reducible apply w_ixLA); (first | assumption | exact new_self); (first | with_reducible assumption | omega | (simp only [List.length_cons, List.length_nil]; omega)); (first | with_reducible assumption | omega | (simp only [List.length_cons, List.length_nil]; omega))) | ((with_reducible apply w_addS); (exact tok2 (by (repeat' (first | assumption | exact TOk.lit2 (by decide +kernel) | with_reducible apply TOk.app | with_reducible apply TOk.cut))) (by (repeat' (first | assumption | exact TOk.lit2 (by decide +kernel) | with_reducible apply TOk.app | with_reducible apply TOk.cut))) (by decide))) | ((with_reducible apply w_lenS2); ((repeat' (first | assumption | exact TOk.lit2 (by decide +kernel) | with_reducible apply TOk.app | with_reducible apply TOk.cut))); (decide); (intro _)) | ((with_reducible apply w_cutS); (exact TOk.len (by (repeat' (first | assumption | exact TOk.lit2 (by decide +kernel) | with_reducible apply TOk.app | with_reducible apply TOk.cut))) (by decide))) | with_reducible refine w_slice ?_ | with_reducible refine w_dict0 ?_ | with_reducible refine w_exc0 ?_ | with_reducible refine w_dict ?_ | with_reducible refine w_pairs0 ?_ | with_reducible refine w_pairs ?_ | with_reducible refine w_isi ?_ | with_reducible refine w_abs ?_ | with_reducible refine w_max ?_ | with_reducible refine w_min ?_ | with_reducible refine w_gNm ?_ | with_reducible refine w_gCons ?_ | with_reducible refine w_gNil ?_ | with_reducible refine w_retF ?_ | with_reducible refine w_lcI ?_ | with_reducible refine w_forI ?_ | with_reducible refine w_meth ?_ | (with_reducible refine w_part ?_) | (with_reducible refine w_itRange ?_) | (with_reducible refine w_itList ?_) | (with_reducible refine w_itStr ?_) | (with_reducible refine w_rev ?_) | with_reducible refine e_int ?_ | with_reducible refine e_str ?_ | with_reducible refine e_keyS ?_ | with_reducible refine e_keyI ?_ | with_reducible refine e_tyS ?_ | with_reducible refine e_tt ?_ | ((with_reducible refine e_rng ?_ ?_ ?_); (first | with_reducible assumption | omega | (simp only [List.length_cons, List.length_nil]; omega)); (first | with_reducible assumption | omega | (simp only [List.length_cons, List.length_nil]; omega))) | ((with_reducible apply e_isi); (exact rfl); (first | exact rfl | decide)) | ((with_reducible apply w_mkL); (decide); (exact rfl)) | ((with_reducible apply w_mkLp); (decide); (exact rfl)) | ((with_reducible apply w_mkLc); (decide)) | ((with_reducible apply w_mkT); (decide); (exact rfl)) | ((with_reducible apply w_mkTp); (decide); (exact rfl))))
  refine w_for (fun j ρ s => s = st ∧ ∃ a b c, ρ = [some t, some (.d (.list ((bsOf t).map .bool))), some (.d (.int f)), some (.d (.int g)), a, b, c]) (fun _ _ _ _ => trivial) _ 0 _ _ ⟨rfl, _, _, _, rfl⟩ (fun i y e ρ s h' => ?_) (fun ρ s h' => ?_)
  · obtain ⟨rfl, a, b, c, rfl⟩ := h'
    obtain ⟨rfl, hi⟩ := upTo_at e
    have hm0 : 0 ≤ (f + g * (0 + (i : Int))) % 5 := Int.emod_nonneg _ (by decide)
    have hm1 : (f + g * (0 + (i : Int))) % 5 < 5 := Int.emod_lt_of_pos _ (by decide)
    obtain ⟨w, hw⟩ := Int.eq_ofNat_of_zero_le hm0
    have hw5 : w < 5 := by omega
    refine w_ret (w_gNm ?_)
    refine w_sq (w_set (w_m2 (w_m2 (w_var rfl (w_m2 (w_var rfl (w_var rfl (w_mul (.inl (by omega)) (w_addI (w_c (w_mod (by decide) ?_)))))))))))
    rw [hw]
    refine w_sq (w_set (w_call (w_cons (w_var rfl (w_cons (w_var rfl (w_nil ?_)))))))
    refine (kd_asked h hw5).then fun v s' ⟨b, hb, e1, e2⟩ => ?_
    subst e1
    subst e2
    have e5 : atI ((bsOf t).map PyData.bool) (w : Int) = some (.bool b) := by
      have hl : w < ((bsOf t).map PyData.bool).length := by rw [List.length_map, bs_len]; exact hw5
      rw [atI_nat hl, List.getElem_map]
      rw [List.getElem?_eq_getElem (by rw [bs_len]; exact hw5)] at hb
      cases hb
      rfl
    (repeat' (first | ((with_reducible apply w_draw_l); (with_reducible assumption); (first | with_reducible assumption | omega | (simp only [List.length_cons, List.length_nil]; omega)); (first | with_reducible assumption | omega | (simp only [List.length_cons, List.length_nil]; omega)); (intro _ _ _ _ _)) | with_reducible refine w_c ?_ | ((with_reducible apply w_var); (exact rfl)) | with_reducible refine w_m2 ?_ | with_reducible refine w_cons ?_ | with_reducible refine w_nil ?_ | with_reducible refine w_mk ?_ | with_reducible refine w_call ?_ | with_reducible refine w_sq ?_ | with_reducible refine w_set ?_ | with_reducible refine w_tst ?_ | with_reducible refine t_b ?_ | with_reducible refine w_if ?_ | with_reducible refine w_nx ?_ | with_reducible refine w_retS ?_ | with_reducible refine w_eqI ?_ | (with_reducible refine b_dec (fun _ => ?_) (fun _ => ?_)) | with_reducible refine w_addI ?_ | with_reducible refine w_sub' ?_ | with_reducible refine w_iadd ?_ | with_reducible refine w_lt ?_ | with_reducible refine w_le ?_ | with_reducible refine w_gt ?_ | with_reducible refine w_ge ?_ | with_reducible refine w_neI ?_ | with_reducible refine w_chain ?_ | with_reducible refine w_and ?_ | with_reducible refine w_or ?_ | with_reducible refine w_not ?_ | with_reducible refine w_andV ?_ | with_reducible refine w_orV ?_ | with_reducible refine w_notV ?_ | with_reducible refine w_mIf ?_ | with_reducible refine w_bnd ?_ | with_reducible refine w_ret ?_ | with_reducible refine b_t ?_ | with_reducible refine b_f ?_ | with_reducible refine b_not ?_ | with_reducible refine w_expr ?_ | with_reducible refine w_sub ?_ | with_reducible refine w_augS ?_ | with_reducible refine w_retN ?_ | with_reducible refine w_lenD ?_ | with_reducible refine w_lenT ?_ | with_reducible refine w_isub ?_ | with_reducible refine w_bk ?_ | with_reducible refine w_ct ?_ | ((with_reducible apply w_mod); (first | decide | assumption | omega)) | ((with_reducible apply w_div); (first | decide | (constructor <;> first | assumption | omega))) | ((with_reducible apply w_mul); (first | exact .inr (by decide) | exact .inl (by decide) | omega)) | ((with_reducible apply w_pow); (decide)) | ((with_reducible apply w_ixL); (first | assumption | exact put_self); (first | exact atI0 | exact atI1 | exact atI2 | exact atI3 | exact atI_map (by omega) (by assumption))) | ((with_reducible apply w_getL); (first | assumption | exact put_self); (first | exact atI0 | exact atI1 | exact atI2 | exact atI3 | exact atI_map (by omega) (by assumption))) | ((with_reducible apply w_setL); (first | assumption | exact put_self); (first | exact ixL0 | exact ixL1 | exact ixL2)) | ((with_reducible apply w_ixD); (first | exact atI0 | exact atI1 | exact atI2 | exact atI3 | exact atI_map (by omega) (by assumption))) | ((with_reducible apply w_lenL); (first | assumption | exact put_self)) | ((with_reducible refine w_ixA ?_ ?_ (allC ?_ ?_)); (first | with_reducible assumption | omega | (simp only [List.length_cons, List.length_nil]; omega)); (first | with_reducible assumption | omega | (simp only [List.length_cons, List.length_nil]; omega))) | with_reducible exact allN | with_reducible refine allC ?_ ?_ | ((with_reducible apply w_ixLA); (first | assumption | exact new_self); (first | with_reducible assumption | omega | (simp only [List.length_cons, List.length_nil]; omega)); (first | with_reducible assumption | omega | (simp only [List.length_cons, List.length_nil]; omega))) | ((with_reducible apply w_addS); (exact tok2 (by (repeat' (first | assumption | exact TOk.lit2 (by decide +kernel) | with_reducible apply TOk.app | with_reducible apply TOk.cut))) (by (repeat' (first | assumption | exact TOk.lit2 (by decide +kernel) | with_reducible apply TOk.app | with_reducible apply TOk.cut))) (by decide))) | ((with_reducible apply w_lenS2); ((repeat' (first | assumption | exact TOk.lit2 (by decide +kernel) | with_reducible apply TOk.app | with_reducible apply TOk.cut))); (decide); (intro _)) | ((with_reducible apply w_cutS); (exact TOk.len (by (repeat' (first | assumption | exact TOk.lit2 (by decide +kernel) | with_reducible apply TOk.app | with_reducible apply TOk.cut))) (by decide))) | with_reducible refine w_slice ?_ | with_reducible refine w_dict0 ?_ | with_reducible refine w_exc0 ?_ | with_reducible refine w_dict ?_ | with_reducible refine w_pairs0 ?_ | with_reducible refine w_pairs ?_ | with_reducible refine w_isi ?_ | with_reducible refine w_abs ?_ | with_reducible refine w_max ?_ | with_reducible refine w_min ?_ | with_reducible refine w_gNm ?_ | with_reducible refine w_gCons ?_ | with_reducible refine w_gNil ?_ | with_reducible refine w_retF ?_ | with_reducible refine w_lcI ?_ | with_reducible refine w_forI ?_ | with_reducible refine w_meth ?_ | (with_reducible refine w_part ?_) | (with_reducible refine w_itRange ?_) | (with_reducible refine w_itList ?_) | (with_reducible refine w_itStr ?_) | (with_reducible refine w_rev ?_) | with_reducible refine e_int ?_ | with_reducible refine e_str ?_ | with_reducible refine e_keyS ?_ | with_reducible refine e_keyI ?_ | with_reducible refine e_tyS ?_ | with_reducible refine e_tt ?_ | ((with_reducible refine e_rng ?_ ?_ ?_); (first | with_reducible assumption | omega | (simp only [List.length_cons, List.length_nil]; omega)); (first | with_reducible assumption | omega | (simp only [List.length_cons, List.length_nil]; omega))) | ((with_reducible apply e_isi); (exact rfl); (first | exact rfl | decide)) | ((with_reducible apply w_mkL); (decide); (exact rfl)) | ((with_reducible apply w_mkLp); (decide); (exact rfl)) | ((with_reducible apply w_mkLc); (decide)) | ((with_reducible apply w_mkT); (decide); (exact rfl)) | ((with_reducible apply w_mkTp); (decide); (exact rfl))))
    · refine w_ixD e5 (w_eqD rfl ?_)
      have : PyData.eqv (.bool b) (.bool b) = true := by simp [PyData.eqv]
      rw [this]
      refine t_b (b_f ?_)
      (repeat' (first | ((with_reducible apply w_draw_l); (with_reducible assumption); (first | with_reducible assumption | omega | (simp only [List.length_cons, List.length_nil]; omega)); (first | with_reducible assumption | omega | (simp only [List.length_cons, List.length_nil]; omega)); (intro _ _ _ _ _)) | with_reducible refine w_c ?_ | ((with_reducible apply w_var); (exact rfl)) | with_reducible refine w_m2 ?_ | with_reducible refine w_cons ?_ | with_reducible refine w_nil ?_ | with_reducible refine w_mk ?_ | with_reducible refine w_call ?_ | with_reducible refine w_sq ?_ | with_reducible refine w_set ?_ | with_reducible refine w_tst ?_ | with_reducible refine t_b ?_ | with_reducible refine w_if ?_ | with_reducible refine w_nx ?_ | with_reducible refine w_retS ?_ | with_reducible refine w_eqI ?_ | (with_reducible refine b_dec (fun _ => ?_) (fun _ => ?_)) | with_reducible refine w_addI ?_ | with_reducible refine w_sub' ?_ | with_reducible refine w_iadd ?_ | with_reducible refine w_lt ?_ | with_reducible refine w_le ?_ | with_reducible refine w_gt ?_ | with_reducible refine w_ge ?_ | with_reducible refine w_neI ?_ | with_reducible refine w_chain ?_ | with_reducible refine w_and ?_ | with_reducible refine w_or ?_ | with_reducible refine w_not ?_ | with_reducible refine w_andV ?_ | with_reducible refine w_orV ?_ | with_reducible refine w_notV ?_ | with_reducible refine w_mIf ?_ | with_reducible refine w_bnd ?_ | with_reducible refine w_ret ?_ | with_reducible refine b_t ?_ | with_reducible refine b_f ?_ | with_reducible refine b_not ?_ | with_reducible refine w_expr ?_ | with_reducible refine w_sub ?_ | with_reducible refine w_augS ?_ | with_reducible refine w_retN ?_ | with_reducible refine w_lenD ?_ | with_reducible refine w_lenT ?_ | with_reducible refine w_isub ?_ | with_reducible refine w_bk ?_ | with_reducible refine w_ct ?_ | ((with_reducible apply w_mod); (first | decide | assumption | omega)) | ((with_reducible apply w_div); (first | decide | (constructor <;> first | assumption | omega))) | ((with_reducible apply w_mul); (first | exact .inr (by decide) | exact .inl (by decide) | omega)) | ((with_reducible apply w_pow); (decide)) | ((with_reducible apply w_ixL); (first | assumption | exact put_self); (first | exact atI0 | exact atI1 | exact atI2 | exact atI3 | exact atI_map (by omega) (by assumption))) | ((with_reducible apply w_getL); (first | assumption | exact put_self); (first | exact atI0 | exact atI1 | exact atI2 | exact atI3 | exact atI_map (by omega) (by assumption))) | ((with_reducible apply w_setL); (first | assumption | exact put_self); (first | exact ixL0 | exact ixL1 | exact ixL2)) | ((with_reducible apply w_ixD); (first | exact atI0 | exact atI1 | exact atI2 | exact atI3 | exact atI_map (by omega) (by assumption))) | ((with_reducible apply w_lenL); (first | assumption | exact put_self)) | ((with_reducible refine w_ixA ?_ ?_ (allC ?_ ?_)); (first | with_reducible assumption | omega | (simp only [List.length_cons, List.length_nil]; omega)); (first | with_reducible assumption | omega | (simp only [List.length_cons, List.length_nil]; omega))) | with_reducible exact allN | with_reducible refine allC ?_ ?_ | ((with_reducible apply w_ixLA); (first | assumption | exact new_self); (first | with_reducible assumption | omega | (simp only [List.length_cons, List.length_nil]; omega)); (first | with_reducible assumption | omega | (simp only [List.length_cons, List.length_nil]; omega))) | ((with_reducible apply w_addS); (exact tok2 (by (repeat' (first | assumption | exact TOk.lit2 (by decide +kernel) | with_reducible apply TOk.app | with_reducible apply TOk.cut))) (by (repeat' (first | assumption | exact TOk.lit2 (by decide +kernel) | with_reducible apply TOk.app | with_reducible apply TOk.cut))) (by decide))) | ((with_reducible apply w_lenS2); ((repeat' (first | assumption | exact TOk.lit2 (by decide +kernel) | with_reducible apply TOk.app | with_reducible apply TOk.cut))); (decide); (intro _)) | ((with_reducible apply w_cutS); (exact TOk.len (by (repeat' (first | assumption | exact TOk.lit2 (by decide +kernel) | with_reducible apply TOk.app | with_reducible apply TOk.cut))) (by decide))) | with_reducible refine w_slice ?_ | with_reducible refine w_dict0 ?_ | with_reducible refine w_exc0 ?_ | with_reducible refine w_dict ?_ | with_reducible refine w_pairs0 ?_ | with_reducible refine w_pairs ?_ | with_reducible refine w_isi ?_ | with_reducible refine w_abs ?_ | with_reducible refine w_max ?_ | with_reducible refine w_min ?_ | with_reducible refine w_gNm ?_ | with_reducible refine w_gCons ?_ | with_reducible refine w_gNil ?_ | with_reducible refine w_retF ?_ | with_reducible refine w_lcI ?_ | with_reducible refine w_forI ?_ | with_reducible refine w_meth ?_ | (with_reducible refine w_part ?_) | (with_reducible refine w_itRange ?_) | (with_reducible refine w_itList ?_) | (with_reducible refine w_itStr ?_) | (with_reducible refine w_rev ?_) | with_reducible refine e_int ?_ | with_reducible refine e_str ?_ | with_reducible refine e_keyS ?_ | with_reducible refine e_keyI ?_ | with_reducible refine e_tyS ?_ | with_reducible refine e_tt ?_ | ((with_reducible refine e_rng ?_ ?_ ?_); (first | with_reducible assumption | omega | (simp only [List.length_cons, List.length_nil]; omega)); (first | with_reducible assumption | omega | (simp only [List.length_cons, List.length_nil]; omega))) | ((with_reducible apply e_isi); (exact rfl); (first | exact rfl | decide)) | ((with_reducible apply w_mkL); (decide); (exact rfl)) | ((with_reducible apply w_mkLp); (decide); (exact rfl)) | ((with_reducible apply w_mkLc); (decide)) | ((with_reducible apply w_mkT); (decide); (exact rfl)) | ((with_reducible apply w_mkTp); (decide); (exact rfl))))
      exact ⟨rfl, _, _, _, rfl⟩
  · obtain ⟨rfl, a, b, c, rfl⟩ := h'
    (repeat' (first | ((with_reducible apply w_draw_l); (with_reducible assumption); (first | with_reducible assumption | omega | (simp only [List.length_cons, List.length_nil]; omega)); (first | with_reducible assumption | omega | (simp only [List.length_cons, List.length_nil]; omega)); (intro _ _ _ _ _)) | with_reducible refine w_c ?_ | ((with_reducible apply w_var); (exact rfl)) | with_reducible refine w_m2 ?_ | with_reducible refine w_cons ?_ | with_reducible refine w_nil ?_ | with_reducible refine w_mk ?_ | with_reducible refine w_call ?_ | with_reducible refine w_sq ?_ | with_reducible refine w_set ?_ | with_reducible refine w_tst ?_ | with_reducible refine t_b ?_ | with_reducible refine w_if ?_ | with_reducible refine w_nx ?_ | with_reducible refine w_retS ?_ | with_reducible refine w_eqI ?_ | (with_reducible refine b_dec (fun _ => ?_) (fun _ => ?_)) | with_reducible refine w_addI ?_ | with_reducible refine w_sub' ?_ | with_reducible refine w_iadd ?_ | with_reducible refine w_lt ?_ | with_reducible refine w_le ?_ | with_reducible refine w_gt ?_ | with_reducible refine w_ge ?_ | with_reducible refine w_neI ?_ | with_reducible refine w_chain ?_ | with_reducible refine w_and ?_ | with_reducible refine w_or ?_ | with_reducible refine w_not ?_ | with_reducible refine w_andV ?_ | with_reducible refine w_orV ?_ | with_reducible refine w_notV ?_ | with_reducible refine w_mIf ?_ | with_reducible refine w_bnd ?_ | with_reducible refine w_ret ?_ | with_reducible refine b_t ?_ | with_reducible refine b_f ?_ | with_reducible refine b_not ?_ | with_reducible refine w_expr ?_ | with_reducible refine w_sub ?_ | with_reducible refine w_augS ?_ | with_reducible refine w_retN ?_ | with_reducible refine w_lenD ?_ | with_reducible refine w_lenT ?_ | with_reducible refine w_isub ?_ | with_reducible refine w_bk ?_ | with_reducible refine w_ct ?_ | ((with_reducible apply w_mod); (first | decide | assumption | omega)) | ((with_reducible apply w_div); (first | decide | (constructor <;> first | assumption | omega))) | ((with_reducible apply w_mul); (first | exact .inr (by decide) | exact .inl (by decide) | omega)) | ((with_reducible apply w_pow); (decide)) | ((with_reducible apply w_ixL); (first | assumption | exact put_self); (first | exact atI0 | exact atI1 | exact atI2 | exact atI3 | exact atI_map (by omega) (by assumption))) | ((with_reducible apply w_getL); (first | assumption | exact put_self); (first | exact atI0 | exact atI1 | exact atI2 | exact atI3 | exact atI_map (by omega) (by assumption))) | ((with_reducible apply w_setL); (first | assumption | exact put_self); (first | exact ixL0 | exact ixL1 | exact ixL2)) | ((with_reducible apply w_ixD); (first | exact atI0 | exact atI1 | exact atI2 | exact atI3 | exact atI_map (by omega) (by assumption))) | ((with_reducible apply w_lenL); (first | assumption | exact put_self)) | ((with_reducible refine w_ixA ?_ ?_ (allC ?_ ?_)); (first | with_reducible assumption | omega | (simp only [List.length_cons, List.length_nil]; omega)); (first | with_reducible assumption | omega | (simp only [List.length_cons, List.length_nil]; omega))) | with_reducible exact allN | with_reducible refine allC ?_ ?_ | ((with_reducible apply w_ixLA); (first | assumption | exact new_self); (first | with_reducible assumption | omega | (simp only [List.length_cons, List.length_nil]; omega)); (first | with_reducible assumption | omega | (simp only [List.length_cons, List.length_nil]; omega))) | ((with_reducible apply w_addS); (exact tok2 (by (repeat' (first | assumption | exact TOk.lit2 (by decide +kernel) | with_reducible apply TOk.app | with_reducible apply TOk.cut))) (by (repeat' (first | assumption | exact TOk.lit2 (by decide +kernel) | with_reducible apply TOk.app | with_reducible apply TOk.cut))) (by decide))) | ((with_reducible apply w_lenS2); ((repeat' (first | assumption | exact TOk.lit2 (by decide +kernel) | with_reducible apply TOk.app | with_reducible apply TOk.cut))); (decide); (intro _)) | ((with_reducible apply w_cutS); (exact TOk.len (by (repeat' (first | assumption | exact TOk.lit2 (by decide +kernel) | with_reducible apply TOk.app | with_reducible apply TOk.cut))) (by decide))) | with_reducible refine w_slice ?_ | with_reducible refine w_dict0 ?_ | with_reducible refine w_exc0 ?_ | with_reducible refine w_dict ?_ | with_reducible refine w_pairs0 ?_ | with_reducible refine w_pairs ?_ | with_reducible refine w_isi ?_ | with_reducible refine w_abs ?_ | with_reducible refine w_max ?_ | with_reducible refine w_min ?_ | with_reducible refine w_gNm ?_ | with_reducible refine w_gCons ?_ | with_reducible refine w_gNil ?_ | with_reducible refine w_retF ?_ | with_reducible refine w_lcI ?_ | with_reducible refine w_forI ?_ | with_reducible refine w_meth ?_ | (with_reducible refine w_part ?_) | (with_reducible refine w_itRange ?_) | (with_reducible refine w_itList ?_) | (with_reducible refine w_itStr ?_) | (with_reducible refine w_rev ?_) | with_reducible refine e_int ?_ | with_reducible refine e_str ?_ | with_reducible refine e_keyS ?_ | with_reducible refine e_keyI ?_ | with_reducible refine e_tyS ?_ | with_reducible refine e_tt ?_ | ((with_reducible refine e_rng ?_ ?_ ?_); (first | with_reducible assumption | omega | (simp only [List.length_cons, List.length_nil]; omega)); (first | with_reducible assumption | omega | (simp only [List.length_cons, List.length_nil]; omega))) | ((with_reducible apply e_isi); (exact rfl); (first | exact rfl | decide)) | ((with_reducible apply w_mkL); (decide); (exact rfl)) | ((with_reducible apply w_mkLp); (decide); (exact rfl)) | ((with_reducible apply w_mkLc); (decide)) | ((with_reducible apply w_mkT); (decide); (exact rfl)) | ((with_reducible apply w_mkTp); (decide); (exact rfl))))
    exact ⟨rfl, rfl⟩
end Lw

set_option Elab.async false
set_option linter.all false
set_option maxRecDepth 100000
set_option maxHeartbeats 1000000
namespace Dm
open PySem PySem.Spec PyProof.Rows L2
theorem w_mkL_LV {b : Nat} {st : Sto} {E : XP} {Qv : MV → Sto → Prop} {xs : List MV} (hB : Bag st b) (hz : xs.length ≤ sizeLine) (h : ∀ v s', LV st.n s' v xs → Step b st s' → Qv v s') : Wp (mkL xs) st Qv E := by
  cases q : datas xs with
  | some ds =>
    refine w_mkL hz q (h _ _ ⟨?_, fun i e => by cases e⟩ (.refl hB))
    show some (ds.map MV.d) = _
    rw [← datas_eq q]
  | none =>
    refine w_mkLp hz q (h _ _ ⟨?_, fun i e => by cases e; exact ⟨Nat.le_refl _, Nat.lt_succ_self _⟩⟩ (Step.refl hB).new)
    show (match (st.new (.lst xs)).o st.n with | some (.lst xs) => some xs | _ => none) = _
    rw [new_self]
theorem cut_map {α β : Type} (f : α → β) (xs : List α) (lo hi : Option Int) : cut (xs.map f) lo hi = (cut xs lo hi).map f := by
  unfold cut
  rw [List.length_map, List.map_take, List.map_drop]
theorem cut_len {α : Type} (xs : List α) (lo hi : Option Int) : (cut xs lo hi).length ≤ xs.length := by
  unfold cut
  rw [List.length_take, List.length_drop]
  omega
theorem size_ge {n : Nat} (h : n ≤ 1000000) : n < sizeLine := Nat.lt_of_le_of_lt h (by show 1000000 < 2 ^ 24; decide)
end Dm
namespace Lw
open PySem PySem.Spec PyProof.Rows L2 Dm
theorem bag_ok {st : Sto} {ns : List Int} (hl : ns.length ≤ 63) : Wp (m_law_bag [.scr ns]) st (fun v s => ∃ b, v = .c b ∧ Bag s b) noX := by
  refine w_fn rfl ?_
  unfold b_law_bag
  refine w_retS (w_mk (w_cons (w_c (w_cons (w_c (w_cons (w_c (w_cons (w_lcI (w_itList (w_slice (w_var rfl (w_retF (ρ := []) (w_part (w_c ⟨_, rfl, w_cutScr ?_⟩)))))))))))))))
  rw [cut_map]
  have hc : (cut ns none (some 63)).length ≤ 63 := Nat.le_trans (cut_len _ _ _) hl
  have e : datas ((cut ns none (some 63)).map fun n => MV.d (.int n)) = some ((cut ns none (some 63)).map .int) := by
    rw [← datas_map, List.map_map]
    rfl
  refine w_mkL (by rw [List.length_map]; exact Nat.le_of_lt (size_ge (by omega))) e ⟨_, rfl, ?_⟩
  refine w_lcB (F := fun v => match v with | .d (.int i) => .int (if i < 0 then -i else i) | _ => .none) (p := fun _ => true) (fun _ _ => rfl) (by rw [List.length_map, List.length_map]; exact size_ge (by omega)) (fun z hz s A => ?_) fun s A => ?_
  · obtain ⟨d, hd, rfl⟩ := List.mem_map.mp hz
    obtain ⟨i, _, rfl⟩ := List.mem_map.mp hd
    exact w_gNm ⟨rfl, w_retF (ρ := []) ⟨rfl, rfl, fun _ => w_mk (w_cons (w_var rfl (w_nil (w_abs ⟨rfl, rfl⟩))))⟩⟩
  · refine w_nil (w_mkLc (Nat.le_of_lt (size_ge (Nat.le_of_ble_eq_true rfl))) ⟨_, rfl, Nat.lt_succ_self _, 0, 1234567891, 0, (cut ns none (some 63)).map fun i => if i < 0 then -i else i, by decide, ?_⟩)
    rw [new_self]
    rw [List.filter_eq_self.mpr fun _ _ => rfl, List.map_map, List.map_map, List.map_map]
    rfl
/-- a thing's text -/
def TE (s : Sto) (z : MV) : PyData := match tupOf s z with
  | some [_, t] => (match showM ["NoRow"] 20 [] s t with | some x => .str x | none => .none)
  | _ => .none
theorem oth_text {lo : Nat} {s : Sto} {t : MV} (h : Oth lo s t) : ∃ x, PyData.strOk x = true ∧ x.length ≤ sizeLine ∧ showM ["NoRow"] 20 [] s t = some x := by
  rcases h with ⟨d, rfl, ⟨h1, h2, h3, h4⟩, _⟩ | ⟨i, rfl, _, _, h⟩
  · have hz := Nat.le_of_lt (size_ge (Nat.le_trans h3 (by decide)))
    refine ⟨d.shown, ok_shown h1, hz, ?_⟩
    unfold showM
    rw [if_pos ⟨h2, hz, by omega⟩]
  · rcases h with h | ⟨d, ⟨h1, h2, h3, h4⟩, h⟩ | h
    · refine ⟨dictText [], ok_dictText (fun _ h => nomatch h), ?_, ?_⟩
      · show ((("{" : Str) ++ Str.empty) ++ ("}" : Str)).length ≤ _
        rw [strLen_append, strLen_append, PySem.ofString_length, PySem.ofString_length]
        exact Nat.le_of_lt (size_ge (by show 1 + 0 + 1 ≤ _; omega))
      · unfold showM
        simp only [h]
        rfl
    · have hz := Nat.le_of_lt (size_ge (Nat.le_trans h3 (by decide)))
      have hk : TOk (keyText (.inr "a")) 12 := TOk.repr (n := 1) (.lit (by decide))
      refine ⟨dictText [pairText (.inr "a") d.shown], ok_dictText (fun s hs => ?_), ?_, ?_⟩
      · rw [List.mem_singleton.mp hs]
        exact ok_app (ok_app hk.1 (ok_ofString _)) (ok_shown h1)
      · show ((("{" : Str) ++ ((keyText (.inr "a") ++ (": " : Str)) ++ d.shown)) ++ ("}" : Str)).length ≤ _
        rw [strLen_append, strLen_append, strLen_append, strLen_append, PySem.ofString_length, PySem.ofString_length, PySem.ofString_length]
        have := hk.2
        exact Nat.le_of_lt (size_ge (by show 1 + (_ + 2 + _) + 1 ≤ _; omega))
      · unfold showM
        simp only [h]
        have e : showM ["NoRow"] 19 [i] s (.d d) = some d.shown := by
          unfold showM
          rw [if_pos ⟨h2, hz, by omega⟩]
        have kf : keyFits (.inr "a") = true := decide_eq_true (Nat.le_of_lt (size_ge (Nat.le_trans hk.2 (by decide))))
        simp only [List.mapM_cons, List.mapM_nil, kf, if_true, e]
        rfl
    · refine ⟨headOf "NoRow" ++ tupleText [], ok_app ?_ (ok_tupleText fun _ h => nomatch h), ?_, ?_⟩
      · exact ok_ofString _
      · have h1 : (headOf "NoRow").length ≤ 10 := by
          unfold headOf
          rw [PySem.ofString_length]
          decide +kernel
        rw [strLen_append]
        show _ + ((("(" : Str) ++ Str.empty) ++ (")" : Str)).length ≤ _
        rw [strLen_append, strLen_append, PySem.ofString_length, PySem.ofString_length]
        exact Nat.le_of_lt (size_ge (by show _ + (1 + 0 + 1) ≤ _; omega))
      · unfold showM
        simp only [h]
        rw [if_neg (by simp), if_pos List.mem_cons_self]
theorem kd_text {lo : Nat} {s : Sto} {k : Str} {t : MV} (h : Kd lo s k t) : ∃ x, PyData.strOk x = true ∧ x.length ≤ sizeLine ∧ showM ["NoRow"] 20 [] s t = some x := by
  have hd : ∀ {d : PyData}, Part d → ∃ x, PyData.strOk x = true ∧ x.length ≤ sizeLine ∧ showM ["NoRow"] 20 [] s (.d d) = some x := fun {d} hp => by
    obtain ⟨h1, h2, h3, h4⟩ := shn_part hp
    have hz := Nat.le_of_lt (size_ge (Nat.le_trans h3 (by decide)))
    refine ⟨d.shown, ok_shown h1, hz, ?_⟩
    unfold showM
    rw [if_pos ⟨h2, hz, by omega⟩]
  rcases h with ⟨rfl, i, rfl, hi⟩ | ⟨rfl, x, rfl, hx⟩ | ⟨rfl, h⟩
  · exact hd (.inl ⟨i, rfl, hi⟩)
  · exact hd (.inr ⟨x, rfl, hx⟩)
  · exact oth_text h
theorem kd_keep {lo : Nat} {s s' : Sto} {k : Str} {t : MV} (h : Kd lo s k t) (a : Above lo s s') : Kd lo s' k t := by
  rcases h with h | h | ⟨h, h'⟩
  · exact .inl h
  · exact .inr (.inl h)
  · exact .inr (.inr ⟨h, h'.keep a⟩)
theorem kd_same {lo : Nat} {s s' : Sto} {k : Str} {t : MV} (h : Kd lo s k t) (a : Above lo s s') : showM ["NoRow"] 20 [] s' t = showM ["NoRow"] 20 [] s t := by
  rcases h with ⟨rfl, i, rfl, hi⟩ | ⟨rfl, x, rfl, hx⟩ | ⟨rfl, h⟩
  · simp only [showM]
  · simp only [showM]
  · rcases h with ⟨d, rfl, _⟩ | ⟨i, rfl, h1, h2, h⟩
    · simp only [showM]
    · have e := a.o i h1 h2
      rcases h with h | ⟨d, _, h⟩ | h
      · rw [h] at e
        unfold showM
        simp only [h, e, List.mapM_nil]
      · rw [h] at e
        unfold showM
        simp only [h, e, List.mapM_cons, List.mapM_nil, showM]
      · rw [h] at e
        unfold showM
        simp only [h, e]
theorem te_of {lo : Nat} {s : Sto} {z : MV} (h : TH lo s z) : ∃ k t x, tupOf s z = some [.d (.str k), t] ∧ Kd lo s k t ∧ PyData.strOk x = true ∧ x.length ≤ sizeLine ∧ showM ["NoRow"] 20 [] s t = some x ∧ TE s z = .str x := by
  obtain ⟨k, t, h1, h2⟩ := h
  obtain ⟨x, h3, h4, h5⟩ := kd_text h2
  refine ⟨k, t, x, h1.1, h2, h3, h4, h5, ?_⟩
  unfold TE
  simp only [h1.1, h5]
theorem te_keep {lo : Nat} {s s' : Sto} {z : MV} (h : TH lo s z) (a : Above lo s s') : TE s' z = TE s z := by
  obtain ⟨k, t, h1, h2⟩ := h
  have e := kd_same h2 a
  have h3 := h1.keep a
  unfold TE
  simp only [h1.1, h3.1, e]
theorem te_strs {lo : Nat} {s : Sto} : ∀ {zs : List MV}, (∀ z ∈ zs, TH lo s z) → ∃ ss : List Str, zs.map (TE s) = ss.map .str ∧ ∀ x ∈ ss, PyData.strOk x = true
  | [], _ => ⟨[], rfl, fun _ h => nomatch h⟩
  | z :: zs, h => by
    obtain ⟨k, t, x, _, _, h3, _, _, h6⟩ := te_of (h z List.mem_cons_self)
    obtain ⟨ss, e, hs⟩ := te_strs (zs := zs) fun z hz => h z (List.mem_cons_of_mem _ hz)
    refine ⟨x :: ss, by rw [List.map_cons, List.map_cons, h6, e], fun y hy => ?_⟩
    rcases List.mem_cons.mp hy with rfl | hy
    · exact h3
    · exact hs y hy
end Lw

set_option Elab.async false
set_option linter.all false
set_option maxRecDepth 100000
set_option maxHeartbeats 1000000
namespace Lw
open PySem PySem.Spec PyProof.Rows L2 Dm
theorem wipeM_len : ∀ (vs : List Nat) (ρ : Dm.Env), (wipeM ρ vs).length = ρ.length
  | [], ρ => rfl
  | v :: vs, ρ => by
    show ((wipeM ρ vs).set v none).length = _
    rw [List.length_set, wipeM_len vs]
theorem th_kept {st : Sto} {lo : Nat} {v : MV} {zs : List MV} {ρ : Dm.Env} {E : XP} {Qv : MV → Sto → Prop} (hV : LV lo st v zs) (hT : ∀ z ∈ zs, TH lo st z) (hl : zs.length ≤ 1000)
    (h1 : ρ[2]? = some (some v)) (h2 : 6 ≤ ρ.length) (q : ∀ s, Above 0 st s → Qv (.d (.list (zs.map (TE st)))) s) :
    Wp (mLc mFrz [4, 5] (itList (mVar 2)) (gTup 2 (gCons (gNm 4) (gCons (gNm 5) gNil))) (fun _ => Dm.ret true) (mMk (mRepr ["NoRow"]) (mCons (mVar 5) mNil)) ρ) st Qv E := by
  refine w_lcI (w_itList (w_var h1 ⟨zs, hV.1, ?_⟩))
  refine w_lcB (F := TE st) (p := fun _ => true) (fun s A => (hV.keep (A.mono (Nat.zero_le _))).1) (size_ge (by omega)) (fun z hz s A => ?_) fun s A => ?_
  · have hs := (hT z hz).keep (A.mono (Nat.zero_le lo))
    obtain ⟨k, t, x, e1, _, _, e2, e3, e4⟩ := te_of hs
    have e5 := te_keep (hT z hz) (A.mono (Nat.zero_le lo))
    have l5 : 5 < ((wipeM ρ [4, 5]).set 4 (some (MV.d (.str k)))).length := by
      rw [List.length_set, wipeM_len]; omega
    refine w_gTup e1 rfl (w_gCons (w_gNm (w_gCons (w_gNm (w_gNil ⟨rfl, w_retF (ρ := []) ⟨rfl, rfl, fun _ => ?_⟩⟩)))))
    refine w_mk (w_cons (w_var (List.getElem?_set_self l5) (w_nil (w_repr e3 e2 ⟨?_, rfl⟩))))
    rw [← e5, e4]
  · rw [List.filter_eq_self.mpr fun _ _ => rfl]
    exact q s A
theorem th_loop {s0 : Sto} {b lo : Nat} {v : MV} {zs : List MV} {ns : List Int} {kp : PyData} {g : Int} {fi : Dm.Env → M ItM} {a1 a2 a3 : Option MV} {D : Po}
    (hb : b < lo) (hl : lo ≤ s0.n) (hB : Bag s0 b) (hT : ∀ z ∈ zs, TH lo s0 z) (hg : 0 ≤ g) (hg2 : g ≤ 10)
    (h1 : ∀ {Q : ItM → Sto → Prop} {E : XP}, (∀ s ok, Step b s0 s → (∀ s', Step b s s' → ok s') → Q ⟨zs.map fun x => Dm.ret x, ok⟩ s) → Wp (fi [some (.scr ns), some (.c b), some v, some (.d kp), a1, a2, a3]) s0 Q E)
    (hn : ∀ s a1 a2 a3, Step b s0 s → D.nx [some (.scr ns), some (.c b), some v, some (.d kp), a1, a2, a3] s) :
    Ws (sFor fi (gTup 2 (gCons (gNm 4) (gCons (gNm 5) gNil))) (sIf (mNot (fun ρ => tst ((mCall m_law_right (mCons (mVar 5) (mCons (mCall m_law_due (mCons (mVar 4) (mCons (mVar 5) mNil))) (mCons (mCall m_law_take (mCons (mVar 1) (mCons (mC (.int 5)) mNil))) (mCons (mC (.int g)) mNil))))) ρ))) (sRet (mC (.bool false))) (fun ρ st => .nx ρ st)))
      [some (.scr ns), some (.c b), some v, some (.d kp), a1, a2, a3] s0 D := by
  refine w_forI (h1 fun s1 ok S1 hok => ?_)
  refine w_for (fun j ρ s => Step b s1 s ∧ ∃ a1 a2 a3, ρ = [some (.scr ns), some (.c b), some v, some (.d kp), a1, a2, a3]) (fun j ρ s h => hok s h.1) _ 0 _ _ ⟨.refl S1.bag, _, _, _, rfl⟩ (fun i y e ρ s h => ?_) (fun ρ s h => ?_)
  · obtain ⟨S, a1, a2, a3, rfl⟩ := h
    rw [List.getElem?_map] at e
    cases q : zs[i]? with
    | none => rw [q] at e; cases e
    | some z =>
      rw [q] at e
      cases e
      have S2 := S1.trans S
      obtain ⟨k, t, hz, hk⟩ := (hT z (List.mem_of_getElem? q)).keep (S2.above hb)
      refine w_ret (w_gTup hz.1 rfl (w_gCons (w_gNm (w_gCons (w_gNm (w_gNil ?_))))))
      refine w_if (w_not (w_tst (w_call (w_cons (w_var rfl (w_cons (w_call (w_cons (w_var rfl (w_cons (w_var rfl (w_nil ?_)))))))))))) 
      refine (kd_due hk).then fun w s2 ⟨e1, A⟩ => ?_
      subst e1
      have B2 : Bag s2 b := by
        obtain ⟨h1, z, r, t, cs, h2, h3⟩ := S2.bag
        exact ⟨Nat.lt_of_lt_of_le h1 A.n, z, r, t, cs, h2, (A.o b (Nat.zero_le _) h1).trans h3⟩
      have St : Step b s s2 := ⟨A.n, fun i h _ => A.o i (Nat.zero_le _) h, B2⟩
      refine w_cons (w_call (w_cons (w_var rfl (w_cons (w_c (w_nil ?_))))))
      refine w_draw_l St (by decide) (by decide) fun f s3 f0 f1 S3 => ?_
      refine w_cons (w_c (w_nil ?_))
      refine (right_ok (kd_keep hk (S3.above hb)) f0 hg hg2).then fun w s4 ⟨e1, e2⟩ => ?_
      subst e1
      subst e2
      exact t_b (b_f ⟨S.trans S3, _, _, _, rfl⟩)
  · obtain ⟨S, a1, a2, a3, rfl⟩ := h
    exact hn s a1 a2 a3 (S1.trans S)
theorem law_ok {st : Sto} {ns : List Int} (hl : ns.length ≤ 63) : Wp (m_law [.scr ns]) st (fun v s => v = .d (.bool true)) noX := by
  refine w_fn rfl ?_
  unfold b_law
  refine w_sq (w_set (w_call (w_cons (w_var rfl (w_nil ((bag_ok hl).then fun v s1 ⟨b, e, hB⟩ => ?_))))))
  subst e
  refine w_sq (w_set (w_lcI (w_itRange (w_cons (w_m2 (w_c (w_call (w_cons (w_var rfl (w_cons (w_c (w_nil ?_))))))))))))
  refine w_draw_l (.refl hB) (by decide) (by decide) fun k s2 k0 k1 S2 => ?_
  refine w_addI (w_nil ⟨_, rfl, by omega, by omega, ?_⟩)
  have hu : (upTo 0 (8 + k).toNat).length ≤ 40 := by
    unfold Dm.upTo
    rw [List.length_map, List.length_range]
    omega
  refine w_lcC (P := TH) (b := b) (fun _ => trivial) S2.bag (size_ge (by omega)) (fun _ _ _ _ h a => h.keep a) (fun _ _ _ _ h l => h.mono l) (fun x _ s hs _ => ?_) (fun v zs s3 hV _ hz hT S3 => ?_)
  · exact w_gNm (w_retF (ρ := []) ⟨rfl, w_call (w_cons (w_var rfl (w_nil (thing_ok hs.bag))))⟩)
  · have hb : b < s2.n := S2.bag.1
    refine w_sq (w_set (th_kept hV hT (by omega) rfl (Nat.le_of_ble_eq_true rfl) fun s4 A4 => ?_))
    have A4' : Above s2.n s3 s4 := A4.mono (Nat.zero_le _)
    have hV4 := hV.keep A4'
    have hT4 : ∀ z ∈ zs, TH s2.n s4 z := fun z hz => (hT z hz).keep A4'
    have B4 : Bag s4 b := by
      obtain ⟨h1, z, r, t, cs, h2, h3⟩ := S3.bag
      exact ⟨Nat.lt_of_lt_of_le h1 A4.n, z, r, t, cs, h2, (A4.o b (Nat.zero_le _) h1).trans h3⟩
    have l4 : s2.n ≤ s4.n := Nat.le_trans S3.n A4.n
    refine w_sq (th_loop (b := b) (lo := s2.n) (zs := zs) hb l4 B4 hT4 (by decide) (by decide) (fun {Q E} q => ?_) (fun s5 a1 a2 a3 S5 => ?_))
    · exact w_itList (w_var rfl ⟨zs, hV4.1, q s4 _ (.refl B4) fun s' S' => (hV4.keep (S'.above hb)).1⟩)
    · have hV5 := hV4.keep (S5.above hb)
      have hT5 : ∀ z ∈ zs, TH s2.n s5 z := fun z hz => (hT4 z hz).keep (S5.above hb)
      refine w_sq (th_loop (b := b) (lo := s2.n) (zs := zs.reverse) hb (Nat.le_trans l4 S5.n) S5.bag (fun z hz => hT5 z (List.mem_reverse.mp hz)) (by decide) (by decide) (fun {Q E} q => ?_) (fun s6 a1 a2 a3 S6 => ?_))
      · refine w_itList (w_rev (w_var rfl ⟨zs, hV5.1, ?_⟩))
        refine w_mkL_LV S5.bag (by rw [List.length_reverse]; exact Nat.le_of_lt (size_ge (by omega))) fun v' s' hL hS => ?_
        exact ⟨_, hL.1, q s' _ hS fun s'' S'' => (hL.keep (S''.above S5.bag.1)).1⟩
      · have A6 := (S5.trans S6).above hb
        have hV6 := hV4.keep A6
        have hT6 : ∀ z ∈ zs, TH s2.n s6 z := fun z hz => (hT4 z hz).keep A6
        refine w_retS (w_m2 (th_kept hV6 hT6 (by omega) rfl (Nat.le_of_ble_eq_true rfl) fun s7 A7 => w_var rfl ?_))
        have e1 : zs.map (TE s6) = zs.map (TE s3) := List.map_congr_left fun z hz => te_keep (hT z hz) (A4'.trans A6)
        obtain ⟨ss, e2, h2⟩ := te_strs hT
        rw [e1, e2]
        have hs := shaped_strs h2
        refine w_eqD (by rw [hs]; rfl) ?_
        rw [SeqAt.eqv_refl _ (SeqAt.canLay_of_shaped hs)]
        rfl
theorem plain (ns : List Int) (hl : ns.length ≤ 63) (hb : ∀ z ∈ ns, Builtin.Int.intBits z ≤ 1048576) : ∃ st, m_law [.scr ns] st0 = .ok (.d (.bool true)) st := by
  obtain ⟨v, s, e, rfl⟩ := wp_of (law_ok hl)
  exact ⟨s, e⟩
end Lw

set_option Elab.async false
set_option linter.all false
set_option maxRecDepth 100000
set_option maxHeartbeats 1000000
open PySem PySem.W PySem.Calls PyProof.Rows
set_option maxRecDepth 100000 in
set_option maxHeartbeats 0 in
theorem PySem.Challenge.cw_stillmain_k11_kinds_known_holds : PySem.Challenge.rw_stillmain_k11_kinds_known.Holds := by
  w_on; o_law
  refine HandSHeadRun.head_any (r := OpenLaw.row PySem.Challenge.rw_stillmain_k11_kinds_known) (q := view (OpenLaw.row PySem.Challenge.rw_stillmain_k11_kinds_known).prog [23]) (H := Lw.hk) (ob := Lw.ob) (M := 1500) (loose := Lw.nms) (d := HandSHeadRun.topDef (OpenLaw.row PySem.Challenge.rw_stillmain_k11_kinds_known).prog 23) (kwd := []) Lw.ob_eq
    (by kernel_rfl) (fun s => by kernel_rfl) Lw.run (by kernel_rfl) (by kernel_rfl) (by kernel_rfl) (by rfl) (by first | assumption | decide +kernel) (by decide +kernel) ⟨rfl, rfl, rfl, rfl, rfl, by decide +kernel⟩ ?hw ?hc
  case hw => w_witness2
  case hc =>
    refine Dm.walk_dE (l := PySem.Challenge.rw_stillmain_k11_kinds_known) (n := 63) (k := 5) (x := "_law_script") (m := Lw.m_law) rfl (by decide) (by kernel_rfl) ⟨fun _ => rfl, by decide, by decide, rfl⟩ ?F Lw.plain
    intro w mg fa h Y G hmg0
    obtain ⟨K, KX, c⟩ := Y
    have hmg : mg ("law" : PySem.Str) = some (.ref fa) := by
      have e : (HandSHeadRun.topDef (OpenLaw.row PySem.Challenge.rw_stillmain_k11_kinds_known).prog 23).name = ("law" : PySem.Str) := by kernel_rfl
      rw [← e]
      exact hmg0
    obtain ⟨fd, hb, hF⟩ := Lw.facts (P := (PySem.Challenge.rw_stillmain_k11_kinds_known).prog) (w := w) KX G hmg c
    exact ⟨K, fd, Dm.cmK K, KX, hb, hF⟩
