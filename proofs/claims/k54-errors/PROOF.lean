import HandS.ForSpec
import HandS.Lambda
import HandS.Defaults
import HandS.Zip
import HandS.IsInst
import HandS.Deep
import HandS.TupAny
import HandS.TupMul
import HandS.TupLe
import HandS.Wide
import HandS.TryMany
import HandS.TryOnly
import HandS.HotCalls
import HandS.ExcIs
import HandS.ExcSuper
import HandS.Conv
import HandS.Flow
import HandS.Style
import HandS.Iter
import HandS.Comp
import HandS.Codes
import HandS.More
import HandS.Text
import HandS.HeadHook2
import HandS.HeadEnd
import HandS.HeadWalk
import KE.SortData
import KE.SortKeyHeap
import KE.GoesEnum
import KE.GoesZip
import KE.GoesMore
import KE.KDictZip
import HandS.SetFor
import HandS.Strs
import HandS.Set
import HandS.WordsDict
import HandS.ExcCtx
import HandS.ExcOwn
import HandS.HeadHook4
import HandS.WordsExc
import HandS.EndTab
import HandS.Head2
import PySem.Challenge.RW_soleholder_k54_errors_of_sales
set_option Elab.async false
set_option linter.all false
set_option maxRecDepth 100000
set_option maxHeartbeats 4000000
/-! Ev: a plain evaluator's values, cells and results; how they stand for the hand layer's abstract heap. -/
namespace Ev
open PySem PySem.Spec PyProof.Rows L2

/-- plain values -/
inductive PV where
  | non | bl (b : Bool) | int (i : Int) | str (s : Str) | tup (xs : List PV) | lst (xs : List PV)
  | adr (n : Nat) | ty (s : String) | dK (kvs : List (Key × PV)) | scr (ns : List Int)

/-- what a changing object holds -/
inductive Cell where
  | lst (xs : List PV) | dK (kvs : List (Key × PV)) | dead

/-- a slot: a plain value, or a changing object by its number -/
inductive SV where
  | val (v : PV) | cel (i : Nat)

abbrev Sg := List (Option SV)
abbrev Cs := List Cell

/-- an exception: its class by number, its fields -/
structure Exn where
  c : Nat
  fs : List (Str × PV)

inductive Res (α : Type) where
  | ok (a : α) (cs : Cs) | exc (e : Exn) (cs : Cs) | stuck

inductive RS where
  | nx (sg : Sg) (cs : Cs) | rt (v : PV) (cs : Cs) | rtF (xs : List PV) (cs : Cs) | bk (sg : Sg) (cs : Cs) | ct (sg : Sg) (cs : Cs) | exc (e : Exn) (sg : Sg) (cs : Cs) | stuck

/-- what is fixed: the written part, the addresses of the numbered defs and classes, the tables of code -/
structure Gx where
  K : PySem.W.Frag
  fa : Nat → Addr
  T : List (Addr × Str)

/-- a list of the written part -/
def KL (K : PySem.W.Frag) (a : Addr) (xs : List V) : Prop :=
  ∃ (o : Obj) (its : Array Value) (n : Nat), K.lookup a = some o ∧ o.cls = .type "list" ∧ o.dict = none ∧ o.data = .seq its n ∧ its.size ≤ sizeLine ∧ Vals xs its.toList
/-- a list that nobody changes -/
def LstAt (K : PySem.W.Frag) (H : Hp) (N : Addr → Prop) (a : Addr) (xs : List V) : Prop := (Rd H a (.lst xs) ∧ ¬ N a) ∨ KL K a xs

section
variable (g : Gx) (H : Hp) (N : Addr → Prop)
mutual
/-- v stands for the plain value, off the addresses N -/
def Rep : PV → V → Prop
  | .non, v => v = .non
  | .bl b, v => v = .bl b
  | .int i, v => v = .int i
  | .str s, v => v = .str s
  | .ty s, v => v = .ty s
  | .adr n, v => v = .ref (g.fa n)
  | .tup xs, v => ∃ a vs, v = .ref a ∧ SqT g.K H a vs ∧ Reps xs vs
  | .lst xs, v => ∃ a vs, v = .ref a ∧ H a = some (.lst vs) ∧ ¬ N a ∧ Reps xs vs
  | .scr ns, v => ∃ a, v = .ref a ∧ LstAt g.K H N a (ns.map V.int)
  | .dK kvs, v => ∃ a kv, v = .ref a ∧ H a = some (.dK kv) ∧ ¬ N a ∧ RepK kvs kv
def Reps : List PV → List V → Prop
  | [], vs => vs = []
  | x :: xs, vs => ∃ v r, vs = v :: r ∧ Rep x v ∧ Reps xs r
def RepK : List (Key × PV) → List (Key × V) → Prop
  | [], vs => vs = []
  | (k, x) :: xs, vs => ∃ v r, vs = (k, v) :: r ∧ Rep x v ∧ RepK xs r
end
def CellOk (a : Addr) : Cell → Prop
  | .lst xs => ∃ vs, H a = some (.lst vs) ∧ Reps g H N xs vs
  | .dK kvs => ∃ kv, H a = some (.dK kv) ∧ RepK g H N kvs kv
  | .dead => True
end

/-- the changing objects that live -/
def Live (ms : List Addr) (cs : Cs) (a : Addr) : Prop := ∃ (i : Nat) (c : Cell), ms[i]? = some a ∧ cs[i]? = some c ∧ c ≠ Cell.dead
/-- what no plain value may lie at: private things, and what lives -/
def Exl (P : Addr → Prop) (ms : List Addr) (cs : Cs) (a : Addr) : Prop := P a ∨ Live ms cs a

structure Rel (g : Gx) (H : Hp) (P : Addr → Prop) (ms : List Addr) (cs : Cs) : Prop where
  len : ms.length = cs.length
  inj : ∀ (i j : Nat) a, ms[i]? = some a → ms[j]? = some a → i = j
  cells : ∀ (i : Nat) a c, ms[i]? = some a → cs[i]? = some c → CellOk g H (Exl P ms cs) a c
  priv : ∀ a, P a → H a ≠ none
  msin : ∀ (i : Nat) a, ms[i]? = some a → H a ≠ none
  apart : ∀ (i : Nat) a, ms[i]? = some a → ¬ P a
  tabs : LamX.Tabs g.T H

def RepS (g : Gx) (H : Hp) (P : Addr → Prop) (ms : List Addr) (cs : Cs) : SV → V → Prop
  | .val v, x => Rep g H (Exl P ms cs) v x
  | .cel i, x => ∃ a, ms[i]? = some a ∧ x = .ref a
structure Slots (g : Gx) (H : Hp) (P : Addr → Prop) (ms : List Addr) (cs : Cs) (sg : Sg) (σ : L2.St) : Prop where
  len : sg.length = σ.length
  at_ : ∀ (i : Nat) s, sg[i]? = some (some s) → ∃ x, σ[i]? = some (some x) ∧ RepS g H P ms cs s x

/-- from (ms, cs, H) to (ms', cs', H') -/
structure Aft (g : Gx) (P : Addr → Prop) (ms : List Addr) (cs : Cs) (H : Hp) (P' : Addr → Prop) (ms' : List Addr) (cs' : Cs) (H' : Hp) : Prop where
  pre : ∀ (i : Nat) a, ms[i]? = some a → ms'[i]? = some a
  dead : ∀ (i : Nat), cs[i]? = some Cell.dead → cs'[i]? = some Cell.dead
  le : cs.length ≤ cs'.length
  new : ∀ (i : Nat) a, ms'[i]? = some a → ms.length ≤ i → H a = none
  frame : ∀ b o, H b = some o → ¬ Live ms cs b → (∀ ps, o ≠ .tbl ps) → H' b = some o
  there : ∀ b, H b ≠ none → H' b ≠ none
  pri : ∀ a, P' a → P a ∨ H a = none
  rel : Rel g H' P' ms' cs'

section
variable {g : Gx} {H H' : Hp} {P P' P'' : Addr → Prop} {ms ms' ms'' : List Addr} {cs cs' cs'' : Cs} {H'' : Hp} {N N' : Addr → Prop}
theorem Aft.refl (r : Rel g H P ms cs) : Aft g P ms cs H P ms cs H :=
  ⟨fun _ _ h => h, fun _ h => h, Nat.le_refl _, fun i a h hl => (by rw [List.getElem?_eq_none hl] at h; cases h), fun _ _ h _ _ => h, fun _ h => h, fun _ h => .inl h, r⟩
/-- what lives later and stood before lived before -/
theorem Aft.live (A : Aft g P ms cs H P' ms' cs' H') (r : Rel g H P ms cs) {b : Addr} (hb : H b ≠ none) (l : Live ms' cs' b) : Live ms cs b := by
  obtain ⟨i, c, h1, h2, h3⟩ := l
  by_cases hi : i < ms.length
  · have e : ms[i]? = some ms[i] := List.getElem?_eq_getElem hi
    have e' := A.pre _ _ e
    rw [e'] at h1; cases h1
    have hc : i < cs.length := by rw [← r.len]; exact hi
    have ec : cs[i]? = some cs[i] := List.getElem?_eq_getElem hc
    refine ⟨i, cs[i], e, ec, fun z => ?_⟩
    rw [z] at ec
    have := A.dead _ ec
    rw [this] at h2; cases h2; exact h3 rfl
  · exact absurd (A.new i b h1 (Nat.le_of_not_lt hi)) hb
theorem Aft.exl (A : Aft g P ms cs H P' ms' cs' H') (r : Rel g H P ms cs) {b : Addr} (hb : H b ≠ none) (l : Exl P' ms' cs' b) : Exl P ms cs b := by
  rcases l with l | l
  · rcases A.pri b l with h | h
    · exact .inl h
    · exact absurd h hb
  · exact .inr (A.live r hb l)
theorem Aft.trans (A : Aft g P ms cs H P' ms' cs' H') (B : Aft g P' ms' cs' H' P'' ms'' cs'' H'') (r : Rel g H P ms cs) : Aft g P ms cs H P'' ms'' cs'' H'' where
  pre := fun i a h => B.pre i a (A.pre i a h)
  dead := fun i h => B.dead i (A.dead i h)
  le := Nat.le_trans A.le B.le
  new := fun i a h hl => by
    by_cases hi : ms'.length ≤ i
    · have := B.new i a h hi
      cases e : H a with
      | none => rfl
      | some o => exact absurd this (A.there a (by rw [e]; exact fun z => nomatch z))
    · have hi : i < ms'.length := Nat.lt_of_not_le hi
      have e : ms'[i]? = some ms'[i] := List.getElem?_eq_getElem hi
      have e' := B.pre _ _ e
      rw [e'] at h; cases h
      exact A.new i _ e hl
  frame := fun b o h hl ht => B.frame b o (A.frame b o h hl ht) (fun l => hl (A.live r (by rw [h]; exact fun z => nomatch z) l)) ht
  there := fun b h => B.there b (A.there b h)
  pri := fun a h => by
    rcases B.pri a h with h | h
    · exact A.pri a h
    · right
      cases e : H a with
      | none => rfl
      | some o => exact absurd h (A.there a (by rw [e]; exact fun z => nomatch z))
  rel := B.rel

theorem SqT.nlive {a : Addr} {vs : List V} (r : Rel g H P ms cs) (h : Rd H a (.tup vs)) : ¬ Live ms cs a := fun ⟨i, c, h1, h2, h3⟩ => by
  have q := r.cells i a c h1 h2
  cases c with
  | lst xs => obtain ⟨ws, e, _⟩ := q; rcases h with h | ⟨o, h⟩ <;> · rw [h] at e; cases e
  | dK kvs => obtain ⟨ws, e, _⟩ := q; rcases h with h | ⟨o, h⟩ <;> · rw [h] at e; cases e
  | dead => exact h3 rfl
theorem sqT_aft {a : Addr} {vs : List V} (r : Rel g H P ms cs) (A : Aft g P ms cs H P' ms' cs' H') (h : SqT g.K H a vs) : SqT g.K H' a vs := by
  rcases h with h | h
  · have nl := SqT.nlive r h
    rcases h with h | ⟨o, h⟩
    · exact .inl (.inl (A.frame _ _ h nl (fun ps z => by cases z)))
    · exact .inl (.inr ⟨o, A.frame _ _ h nl (fun ps z => by cases z)⟩)
  · exact .inr h
theorem rd_in {a : Addr} {u : HO} (h : Rd H a u) : H a ≠ none := by
  rcases h with h | ⟨o, h⟩ <;> · rw [h]; exact fun z => nomatch z
theorem rd_aft {a : Addr} {u : HO} (A : Aft g P ms cs H P' ms' cs' H') (h : Rd H a u) (nl : ¬ Live ms cs a) (nt : ∀ ps, u ≠ .tbl ps) : Rd H' a u := by
  rcases h with h | ⟨o, h⟩
  · exact .inl (A.frame _ _ h nl nt)
  · exact .inr ⟨o, A.frame _ _ h nl (fun ps z => by cases z)⟩
theorem lstAt_aft {a : Addr} {vs : List V} (r : Rel g H P ms cs) (A : Aft g P ms cs H P' ms' cs' H') (h : LstAt g.K H (Exl P ms cs) a vs) : LstAt g.K H' (Exl P' ms' cs') a vs := by
  rcases h with ⟨h, n⟩ | h
  · exact .inl ⟨rd_aft A h (fun l => n (.inr l)) (fun ps z => by cases z), fun l => n (A.exl r (rd_in h) l)⟩
  · exact .inr h
/-- what carries a plain value from (H, N) to (H', N') -/
structure Car (H : Hp) (N : Addr → Prop) (H' : Hp) (N' : Addr → Prop) : Prop where
  tup : ∀ b vs, Rd H b (.tup vs) → Rd H' b (.tup vs)
  oth : ∀ b o, H b = some o → ¬ N b → (∀ ps, o ≠ .tbl ps) → H' b = some o
  shut : ∀ b, H b ≠ none → N' b → N b
  there : ∀ b, H b ≠ none → H' b ≠ none
mutual
theorem Rep.mono (c : Car H N H' N') : ∀ (p : PV) (v : V), Rep g H N p v → Rep g H' N' p v
  | .non, _, h | .bl _, _, h | .int _, _, h | .str _, _, h | .ty _, _, h | .adr _, _, h => by simpa only [Rep] using h
  | .tup xs, v, h => by
    simp only [Rep] at h ⊢
    obtain ⟨a, vs, e, h1, h2⟩ := h
    exact ⟨a, vs, e, h1.imp (c.tup a vs) id, Reps.mono c xs vs h2⟩
  | .lst xs, v, h => by
    simp only [Rep] at h ⊢
    obtain ⟨a, vs, e, h1, n, h2⟩ := h
    exact ⟨a, vs, e, c.oth a _ h1 n (fun ps z => by cases z), fun z => n (c.shut a (by rw [h1]; exact fun z => nomatch z) z), Reps.mono c xs vs h2⟩
  | .scr ns, v, h => by
    simp only [Rep] at h ⊢
    obtain ⟨a, e, h1⟩ := h
    refine ⟨a, e, h1.imp (fun ⟨x, n⟩ => ⟨?_, fun z => n (c.shut a (rd_in x) z)⟩) id⟩
    rcases x with x | ⟨o, x⟩
    · exact .inl (c.oth a _ x n (fun ps z => by cases z))
    · exact .inr ⟨o, c.oth a _ x n (fun ps z => by cases z)⟩
  | .dK kvs, v, h => by
    simp only [Rep] at h ⊢
    obtain ⟨a, kv, e, h1, n, h2⟩ := h
    exact ⟨a, kv, e, c.oth a _ h1 n (fun ps z => by cases z), fun z => n (c.shut a (by rw [h1]; exact fun z => nomatch z) z), RepK.mono c kvs kv h2⟩
theorem Reps.mono (c : Car H N H' N') : ∀ (ps : List PV) (vs : List V), Reps g H N ps vs → Reps g H' N' ps vs
  | [], _, h => by simpa only [Reps] using h
  | x :: xs, _, h => by
    simp only [Reps] at h ⊢
    obtain ⟨v, r', e, h1, h2⟩ := h
    exact ⟨v, r', e, Rep.mono c x v h1, Reps.mono c xs r' h2⟩
theorem RepK.mono (c : Car H N H' N') : ∀ (ps : List (Key × PV)) (vs : List (Key × V)), RepK g H N ps vs → RepK g H' N' ps vs
  | [], _, h => by simpa only [RepK] using h
  | (k, x) :: xs, _, h => by
    simp only [RepK] at h ⊢
    obtain ⟨v, r', e, h1, h2⟩ := h
    exact ⟨v, r', e, Rep.mono c x v h1, RepK.mono c xs r' h2⟩
end
theorem Aft.car (r : Rel g H P ms cs) (A : Aft g P ms cs H P' ms' cs' H') : Car H (Exl P ms cs) H' (Exl P' ms' cs') :=
  ⟨fun _ _ h => rd_aft A h (SqT.nlive r h) (fun ps z => by cases z), fun b o h n ht => A.frame b o h (fun l => n (.inr l)) ht, fun b hb h => A.exl r hb h, A.there⟩
theorem ext_there (E : ∀ b o, H b = some o → H' b = some o) : ∀ b, H b ≠ none → H' b ≠ none := fun b h => by
  cases e : H b with
  | none => exact absurd e h
  | some o => rw [E b o e]; exact fun z => nomatch z
theorem Car.less (hN : ∀ a, N' a → N a) : Car H N H N' := ⟨fun _ _ h => h, fun _ _ h _ _ => h, fun a _ h => hN a h, fun _ h => h⟩
theorem Car.ext (E : ∀ b o, H b = some o → H' b = some o) : Car H N H' N :=
  ⟨fun b _ h => h.imp (E b _) (fun ⟨o, h⟩ => ⟨o, E b _ h⟩), fun b o h _ _ => E b o h, fun _ _ h => h, ext_there E⟩
theorem Rep.aft (r : Rel g H P ms cs) (A : Aft g P ms cs H P' ms' cs' H') {p : PV} {v : V} (h : Rep g H (Exl P ms cs) p v) : Rep g H' (Exl P' ms' cs') p v := Rep.mono (A.car r) p v h
theorem Reps.aft (r : Rel g H P ms cs) (A : Aft g P ms cs H P' ms' cs' H') {p : List PV} {v : List V} (h : Reps g H (Exl P ms cs) p v) : Reps g H' (Exl P' ms' cs') p v := Reps.mono (A.car r) p v h
theorem RepK.aft (r : Rel g H P ms cs) (A : Aft g P ms cs H P' ms' cs' H') {p : List (Key × PV)} {v : List (Key × V)} (h : RepK g H (Exl P ms cs) p v) : RepK g H' (Exl P' ms' cs') p v := RepK.mono (A.car r) p v h
theorem Rep.less (hN : ∀ a, N' a → N a) {p : PV} {v : V} (h : Rep g H N p v) : Rep g H N' p v := Rep.mono (Car.less hN) p v h
theorem Reps.less (hN : ∀ a, N' a → N a) {p : List PV} {v : List V} (h : Reps g H N p v) : Reps g H N' p v := Reps.mono (Car.less hN) p v h
theorem RepK.less (hN : ∀ a, N' a → N a) {p : List (Key × PV)} {v : List (Key × V)} (h : RepK g H N p v) : RepK g H N' p v := RepK.mono (Car.less hN) p v h
theorem CellOk.less (hN : ∀ a, N' a → N a) {a : Addr} : ∀ {c : Cell}, CellOk g H N a c → CellOk g H N' a c
  | .lst xs, ⟨vs, h1, h2⟩ => ⟨vs, h1, Reps.less hN h2⟩
  | .dK kvs, ⟨vs, h1, h2⟩ => ⟨vs, h1, RepK.less hN h2⟩
  | .dead, _ => trivial
theorem CellOk.ext (E : ∀ b o, H b = some o → H' b = some o) {a : Addr} : ∀ {c : Cell}, CellOk g H N a c → CellOk g H' N a c
  | .lst xs, ⟨vs, h1, h2⟩ => ⟨vs, E _ _ h1, Reps.mono (Car.ext E) _ _ h2⟩
  | .dK kvs, ⟨vs, h1, h2⟩ => ⟨vs, E _ _ h1, RepK.mono (Car.ext E) _ _ h2⟩
  | .dead, _ => trivial
theorem Rel.ext (E : ∀ b o, H b = some o → H' b = some o) (r : Rel g H P ms cs) : Rel g H' P ms cs :=
  have ne : ∀ b, H b ≠ none → H' b ≠ none := fun b h => by
    cases e : H b with
    | none => exact absurd e h
    | some o => rw [E b o e]; exact fun z => nomatch z
  ⟨r.len, r.inj, fun i a c h1 h2 => (r.cells i a c h1 h2).ext E, fun a h => ne a (r.priv a h), fun i a h => ne a (r.msin i a h), r.apart, r.tabs.ext E⟩
/-- new things alone -/
theorem Aft.ext (E : ∀ b o, H b = some o → H' b = some o) (r : Rel g H P ms cs) : Aft g P ms cs H P ms cs H' :=
  ⟨fun _ _ h => h, fun _ h => h, Nat.le_refl _, fun i a h hl => (by rw [List.getElem?_eq_none hl] at h; cases h), fun b o h _ _ => E b o h, fun b h => (by
    cases e : H b with
    | none => exact absurd e h
    | some o => rw [E b o e]; exact fun z => nomatch z), fun _ h => .inl h, r.ext E⟩
theorem ext_upd {p : Addr} {o : HO} (hp : H p = none) : ∀ b u, H b = some u → upd H p o b = some u := fun b u h => by rw [upd_ne (ne_of_none h hp)]; exact h
theorem Aft.new_ {p : Addr} {o : HO} (hp : H p = none) (r : Rel g H P ms cs) : Aft g P ms cs H P ms cs (upd H p o) := Aft.ext (ext_upd hp) r
theorem Exl.not_new {p : Addr} (hp : H p = none) (r : Rel g H P ms cs) : ¬ Exl P ms cs p := fun h => by
  rcases h with h | ⟨i, c, h1, _, _⟩
  · exact r.priv p h hp
  · exact r.msin i p h1 hp
theorem RepS.aft {s : SV} {x : V} (r : Rel g H P ms cs) (A : Aft g P ms cs H P' ms' cs' H') (h : RepS g H P ms cs s x) : RepS g H' P' ms' cs' s x := by
  cases s with
  | val v => exact Rep.aft r A (p := v) (v := x) h
  | cel i => obtain ⟨a, e, h⟩ := h; exact ⟨a, A.pre _ _ e, h⟩
theorem Slots.aft {sg : Sg} {σ : L2.St} (r : Rel g H P ms cs) (A : Aft g P ms cs H P' ms' cs' H') (h : Slots g H P ms cs sg σ) : Slots g H' P' ms' cs' sg σ :=
  ⟨h.len, fun i s e => by obtain ⟨x, e1, e2⟩ := h.at_ i s e; exact ⟨x, e1, e2.aft r A⟩⟩
theorem Reps.length : ∀ {ps : List PV} {vs : List V}, Reps g H N ps vs → ps.length = vs.length
  | [], _, h => by simp only [Reps] at h; subst h; rfl
  | x :: xs, _, h => by
    simp only [Reps] at h
    obtain ⟨v, r, e, _, h2⟩ := h
    subst e
    simp [Reps.length h2]
theorem Reps.get : ∀ {ps : List PV} {vs : List V} {i : Nat} {p : PV}, Reps g H N ps vs → ps[i]? = some p → ∃ v, vs[i]? = some v ∧ Rep g H N p v
  | [], _, _, _, _, e => by simp at e
  | x :: xs, _, 0, p, h, e => by
    simp only [Reps] at h
    obtain ⟨v, r, e', h1, h2⟩ := h
    subst e'
    simp at e; subst e
    exact ⟨v, rfl, h1⟩
  | x :: xs, _, i + 1, p, h, e => by
    simp only [Reps] at h
    obtain ⟨v, r, e', h1, h2⟩ := h
    subst e'
    obtain ⟨w, e1, e2⟩ := Reps.get (i := i) h2 (by simpa using e)
    exact ⟨w, by simpa using e1, e2⟩
theorem Reps.append : ∀ {ps qs : List PV} {vs ws : List V}, Reps g H N ps vs → Reps g H N qs ws → Reps g H N (ps ++ qs) (vs ++ ws)
  | [], _, _, _, h, k => by simp only [Reps] at h; subst h; exact k
  | x :: xs, _, _, _, h, k => by
    simp only [Reps] at h
    obtain ⟨v, r, e', h1, h2⟩ := h
    subst e'
    simp only [List.cons_append, Reps]
    exact ⟨v, _, rfl, h1, Reps.append h2 k⟩
theorem Reps.one {p : PV} {v : V} (h : Rep g H N p v) : Reps g H N [p] [v] := by simp only [Reps]; exact ⟨v, [], rfl, h, rfl⟩
theorem Reps.cons {p : PV} {v : V} {ps : List PV} {vs : List V} (h : Rep g H N p v) (k : Reps g H N ps vs) : Reps g H N (p :: ps) (v :: vs) := by simp only [Reps]; exact ⟨v, vs, rfl, h, k⟩
theorem Reps.set : ∀ {ps : List PV} {vs : List V} {p : PV} {v : V} (i : Nat), Reps g H N ps vs → Rep g H N p v → Reps g H N (ps.set i p) (vs.set i v)
  | [], _, _, _, _, h, _ => by simp only [Reps] at h; subst h; simp [Reps]
  | x :: xs, _, p, v, 0, h, k => by
    simp only [Reps] at h
    obtain ⟨w, r, e', h1, h2⟩ := h
    subst e'
    simp only [List.set_cons_zero, Reps]
    exact ⟨v, r, rfl, k, h2⟩
  | x :: xs, _, p, v, i + 1, h, k => by
    simp only [Reps] at h
    obtain ⟨w, r, e', h1, h2⟩ := h
    subst e'
    simp only [List.set_cons_succ, Reps]
    exact ⟨w, _, rfl, h1, Reps.set i h2 k⟩
theorem Reps.take : ∀ {ps : List PV} {vs : List V} (n : Nat), Reps g H N ps vs → Reps g H N (ps.take n) (vs.take n)
  | _, _, 0, _ => by simp [Reps]
  | [], _, n + 1, h => by simp only [Reps] at h; subst h; simp [Reps]
  | x :: xs, _, n + 1, h => by
    simp only [Reps] at h
    obtain ⟨w, r, e', h1, h2⟩ := h
    subst e'
    simp only [List.take_succ_cons, Reps]
    exact ⟨w, _, rfl, h1, Reps.take n h2⟩
theorem Reps.drop : ∀ {ps : List PV} {vs : List V} (n : Nat), Reps g H N ps vs → Reps g H N (ps.drop n) (vs.drop n)
  | _, _, 0, h => by simpa using h
  | [], _, n + 1, h => by simp only [Reps] at h; subst h; simp [Reps]
  | x :: xs, _, n + 1, h => by
    simp only [Reps] at h
    obtain ⟨w, r, e', h1, h2⟩ := h
    subst e'
    simp only [List.drop_succ_cons]
    exact Reps.drop n h2
theorem Reps.reverse : ∀ {ps : List PV} {vs : List V}, Reps g H N ps vs → Reps g H N ps.reverse vs.reverse
  | [], _, h => by simp only [Reps] at h; subst h; simp [Reps]
  | x :: xs, _, h => by
    simp only [Reps] at h
    obtain ⟨w, r, e', h1, h2⟩ := h
    subst e'
    simp only [List.reverse_cons]
    exact (Reps.reverse h2).append (.one h1)
end
/-- as Rep, but that the outermost list or dict may be one that lives -/
def RepB (g : Gx) (H : Hp) (N : Addr → Prop) : PV → V → Prop
  | .lst xs, v => ∃ a vs, v = .ref a ∧ H a = some (.lst vs) ∧ Reps g H N xs vs
  | .dK kvs, v => ∃ a kv, v = .ref a ∧ H a = some (.dK kv) ∧ RepK g H N kvs kv
  | p, v => Rep g H N p v
def RepBs (g : Gx) (H : Hp) (N : Addr → Prop) : List PV → List V → Prop
  | [], vs => vs = []
  | x :: xs, vs => ∃ v r, vs = v :: r ∧ RepB g H N x v ∧ RepBs g H N xs r
/-- what a slot holds -/
def derefS (cs : Cs) : SV → Option PV
  | .val v => some v
  | .cel j => match cs[j]? with
    | some (.lst xs) => some (.lst xs)
    | some (.dK kvs) => some (.dK kvs)
    | _ => none
def derefs (cs : Cs) : List SV → Option (List PV)
  | [] => some []
  | s :: r => match derefS cs s with
    | some p => (derefs cs r).map (p :: ·)
    | none => none
section
variable {g : Gx} {H H' : Hp} {P P' : Addr → Prop} {ms ms' : List Addr} {cs cs' : Cs} {N : Addr → Prop}
theorem Rep.toB {p : PV} {v : V} (h : Rep g H N p v) : RepB g H N p v := by
  cases p
  case lst xs => simp only [Rep] at h; obtain ⟨a, vs, h1, h2, _, h3⟩ := h; exact ⟨a, vs, h1, h2, h3⟩
  case dK xs => simp only [Rep] at h; obtain ⟨a, vs, h1, h2, _, h3⟩ := h; exact ⟨a, vs, h1, h2, h3⟩
  all_goals exact h
theorem Reps.toB : ∀ {p : List PV} {v : List V}, Reps g H N p v → RepBs g H N p v
  | [], _, h => by simpa only [Reps, RepBs] using h
  | x :: xs, _, h => by
    simp only [Reps] at h
    obtain ⟨v, r, e, h1, h2⟩ := h
    exact ⟨v, r, e, h1.toB, Reps.toB h2⟩
theorem RepS.deref {s : SV} {p : PV} {v : V} (R : Rel g H P ms cs) (h : RepS g H P ms cs s v) (e : derefS cs s = some p) : RepB g H (Exl P ms cs) p v := by
  cases s with
  | val q => cases e; exact Rep.toB h
  | cel j =>
    obtain ⟨a, e1, rfl⟩ := h
    unfold derefS at e
    dsimp only at e
    split at e
    · rename_i xs hc
      cases e
      obtain ⟨vs, h1, h2⟩ := R.cells j a _ e1 hc
      exact ⟨a, vs, rfl, h1, h2⟩
    · rename_i xs hc
      cases e
      obtain ⟨vs, h1, h2⟩ := R.cells j a _ e1 hc
      exact ⟨a, vs, rfl, h1, h2⟩
    · cases e
end
end Ev

set_option Elab.async false
set_option linter.all false
set_option maxRecDepth 100000
set_option maxHeartbeats 4000000
/-! Ev: judgements: what a piece of the program does, told by a plain function; the rules of expressions. -/
namespace Ev
open PySem PySem.Spec PyProof.Rows L2

def Res.bind {α β : Type} (r : Res α) (k : α → Cs → Res β) : Res β := match r with
  | .ok a cs => k a cs | .exc e cs => .exc e cs | .stuck => .stuck
def Res.lift {α : Type} (o : Option α) (cs : Cs) : Res α := match o with
  | some a => .ok a cs | none => .stuck

abbrev EF := Sg → Cs → Res PV
abbrev TF := Sg → Cs → Res Bool
abbrev AF := Sg → Cs → Res (List PV)
abbrev SF := Sg → Cs → Res (List SV)
abbrev BF := Sg → Cs → RS

/-- the exception's class and own dict -/
def ExR (g : Gx) (H : Hp) (N : Addr → Prop) (e : Exn) (c : Value) (d : Option Addr) : Prop :=
  c = .ref (g.fa e.c) ∧ ((e.fs = [] ∧ d = none) ∨ ∃ dd fs, e.fs ≠ [] ∧ d = some dd ∧ H dd = some (.xd fs) ∧ fs.map (·.1) = e.fs.map (·.1) ∧ Reps g H N (e.fs.map (·.2)) (fs.map (·.2)))

/-- what is wanted of a result -/
def Post {α β : Type} (g : Gx) (Rp : Hp → (Addr → Prop) → List Addr → α → β → Prop) (P : Addr → Prop) (ms : List Addr) (cs : Cs) (H : Hp) (r : Res α) (Q : β → Hp → Prop) (W : Value → Option Addr → Hp → Prop) : Prop :=
  match r with
  | .ok v cs' => ∀ ms' H' vv, Aft g P ms cs H P ms' cs' H' → Rp H' (Exl P ms' cs') ms' v vv → Q vv H'
  | .exc e cs' => ∀ ms' H' c d, Aft g P ms cs H P ms' cs' H' → ExR g H' (Exl P ms' cs') e c d → W c d H'
  | .stuck => False
abbrev RpV (g : Gx) : Hp → (Addr → Prop) → List Addr → PV → V → Prop := fun H N _ p v => Rep g H N p v
abbrev RpL (g : Gx) : Hp → (Addr → Prop) → List Addr → List PV → List V → Prop := fun H N _ p v => Reps g H N p v
abbrev RpB : Hp → (Addr → Prop) → List Addr → Bool → Bool → Prop := fun _ _ _ a b => b = a
def RepSs (g : Gx) (H : Hp) (N : Addr → Prop) (ms : List Addr) : List SV → List V → Prop
  | [], vs => vs = []
  | .val x :: xs, vs => ∃ v r, vs = v :: r ∧ Rep g H N x v ∧ RepSs g H N ms xs r
  | .cel i :: xs, vs => ∃ a r, vs = .ref a :: r ∧ ms[i]? = some a ∧ RepSs g H N ms xs r
abbrev RpS (g : Gx) : Hp → (Addr → Prop) → List Addr → List SV → List V → Prop := RepSs g

section
variable {g : Gx} {P : Addr → Prop} {ms ms1 : List Addr} {cs cs1 : Cs} {H H1 : Hp} {α β α' β' : Type} {Rp : Hp → (Addr → Prop) → List Addr → α → β → Prop} {Rp' : Hp → (Addr → Prop) → List Addr → α' → β' → Prop} {r : Res α} {Q : β → Hp → Prop} {Q' : β' → Hp → Prop} {W : Value → Option Addr → Hp → Prop}
theorem Post.shift (R : Rel g H P ms cs) (A : Aft g P ms cs H P ms1 cs1 H1) (h : Post g Rp P ms cs H r Q W) : Post g Rp P ms1 cs1 H1 r Q W := by
  cases r with
  | ok v cs' => exact fun ms' H' vv B q => h ms' H' vv (A.trans B R) q
  | exc e cs' => exact fun ms' H' c d B q => h ms' H' c d (A.trans B R) q
  | stuck => exact h
/-- one thing after another -/
theorem Post.bind {k : α → Cs → Res α'} (R : Rel g H P ms cs) (h : Post g Rp' P ms cs H (r.bind k) Q' W) :
    Post g Rp P ms cs H r (fun vv H' => ∃ ms' cs' x, Aft g P ms cs H P ms' cs' H' ∧ Rp H' (Exl P ms' cs') ms' x vv ∧ Post g Rp' P ms' cs' H' (k x cs') Q' W) W := by
  cases r with
  | ok v cs' => exact fun ms' H' vv A q => ⟨ms', cs', v, A, q, Post.shift R A h⟩
  | exc e cs' => exact h
  | stuck => exact h
end

/-- where an evaluation stands -/
structure At (g : Gx) (P : Addr → Prop) (ms : List Addr) (cs : Cs) (sg : Sg) (σ : L2.St) (H : Hp) : Prop where
  rel : Rel g H P ms cs
  sl : Slots g H P ms cs sg σ
theorem At.aft {g : Gx} {P : Addr → Prop} {ms ms1 : List Addr} {cs cs1 : Cs} {sg : Sg} {σ : L2.St} {H H1 : Hp} (a : At g P ms cs sg σ H) (A : Aft g P ms cs H P ms1 cs1 H1) : At g P ms1 cs1 sg σ H1 :=
  ⟨A.rel, a.sl.aft a.rel A⟩

/-- the readings -/
def rdE (g : Gx) (f : EF) (W : WX) : TE := fun σ H Q => ∃ P ms cs sg, At g P ms cs sg σ H ∧ Post g (RpV g) P ms cs H (f sg cs) Q fun c d H' => W c d σ H'
def rdT (g : Gx) (f : TF) (W : WX) : TT := fun σ H Q => ∃ P ms cs sg, At g P ms cs sg σ H ∧ Post g RpB P ms cs H (f sg cs) Q fun c d H' => W c d σ H'
def rdA (g : Gx) (f : AF) (W : WX) : TA := fun σ H Q => ∃ P ms cs sg, At g P ms cs sg σ H ∧ Post g (RpL g) P ms cs H (f sg cs) Q fun c d H' => W c d σ H'
def rdSA (g : Gx) (f : SF) (W : WX) : TA := fun σ H Q => ∃ P ms cs sg, At g P ms cs sg σ H ∧ Post g (RpS g) P ms cs H (f sg cs) Q fun c d H' => W c d σ H'
abbrev SE (g : Gx) (X : Cx) (W : WX) (e : Expr) (f : EF) : Prop := PE X e (rdE g f W)
abbrev ST (g : Gx) (X : Cx) (W : WX) (e : Expr) (f : TF) : Prop := PT X e (rdT g f W)
abbrev SW (g : Gx) (X : Cx) (W : WX) (e : Expr) (f : TF) : Prop := PW X e (rdT g f W)
abbrev SA (g : Gx) (X : Cx) (W : WX) (es : List Expr) (f : AF) : Prop := PA X es (rdA g f W)
abbrev SSA (g : Gx) (X : Cx) (W : WX) (es : List Expr) (f : SF) : Prop := PA X es (rdSA g f W)

theorem _root_.L2.PE.imp {X : Cx} {e : Expr} {t t' : TE} (h : PE X e t) (i : ∀ σ H Q, t' σ H Q → t σ H Q) : PE X e t' := ⟨fun pins s σ H Q I q => h.run pins s σ H Q I (i σ H Q q)⟩
theorem _root_.L2.PT.imp {X : Cx} {e : Expr} {t t' : TT} (h : PT X e t) (i : ∀ σ H Q, t' σ H Q → t σ H Q) : PT X e t' := ⟨fun pins s σ H Q I q => h.run pins s σ H Q I (i σ H Q q)⟩
theorem _root_.L2.PW.imp {X : Cx} {e : Expr} {t t' : TT} (h : PW X e t) (i : ∀ σ H Q, t' σ H Q → t σ H Q) : PW X e t' := ⟨fun w pins s σ H Q I q => h.run w pins s σ H Q I (i σ H Q q)⟩
theorem _root_.L2.PA.imp {X : Cx} {e : List Expr} {t t' : TA} (h : PA X e t) (i : ∀ σ H Q, t' σ H Q → t σ H Q) : PA X e t' := ⟨fun p pins s σ H Q I q => h.run p pins s σ H Q I (i σ H Q q)⟩
theorem _root_.L2.PS.imp {X : Cx} {e : Stmt} {t t' : TS} (h : PS X e t) (i : ∀ D σ H, t' D σ H → t D σ H) : PS X e t' := ⟨fun pins s σ H D I q => h.run pins s σ H D I (i D σ H q)⟩
theorem _root_.L2.PSs.imp {X : Cx} {e : List Stmt} {t t' : TS} (h : PSs X e t) (i : ∀ D σ H, t' D σ H → t D σ H) : PSs X e t' := ⟨fun pins s σ H D I q => h.run pins s σ H D I (i D σ H q)⟩

/-- what stands around -/
structure Ok (g : Gx) (X : Cx) (W : WX) (k : Nat) : Prop where
  K : X.K = g.K
  calm : X.calm = true
  nd : X.N.Nodup
  tk : L2N.Takes X W
  room : Room k X.A
theorem Ok.hu {g : Gx} {X : Cx} {W : WX} {k : Nat} (o : Ok g X W k) : X.A.units + 64 < cLine := by have := o.room.un; omega
theorem Ok.hu1 {g : Gx} {X : Cx} {W : WX} {k : Nat} (o : Ok g X W k) : X.A.units + 1 < cLine := by have := o.room.un; omega
theorem Ok.hu65 {g : Gx} {X : Cx} {W : WX} {k : Nat} (o : Ok g X W k) : X.A.units + 65 < cLine := by have := o.room.un; omega

section
variable {g : Gx} {X : Cx} {W : WX} {k : Nat} {e a b c : Expr} {fe fa fb fc : EF} {pos : Pos}

/-! ### leaves -/
def eVar (i : Nat) : EF := fun sg cs => match sg[i]? with
  | some (some (.val v)) => .ok v cs
  | _ => .stuck
def eC (v : PV) : EF := fun _ cs => .ok v cs
theorem se_var {i : Nat} {x : Str} (hN : X.N[i]? = some x) (hv : Vis X.env.scope x) (hd : (x == ("__debug__" : Str)) = false := by decide) (hcd : (x == ("__classdict__" : Str)) = false := by decide) : SE g X W (.Name x pos) (eVar i) :=
  (pe_var hN hv hd hcd).imp fun σ H Q ⟨P, ms, cs, sg, A, h⟩ => by
    unfold eVar at h
    split at h
    · rename_i v hv
      obtain ⟨y, e1, e2⟩ := A.sl.at_ _ _ hv
      exact ⟨y, e1, h ms H y (.refl A.rel) e2⟩
    · exact h.elim
theorem se_c {v : PV} {vv : V} (h : PE X e (tC vv)) (hr : ∀ H N, Rep g H N v vv) : SE g X W e (eC v) :=
  h.imp fun σ H Q ⟨P, ms, cs, sg, A, h⟩ => h ms H vv (.refl A.rel) (hr _ _)
theorem se_int {i : Int} {j : Nat} : SE g X W (.Constant (.int i) j pos) (eC (.int i)) := se_c pe_int fun _ _ => by simp only [Rep]
theorem se_bl {i : Bool} {j : Nat} : SE g X W (.Constant (.bool i) j pos) (eC (.bl i)) := se_c pe_bl fun _ _ => by simp only [Rep]
theorem se_non {j : Nat} : SE g X W (.Constant .none j pos) (eC .non) := se_c pe_non fun _ _ => by simp only [Rep]
theorem se_str {i : Str} {j : Nat} : SE g X W (.Constant (.str i) j pos) (eC (.str i)) := se_c pe_str fun _ _ => by simp only [Rep]
/-- a name of the module that holds a number, a text, a def, a class -/
theorem se_glob {x : Str} {v : PV} {vv : V} {u : Value} (hg : Gl X x) (hm : X.mg x = some u) (r : RelV vv u) (hr : ∀ H N, Rep g H N v vv) (hd : (x == ("__debug__" : Str)) = false := by decide) : SE g X W (.Name x pos) (eC v) := se_c (pe_glob hg hm r hd) hr

/-! ### two things by values -/
def e2 (f : PV → PV → Option PV) (a b : EF) : EF := fun sg cs => (a sg cs).bind fun x cs1 => (b sg cs1).bind fun y cs2 => .lift (f x y) cs2
/-- what is asked of values that stand for x and y -/
def r2 (g : Gx) (f : PV → PV → Option PV) : R2 := fun vx vy H Q => ∃ P ms cs x y z, Rel g H P ms cs ∧ RepB g H (Exl P ms cs) x vx ∧ RepB g H (Exl P ms cs) y vy ∧ f x y = some z ∧
  ∀ H' vz, Aft g P ms cs H P ms cs H' → Rep g H' (Exl P ms cs) z vz → Q vz H'
theorem rdE_2 {f : PV → PV → Option PV} {σ : L2.St} {H : Hp} {Q : VK} (h : rdE g (e2 f fa fb) W σ H Q) : tOp (r2 g f) (rdE g fa W) (rdE g fb W) σ H Q := by
  obtain ⟨P, ms, cs, sg, A, h⟩ := h
  refine ⟨P, ms, cs, sg, A, ?_⟩
  have h1 := Post.bind (Rp := RpV g) A.rel h
  revert h1
  cases fa sg cs with
  | stuck => exact id
  | exc e cs' => exact id
  | ok v cs' =>
    intro h1 ms' H' vv B q
    obtain ⟨ms1, cs1, x, A1, q1, h2⟩ := h1 ms' H' vv B q
    refine ⟨P, ms1, cs1, sg, A.aft A1, ?_⟩
    have h3 := Post.bind (Rp := RpV g) (A.aft A1).rel h2
    revert h3
    cases fb sg cs1 with
    | stuck => exact id
    | exc e cs' => exact id
    | ok w cs2' =>
      intro h3 ms2' H2' ww B2 q2
      obtain ⟨ms2, cs2, y, A2, q3, h4⟩ := h3 ms2' H2' ww B2 q2
      unfold Res.lift at h4
      cases hz : f x y with
      | none => rw [hz] at h4; exact h4.elim
      | some z =>
        rw [hz] at h4
        exact ⟨P, ms2, cs2, x, y, z, A2.rel, (q1.aft (A.aft A1).rel A2).toB, q3.toB, hz, fun H'' vz A3 r3 => h4 ms2 H'' vz A3 r3⟩
theorem se_op {op : Operator} {f : PV → PV → Option PV} (ho : OpR X (binaryOp op) (r2 g f)) (ha : SE g X W a fa) (hb : SE g X W b fb) : SE g X W (.BinOp a op b pos) (e2 f fa fb) :=
  (pe_op ho ha hb).imp fun _ _ _ => rdE_2
theorem se_cmp {op : CmpOp} {f : PV → PV → Option PV} (ho : OpR X (compareOp op) (r2 g f)) (ha : SE g X W a fa) (hb : SE g X W b fb) (hm : behindInMarks op b = false) : SE g X W (.Compare a [op] [b] pos) (e2 f fa fb) :=
  (pe_cmpR ho ha hb hm).imp fun _ _ _ => rdE_2
theorem se_ix {f : PV → PV → Option PV} (ho : IxR X (r2 g f)) (ha : SE g X W a fa) (hb : SE g X W b fb) (hs : PlainIx b) : SE g X W (.Subscript a b pos) (e2 f fa fb) :=
  (pe_ix ho ha hb hs).imp fun _ _ _ => rdE_2
/-! ### one thing -/
def e1 (f : PV → Option PV) (a : EF) : EF := fun sg cs => (a sg cs).bind fun x cs1 => .lift (f x) cs1
def r1u (g : Gx) (f : PV → Option PV) : V → Hp → VK → Prop := fun vx H Q => ∃ P ms cs x z, Rel g H P ms cs ∧ RepB g H (Exl P ms cs) x vx ∧ f x = some z ∧
  ∀ H' vz, Aft g P ms cs H P ms cs H' → Rep g H' (Exl P ms cs) z vz → Q vz H'
theorem rdE_1 {f : PV → Option PV} {σ : L2.St} {H : Hp} {Q : VK} (h : rdE g (e1 f fa) W σ H Q) : tUn (r1u g f) (rdE g fa W) σ H Q := by
  obtain ⟨P, ms, cs, sg, A, h⟩ := h
  refine ⟨P, ms, cs, sg, A, ?_⟩
  have h1 := Post.bind (Rp := RpV g) A.rel h
  revert h1
  cases fa sg cs with
  | stuck => exact id
  | exc e cs' => exact id
  | ok v cs' =>
    intro h1 ms' H' vv B q
    obtain ⟨ms1, cs1, x, A1, q1, h2⟩ := h1 ms' H' vv B q
    unfold Res.lift at h2
    cases hz : f x with
    | none => rw [hz] at h2; exact h2.elim
    | some z =>
      rw [hz] at h2
      exact ⟨P, ms1, cs1, x, z, A1.rel, q1.toB, hz, fun H'' vz A3 r3 => h2 ms1 H'' vz A3 r3⟩
theorem se_un {op : UnaryOp} {f : PV → Option PV} (ho : UnR X (unaryOp op) (r1u g f)) (ha : SE g X W a fa) : SE g X W (.UnaryOp op a pos) (e1 f fa) :=
  (pe_un ho ha).imp fun _ _ _ => rdE_1

/-! ### arguments -/
def aNil : AF := fun _ cs => .ok [] cs
def aCons (f : EF) (r : AF) : AF := fun sg cs => (f sg cs).bind fun x cs1 => (r sg cs1).bind fun xs cs2 => .ok (x :: xs) cs2
theorem sa_nil : SA g X W [] aNil := pa_nil.imp fun σ H Q ⟨P, ms, cs, sg, A, h⟩ => h ms H [] (.refl A.rel) (by simp only [Reps])
theorem sa_cons {es : List Expr} {fs : AF} (ha : SE g X W e fe) (hr : SA g X W es fs) (hs : starEach (e :: es) X.env = (false, eval e X.env) :: starEach es X.env := by rfl) : SA g X W (e :: es) (aCons fe fs) :=
  (pa_cons ha hr hs).imp fun σ H Q ⟨P, ms, cs, sg, A, h⟩ => by
    refine ⟨P, ms, cs, sg, A, ?_⟩
    have h1 := Post.bind (Rp := RpV g) A.rel h
    revert h1
    cases fe sg cs with
    | stuck => exact id
    | exc e cs' => exact id
    | ok v cs' =>
      intro h1 ms' H' vv B q
      obtain ⟨ms1, cs1, x, A1, q1, h2⟩ := h1 ms' H' vv B q
      refine ⟨P, ms1, cs1, sg, A.aft A1, ?_⟩
      have h3 := Post.bind (Rp := RpL g) (A.aft A1).rel h2
      revert h3
      cases fs sg cs1 with
      | stuck => exact id
      | exc e cs' => exact id
      | ok w cs2' =>
        intro h3 ms2' H2' ww B2 q2
        obtain ⟨ms2, cs2, y, A2, q3, h4⟩ := h3 ms2' H2' ww B2 q2
        exact h4 ms2 H2' _ (.refl A2.rel) (.cons (q1.aft (A.aft A1).rel A2) q3)
/-- a call of a built-in -/
def eCall (f : List PV → Option PV) (as : AF) : EF := fun sg cs => (as sg cs).bind fun xs cs1 => .lift (f xs) cs1
def rC0 (g : Gx) (f : List PV → Option PV) : List V → Hp → VK → Prop := fun vs H Q => ∃ P ms cs xs z, Rel g H P ms cs ∧ Reps g H (Exl P ms cs) xs vs ∧ f xs = some z ∧
  ∀ H' vz, Aft g P ms cs H P ms cs H' → Rep g H' (Exl P ms cs) z vz → Q vz H'
theorem rdE_C0 {f : List PV → Option PV} {fs : AF} {σ : L2.St} {H : Hp} {Q : VK} (h : rdE g (eCall f fs) W σ H Q) : rdA g fs W σ H fun vs H1 => rC0 g f vs H1 Q := by
  obtain ⟨P, ms, cs, sg, A, h⟩ := h
  refine ⟨P, ms, cs, sg, A, ?_⟩
  have h1 := Post.bind (Rp := RpL g) A.rel h
  revert h1
  cases fs sg cs with
  | stuck => exact id
  | exc e cs' => exact id
  | ok v cs' =>
    intro h1 ms' H' vv B q
    obtain ⟨ms1, cs1, x, A1, q1, h2⟩ := h1 ms' H' vv B q
    unfold Res.lift at h2
    cases hz : f x with
    | none => rw [hz] at h2; exact h2.elim
    | some z =>
      rw [hz] at h2
      exact ⟨P, ms1, cs1, x, z, A1.rel, q1, hz, fun H'' vz A3 r3 => h2 ms1 H'' vz A3 r3⟩
def rC (g : Gx) (f : List PV → Option PV) : List V → Hp → VK → Prop := fun vs H Q => ∃ P ms cs xs z, Rel g H P ms cs ∧ RepBs g H (Exl P ms cs) xs vs ∧ f xs = some z ∧
  ∀ H' vz, Aft g P ms cs H P ms cs H' → Rep g H' (Exl P ms cs) z vz → Q vz H'
theorem rdE_C {f : List PV → Option PV} {fs : AF} {σ : L2.St} {H : Hp} {Q : VK} (h : rdE g (eCall f fs) W σ H Q) : rdA g fs W σ H fun vs H1 => rC g f vs H1 Q := by
  obtain ⟨P, ms, cs, sg, A, h⟩ := h
  refine ⟨P, ms, cs, sg, A, ?_⟩
  have h1 := Post.bind (Rp := RpL g) A.rel h
  revert h1
  cases fs sg cs with
  | stuck => exact id
  | exc e cs' => exact id
  | ok v cs' =>
    intro h1 ms' H' vv B q
    obtain ⟨ms1, cs1, x, A1, q1, h2⟩ := h1 ms' H' vv B q
    unfold Res.lift at h2
    cases hz : f x with
    | none => rw [hz] at h2; exact h2.elim
    | some z =>
      rw [hz] at h2
      exact ⟨P, ms1, cs1, x, z, A1.rel, q1.toB, hz, fun H'' vz A3 r3 => h2 ms1 H'' vz A3 r3⟩
theorem se_callB {f : List PV → Option PV} {es : List Expr} {fs : AF} {x : Str} {id : String} {p : Pos} (hc : CallR X (.builtin id) (rC g f)) (hg : Gl X x) (hm : X.mg x = none) (hv : bootBuiltins x = some (.builtin id)) (ha : SA g X W (e :: es) fs) (hn : x ≠ "__name__" := by decide) (hdb : (x == ("__debug__" : Str)) = false := by decide)
    (he : starEach (e :: es) X.env = (false, eval e X.env) :: starEach es X.env := by rfl) (hpl : (backTo pos (starEach es X.env)).any (·.1) = false := by rfl) : SE g X W (.Call (.Name x p) (e :: es) [] pos) (eCall f fs) :=
  (pe_callB hc hg hm hv ha hn hdb he hpl).imp fun _ _ _ => rdE_C
theorem se_callTy {f : List PV → Option PV} {es : List Expr} {fs : AF} {x : Str} {T : String} {p : Pos} (hc : CallR X (.type T) (rC g f)) (hg : Gl X x) (hm : X.mg x = none) (hv : bootBuiltins x = some (.type T)) (ha : SA g X W (e :: es) fs) (hn : x ≠ "__name__" := by decide) (hdb : (x == ("__debug__" : Str)) = false := by decide)
    (he : starEach (e :: es) X.env = (false, eval e X.env) :: starEach es X.env := by rfl) (hpl : (backTo pos (starEach es X.env)).any (·.1) = false := by rfl) : SE g X W (.Call (.Name x p) (e :: es) [] pos) (eCall f fs) :=
  (pe_callTy hc hg hm hv ha hn hdb he hpl).imp fun _ _ _ => rdE_C
/-- a tuple, a list written -/
def eTup (as : AF) : EF := eCall (fun xs => if xs.length ≤ 16777216 then some (.tup xs) else none) as
def eLst (as : AF) : EF := eCall (fun xs => if xs.length ≤ 16777216 then some (.lst xs) else none) as
theorem size_le {n : Nat} : (n ≤ 16777216) = (n ≤ sizeLine) := by rw [sizeLine_eq]
theorem rep_tup {P : Addr → Prop} {ms : List Addr} {cs : Cs} {H : Hp} {xs : List PV} {vs : List V} {p : Addr} (R : Rel g H P ms cs) (h : Reps g H (Exl P ms cs) xs vs) (hp : H p = none) : Rep g (upd H p (.tup vs)) (Exl P ms cs) (.tup xs) (.ref p) := by
  simp only [Rep]
  exact ⟨p, vs, rfl, .of upd_same, Reps.mono (Car.ext (ext_upd hp)) _ _ h⟩
theorem rep_lst {P : Addr → Prop} {ms : List Addr} {cs : Cs} {H : Hp} {xs : List PV} {vs : List V} {p : Addr} (R : Rel g H P ms cs) (h : Reps g H (Exl P ms cs) xs vs) (hp : H p = none) : Rep g (upd H p (.lst vs)) (Exl P ms cs) (.lst xs) (.ref p) := by
  simp only [Rep]
  exact ⟨p, vs, rfl, upd_same, Exl.not_new hp R, Reps.mono (Car.ext (ext_upd hp)) _ _ h⟩
theorem rdE_tup {fs : AF} {σ : L2.St} {H : Hp} {Q : VK} (h : rdE g (eTup fs) W σ H Q) : tTup (rdA g fs W) σ H Q := by
  have h1 := rdE_C0 h
  obtain ⟨P, ms, cs, sg, A, h⟩ := h1
  refine ⟨P, ms, cs, sg, A, ?_⟩
  revert h
  cases fs sg cs with
  | stuck => exact id
  | exc e cs' => exact id
  | ok v cs' =>
    intro h ms' H' vv B q
    obtain ⟨P1, ms1, cs1, xs, z, R, q1, hz, k⟩ := h ms' H' vv B q
    dsimp only at hz
    split at hz
    · rename_i hl
      cases hz
      refine ⟨by rw [← q1.length, ← size_le]; exact hl, fun p hp => k _ _ (.new_ hp R) (rep_tup R q1 hp)⟩
    · cases hz
theorem se_tup {es : List Expr} {fs : AF} {x1 : Nat} (h : SA g X W es fs) : SE g X W (.Tuple es x1 pos) (eTup fs) := (pe_tup h).imp fun _ _ _ => rdE_tup
theorem rdE_lst {fs : AF} {σ : L2.St} {H : Hp} {Q : VK} (h : rdE g (eLst fs) W σ H Q) : tLst (rdA g fs W) σ H Q := by
  have h1 := rdE_C0 h
  obtain ⟨P, ms, cs, sg, A, h⟩ := h1
  refine ⟨P, ms, cs, sg, A, ?_⟩
  revert h
  cases fs sg cs with
  | stuck => exact id
  | exc e cs' => exact id
  | ok v cs' =>
    intro h ms' H' vv B q
    obtain ⟨P1, ms1, cs1, xs, z, R, q1, hz, k⟩ := h ms' H' vv B q
    dsimp only at hz
    split at hz
    · rename_i hl
      cases hz
      refine ⟨by rw [← q1.length, ← size_le]; exact hl, fun p hp => k _ _ (.new_ hp R) (rep_lst R q1 hp)⟩
    · cases hz
theorem se_lst {es : List Expr} {fs : AF} (h : SA g X W es fs) : SE g X W (.List es pos) (eLst fs) := (pe_lst h).imp fun _ _ _ => rdE_lst

/-! ### tests -/
def tB (f : EF) : TF := fun sg cs => (f sg cs).bind fun x cs1 => match x with
  | .bl b => .ok b cs1
  | _ => .stuck
theorem rdT_B {σ : L2.St} {H : Hp} {Q : Bool → Hp → Prop} (h : rdT g (tB fe) W σ H Q) : L2.tB (rdE g fe W) σ H Q := by
  obtain ⟨P, ms, cs, sg, A, h⟩ := h
  refine ⟨P, ms, cs, sg, A, ?_⟩
  have h1 := Post.bind (Rp := RpV g) A.rel h
  revert h1
  cases fe sg cs with
  | stuck => exact id
  | exc e cs' => exact id
  | ok v cs' =>
    intro h1 ms' H' vv B q
    obtain ⟨ms1, cs1, x, A1, q1, h2⟩ := h1 ms' H' vv B q
    cases x with
    | bl c => simp only [Rep] at q1; exact ⟨c, q1, h2 ms1 H' c (.refl A1.rel) rfl⟩
    | _ => exact h2.elim
theorem st_cmp {op : CmpOp} {f : PV → PV → Option PV} (ho : OpR X (compareOp op) (r2 g f)) (ha : SE g X W a fa) (hb : SE g X W b fb) (hm : behindInMarks op b = false) : ST g X W (.Compare a [op] [b] pos) (tB (e2 f fa fb)) :=
  (pt_cmpR ho ha hb hm).imp fun σ H Q h => by
    have := rdT_B h
    obtain ⟨P, ms, cs, sg, A, h⟩ := this
    exact rdE_2 ⟨P, ms, cs, sg, A, h⟩
theorem st_val (h : SE g X W e fe) (he : ∀ whole, isTrue e X.env whole = (do let v ← whole; standAt e.pos; holding [v] (truthy v)) := by intro _; rfl) : ST g X W e (tB fe) :=
  (pt_val h he).imp fun _ _ _ => rdT_B
def tNot (f : TF) : TF := fun sg cs => (f sg cs).bind fun x cs1 => .ok (!x) cs1
def tAnd (a b : TF) : TF := fun sg cs => (a sg cs).bind fun x cs1 => match x with
  | true => b sg cs1 | false => .ok false cs1
def tOr (a b : TF) : TF := fun sg cs => (a sg cs).bind fun x cs1 => match x with
  | true => .ok true cs1 | false => b sg cs1
variable {ta tb : TF}
theorem st_not (ha : ST g X W a ta) : ST g X W (.UnaryOp .Not a pos) (tNot ta) :=
  (pt_not ha).imp fun σ H Q ⟨P, ms, cs, sg, A, h⟩ => by
    refine ⟨P, ms, cs, sg, A, ?_⟩
    have h1 := Post.bind (Rp := RpB) A.rel h
    revert h1
    cases ta sg cs with
    | stuck => exact id
    | exc e cs' => exact id
    | ok v cs' =>
      intro h1 ms' H' vv B q
      obtain ⟨ms1, cs1, x, A1, q1, h2⟩ := h1 ms' H' vv B q
      cases q1
      exact h2 ms1 H' _ (.refl A1.rel) rfl
theorem sw_1 {op : BoolOp} (ha : ST g X W a ta) (h : op = .And ∨ op = .Or) : SW g X W (.BoolOp op [a] pos) ta := by
  rcases h with rfl | rfl
  · exact pw_and1 ha
  · exact pw_or1 ha
theorem sw_and {rest : List Expr} (ha : ST g X W a ta) (hb : SW g X W (.BoolOp .And (b :: rest) pos) tb) : SW g X W (.BoolOp .And (a :: b :: rest) pos) (tAnd ta tb) :=
  PW.imp (pw_and ha hb) fun σ H Q ⟨P, ms, cs, sg, A, h⟩ => by
    refine ⟨P, ms, cs, sg, A, ?_⟩
    have h1 := Post.bind (Rp := RpB) A.rel h
    revert h1
    cases ta sg cs with
    | stuck => exact id
    | exc e cs' => exact id
    | ok v cs' =>
      intro h1 ms' H' vv B q
      obtain ⟨ms1, cs1, x, A1, q1, h2⟩ := h1 ms' H' vv B q
      cases q1
      cases vv with
      | true => rw [if_pos rfl]; exact ⟨P, ms1, cs1, sg, A.aft A1, h2⟩
      | false => rw [if_neg Bool.false_ne_true]; exact h2 ms1 H' _ (.refl A1.rel) rfl
theorem sw_or {rest : List Expr} (ha : ST g X W a ta) (hb : SW g X W (.BoolOp .Or (b :: rest) pos) tb) : SW g X W (.BoolOp .Or (a :: b :: rest) pos) (tOr ta tb) :=
  PW.imp (pw_or ha hb) fun σ H Q ⟨P, ms, cs, sg, A, h⟩ => by
    refine ⟨P, ms, cs, sg, A, ?_⟩
    have h1 := Post.bind (Rp := RpB) A.rel h
    revert h1
    cases ta sg cs with
    | stuck => exact id
    | exc e cs' => exact id
    | ok v cs' =>
      intro h1 ms' H' vv B q
      obtain ⟨ms1, cs1, x, A1, q1, h2⟩ := h1 ms' H' vv B q
      cases q1
      cases vv with
      | true => rw [if_pos rfl]; exact h2 ms1 H' _ (.refl A1.rel) rfl
      | false => rw [if_neg Bool.false_ne_true]; exact ⟨P, ms1, cs1, sg, A.aft A1, h2⟩
theorem st_w (h : SW g X W e ta) : ST g X W e ta := h.pt
/-- as values -/
def eAnd (a b : EF) : EF := fun sg cs => (a sg cs).bind fun x cs1 => match x with
  | .bl true => b sg cs1 | .bl false => .ok (.bl false) cs1 | _ => .stuck
def eOr (a b : EF) : EF := fun sg cs => (a sg cs).bind fun x cs1 => match x with
  | .bl true => .ok (.bl true) cs1 | .bl false => b sg cs1 | _ => .stuck
def eNot (a : EF) : EF := e1 (fun x => match x with | .bl b => some (.bl (!b)) | _ => none) a
theorem se_one {op : BoolOp} (h : SE g X W a fa) : SE g X W (.BoolOp op [a] pos) fa := pe_one h
theorem se_and {rest : List Expr} (ha : SE g X W a fa) (hb : SE g X W (.BoolOp .And (b :: rest) pos) fb) : SE g X W (.BoolOp .And (a :: b :: rest) pos) (eAnd fa fb) :=
  PE.imp (pe_and ha hb) fun σ H Q ⟨P, ms, cs, sg, A, h⟩ => by
    refine ⟨P, ms, cs, sg, A, ?_⟩
    have h1 := Post.bind (Rp := RpV g) A.rel h
    revert h1
    cases fa sg cs with
    | stuck => exact id
    | exc e cs' => exact id
    | ok v cs' =>
      intro h1 ms' H' vv B q
      obtain ⟨ms1, cs1, x, A1, q1, h2⟩ := h1 ms' H' vv B q
      cases x with
      | bl c =>
        simp only [Rep] at q1
        refine ⟨c, q1, ?_⟩
        cases c with
        | true => rw [if_pos rfl]; exact ⟨P, ms1, cs1, sg, A.aft A1, h2⟩
        | false => rw [if_neg Bool.false_ne_true]; exact h2 ms1 H' _ (.refl A1.rel) (by simp only [Rep])
      | _ => exact h2.elim
theorem se_or {rest : List Expr} (ha : SE g X W a fa) (hb : SE g X W (.BoolOp .Or (b :: rest) pos) fb) : SE g X W (.BoolOp .Or (a :: b :: rest) pos) (eOr fa fb) :=
  PE.imp (pe_or ha hb) fun σ H Q ⟨P, ms, cs, sg, A, h⟩ => by
    refine ⟨P, ms, cs, sg, A, ?_⟩
    have h1 := Post.bind (Rp := RpV g) A.rel h
    revert h1
    cases fa sg cs with
    | stuck => exact id
    | exc e cs' => exact id
    | ok v cs' =>
      intro h1 ms' H' vv B q
      obtain ⟨ms1, cs1, x, A1, q1, h2⟩ := h1 ms' H' vv B q
      cases x with
      | bl c =>
        simp only [Rep] at q1
        refine ⟨c, q1, ?_⟩
        cases c with
        | true => rw [if_pos rfl]; exact h2 ms1 H' _ (.refl A1.rel) (by simp only [Rep])
        | false => rw [if_neg Bool.false_ne_true]; exact ⟨P, ms1, cs1, sg, A.aft A1, h2⟩
      | _ => exact h2.elim
theorem se_not (ha : SE g X W a fa) : SE g X W (.UnaryOp .Not a pos) (eNot fa) :=
  (pe_not ha).imp fun σ H Q h => by
    have := rdE_1 h
    obtain ⟨P, ms, cs, sg, A, h⟩ := this
    refine ⟨P, ms, cs, sg, A, ?_⟩
    revert h
    cases fa sg cs with
    | stuck => exact id
    | exc e cs' => exact id
    | ok v cs' =>
      intro h ms' H' vv B q
      obtain ⟨P1, ms1, cs1, x, z, R, q1, hz, k⟩ := h ms' H' vv B q
      cases x with
      | bl c =>
        simp only [RepB, Rep] at q1
        cases hz
        exact ⟨c, q1, k _ _ (.refl R) (by simp only [Rep])⟩
      | _ => cases hz
def eIf (t : TF) (a b : EF) : EF := fun sg cs => (t sg cs).bind fun x cs1 => match x with
  | true => a sg cs1 | false => b sg cs1
theorem se_if (hc : ST g X W c ta) (ha : SE g X W a fa) (hb : SE g X W b fb) : SE g X W (.IfExp c a b pos) (eIf ta fa fb) :=
  PE.imp (pe_ifExp hc ha hb) fun σ H Q ⟨P, ms, cs, sg, A, h⟩ => by
    refine ⟨P, ms, cs, sg, A, ?_⟩
    have h1 := Post.bind (Rp := RpB) A.rel h
    revert h1
    cases ta sg cs with
    | stuck => exact id
    | exc e cs' => exact id
    | ok v cs' =>
      intro h1 ms' H' vv B q
      obtain ⟨ms1, cs1, x, A1, q1, h2⟩ := h1 ms' H' vv B q
      cases q1
      cases vv with
      | true => rw [if_pos rfl]; exact ⟨P, ms1, cs1, sg, A.aft A1, h2⟩
      | false => rw [if_neg Bool.false_ne_true]; exact ⟨P, ms1, cs1, sg, A.aft A1, h2⟩
end
end Ev

set_option Elab.async false
set_option linter.all false
set_option maxRecDepth 100000
set_option maxHeartbeats 4000000
/-! Ev: statements, new lists, defs. -/
namespace Ev
open PySem PySem.Spec PyProof.Rows L2

section
variable {g : Gx} {H H' : Hp} {P P' : Addr → Prop} {ms ms' : List Addr} {cs cs' : Cs}
theorem Rel.less (hP : ∀ a, P a → P' a) (r : Rel g H P' ms cs) : Rel g H P ms cs :=
  ⟨r.len, r.inj, fun i a c h1 h2 => (r.cells i a c h1 h2).less (fun b hb => hb.imp (hP b) id), fun a h => r.priv a (hP a h), r.msin, fun i a h z => r.apart i a h (hP a z), r.tabs⟩
theorem Aft.less {H0 : Hp} {P0 : Addr → Prop} {ms0 : List Addr} {cs0 : Cs} (hP : ∀ a, P a → P' a) (A : Aft g P0 ms0 cs0 H0 P' ms cs H) : Aft g P0 ms0 cs0 H0 P ms cs H :=
  ⟨A.pre, A.dead, A.le, A.new, A.frame, A.there, fun a h => A.pri a (hP a h), A.rel.less hP⟩
theorem Exl.less (hP : ∀ a, P a → P' a) : ∀ a, Exl P ms cs a → Exl P' ms cs a := fun a h => h.imp (hP a) id
end
/-- one address more -/
def pls (P : Addr → Prop) (p : Addr) : Addr → Prop := fun a => P a ∨ a = p

/-- a new list, known to nobody -/
def PostF (g : Gx) (P : Addr → Prop) (ms : List Addr) (cs : Cs) (H : Hp) (r : Res (List PV)) (Q : VK) (W : Value → Option Addr → Hp → Prop) : Prop :=
  match r with
  | .ok xs cs' => ∀ ms' H' p vs, H p = none → Aft g P ms cs H (pls P p) ms' cs' H' → H' p = some (.lst vs) → Reps g H' (Exl (pls P p) ms' cs') xs vs → Q (.ref p) H'
  | .exc e cs' => ∀ ms' H' c d, Aft g P ms cs H P ms' cs' H' → ExR g H' (Exl P ms' cs') e c d → W c d H'
  | .stuck => False
def rdF (g : Gx) (f : AF) (W : WX) : TE := fun σ H Q => ∃ P ms cs sg, At g P ms cs sg σ H ∧ PostF g P ms cs H (f sg cs) Q fun c d H' => W c d σ H'
abbrev SFr (g : Gx) (X : Cx) (W : WX) (e : Expr) (f : AF) : Prop := PE X e (rdF g f W)
def eFr (f : AF) : EF := fun sg cs => (f sg cs).bind fun xs cs1 => .ok (.lst xs) cs1
section
variable {g : Gx} {X : Cx} {W : WX} {e a b c : Expr} {fe fa fb fc : EF} {pos : Pos}
theorem PostF.toE {P : Addr → Prop} {ms : List Addr} {cs : Cs} {H : Hp} {r : Res (List PV)} {Q : VK} {W : Value → Option Addr → Hp → Prop} (R : Rel g H P ms cs) (h : Post g (RpV g) P ms cs H (r.bind fun xs cs1 => .ok (.lst xs) cs1) Q W) : PostF g P ms cs H r Q W := by
  cases r with
  | stuck => exact h
  | exc e cs' => exact h
  | ok xs cs' =>
    intro ms' H' p vs hp A hl hr
    refine h ms' H' (.ref p) (A.less (fun a z => .inl z)) ?_
    simp only [Rep]
    refine ⟨p, vs, rfl, hl, fun z => ?_, Reps.less (Exl.less (fun a z => .inl z)) hr⟩
    rcases z with z | ⟨i, c, h1, h2, h3⟩
    · exact R.priv p z hp
    · exact A.rel.apart i p h1 (.inr rfl)
theorem se_fr {f : AF} (h : SFr g X W e f) : SE g X W e (eFr f) := h.imp fun σ H Q ⟨P, ms, cs, sg, A, h⟩ => ⟨P, ms, cs, sg, A, PostF.toE A.rel h⟩
/-- what a new list at p asks -/
theorem Aft.fresh {P : Addr → Prop} {ms : List Addr} {cs : Cs} {H : Hp} {p : Addr} {vs : List V} (R : Rel g H P ms cs) (hp : H p = none) : Aft g P ms cs H (pls P p) ms cs (upd H p (.lst vs)) := by
  have A := Aft.new_ (o := .lst vs) hp R
  have r := A.rel
  refine ⟨A.pre, A.dead, A.le, A.new, A.frame, A.there, fun a h => h.elim .inl (fun e => .inr (e ▸ hp)), ⟨r.len, r.inj, fun i a c h1 h2 => ?_, fun a h => ?_, r.msin, fun i a h z => ?_, r.tabs⟩⟩
  · have hc := R.cells i a c h1 h2
    have ha : a ≠ p := fun e => R.msin i a h1 (e ▸ hp)
    have cr : Car H (Exl P ms cs) (upd H p (.lst vs)) (Exl (pls P p) ms cs) := ⟨(Car.ext (N := Exl P ms cs) (ext_upd hp)).tup, (Car.ext (N := Exl P ms cs) (ext_upd hp)).oth, fun b hb h => by
      rcases h with (h | h) | h
      · exact .inl h
      · exact absurd hp (h ▸ hb)
      · exact .inr h, ext_there (ext_upd hp)⟩
    cases c with
    | lst xs => obtain ⟨ws, e1, e2⟩ := hc; exact ⟨ws, by rw [upd_ne ha]; exact e1, Reps.mono cr _ _ e2⟩
    | dK xs => obtain ⟨ws, e1, e2⟩ := hc; exact ⟨ws, by rw [upd_ne ha]; exact e1, RepK.mono cr _ _ e2⟩
    | dead => trivial
  · rcases h with h | h
    · exact r.priv a h
    · rw [h, upd_same]; exact fun z => nomatch z
  · rcases z with z | z
    · exact r.apart i a h z
    · exact R.msin i a h (z ▸ hp)
theorem reps_pls {P : Addr → Prop} {ms : List Addr} {cs : Cs} {H : Hp} {p : Addr} {o : HO} {xs : List PV} {vs : List V} (hp : H p = none) (h : Reps g H (Exl P ms cs) xs vs) : Reps g (upd H p o) (Exl (pls P p) ms cs) xs vs :=
  Reps.mono ⟨(Car.ext (N := Exl P ms cs) (ext_upd hp)).tup, (Car.ext (N := Exl P ms cs) (ext_upd hp)).oth, fun b hb h => by
      rcases h with (h | h) | h
      · exact .inl h
      · exact absurd hp (h ▸ hb)
      · exact .inr h, ext_there (ext_upd hp)⟩ _ _ h
/-- new lists by values -/
def f2 (f : PV → PV → Option (List PV)) (a b : EF) : AF := fun sg cs => (a sg cs).bind fun x cs1 => (b sg cs1).bind fun y cs2 => .lift (f x y) cs2
def r2F (g : Gx) (f : PV → PV → Option (List PV)) : R2 := fun vx vy H Q => ∃ P ms cs x y zs, Rel g H P ms cs ∧ RepB g H (Exl P ms cs) x vx ∧ RepB g H (Exl P ms cs) y vy ∧ f x y = some zs ∧
  ∀ p vs, H p = none → Reps g H (Exl P ms cs) zs vs → Q (.ref p) (upd H p (.lst vs))
theorem rdF_2 {f : PV → PV → Option (List PV)} {σ : L2.St} {H : Hp} {Q : VK} (h : rdF g (f2 f fa fb) W σ H Q) : tOp (r2F g f) (rdE g fa W) (rdE g fb W) σ H Q := by
  obtain ⟨P, ms, cs, sg, A, h⟩ := h
  refine ⟨P, ms, cs, sg, A, ?_⟩
  unfold f2 at h
  revert h
  cases fa sg cs with
  | stuck => exact id
  | exc e cs' => exact fun h => h
  | ok v cs1 =>
    intro h ms1 H1 vv A1 q1
    refine ⟨P, ms1, cs1, sg, A.aft A1, ?_⟩
    simp only [Res.bind] at h
    revert h
    cases fb sg cs1 with
    | stuck => exact id
    | exc e cs' => exact fun h ms2 H2 c d A2 q2 => h ms2 H2 c d (A1.trans A2 A.rel) q2
    | ok w cs2 =>
      intro h ms2 H2 ww A2 q2
      cases hz : f v w with
      | none => simp only [hz, Res.lift] at h; exact h.elim
      | some z =>
        simp only [hz, Res.lift] at h
        refine ⟨P, ms2, cs2, v, w, z, A2.rel, (q1.aft (A.aft A1).rel A2).toB, q2.toB, hz, fun p vs hp hr => h ms2 _ p vs ?_ (((A1.trans A2 A.rel)).trans (Aft.fresh A2.rel hp) A.rel) upd_same (reps_pls hp hr)⟩
        cases e : H p with
        | none => rfl
        | some o => exact absurd hp ((A1.trans A2 A.rel).there p (by rw [e]; exact fun z => nomatch z))
theorem sf_op {op : Operator} {f : PV → PV → Option (List PV)} (ho : OpR X (binaryOp op) (r2F g f)) (ha : SE g X W a fa) (hb : SE g X W b fb) : SFr g X W (.BinOp a op b pos) (f2 f fa fb) :=
  (pe_op ho ha hb).imp fun _ _ _ => rdF_2
def fCall (f : List PV → Option (List PV)) (as : AF) : AF := fun sg cs => (as sg cs).bind fun xs cs1 => .lift (f xs) cs1
def rCF0 (g : Gx) (f : List PV → Option (List PV)) : List V → Hp → VK → Prop := fun vs H Q => ∃ P ms cs xs zs, Rel g H P ms cs ∧ Reps g H (Exl P ms cs) xs vs ∧ f xs = some zs ∧
  ∀ p ws, H p = none → Reps g H (Exl P ms cs) zs ws → Q (.ref p) (upd H p (.lst ws))
theorem rdF_C0 {f : List PV → Option (List PV)} {fs : AF} {σ : L2.St} {H : Hp} {Q : VK} (h : rdF g (fCall f fs) W σ H Q) : rdA g fs W σ H fun vs H1 => rCF0 g f vs H1 Q := by
  obtain ⟨P, ms, cs, sg, A, h⟩ := h
  refine ⟨P, ms, cs, sg, A, ?_⟩
  unfold fCall at h
  revert h
  cases fs sg cs with
  | stuck => exact id
  | exc e cs' => exact fun h => h
  | ok v cs1 =>
    intro h ms1 H1 vv A1 q1
    cases hz : f v with
    | none => simp only [Res.bind, hz, Res.lift] at h; exact h.elim
    | some z =>
      simp only [Res.bind, hz, Res.lift] at h
      refine ⟨P, ms1, cs1, v, z, A1.rel, q1, hz, fun p ws hp hr => h ms1 _ p ws ?_ (A1.trans (Aft.fresh A1.rel hp) A.rel) upd_same (reps_pls hp hr)⟩
      cases e : H p with
      | none => rfl
      | some o => exact absurd hp (A1.there p (by rw [e]; exact fun z => nomatch z))
def rCF (g : Gx) (f : List PV → Option (List PV)) : List V → Hp → VK → Prop := fun vs H Q => ∃ P ms cs xs zs, Rel g H P ms cs ∧ RepBs g H (Exl P ms cs) xs vs ∧ f xs = some zs ∧
  ∀ p ws, H p = none → Reps g H (Exl P ms cs) zs ws → Q (.ref p) (upd H p (.lst ws))
theorem rdF_C {f : List PV → Option (List PV)} {fs : AF} {σ : L2.St} {H : Hp} {Q : VK} (h : rdF g (fCall f fs) W σ H Q) : rdA g fs W σ H fun vs H1 => rCF g f vs H1 Q := by
  obtain ⟨P, ms, cs, sg, A, h⟩ := h
  refine ⟨P, ms, cs, sg, A, ?_⟩
  unfold fCall at h
  revert h
  cases fs sg cs with
  | stuck => exact id
  | exc e cs' => exact fun h => h
  | ok v cs1 =>
    intro h ms1 H1 vv A1 q1
    cases hz : f v with
    | none => simp only [Res.bind, hz, Res.lift] at h; exact h.elim
    | some z =>
      simp only [Res.bind, hz, Res.lift] at h
      refine ⟨P, ms1, cs1, v, z, A1.rel, q1.toB, hz, fun p ws hp hr => h ms1 _ p ws ?_ (A1.trans (Aft.fresh A1.rel hp) A.rel) upd_same (reps_pls hp hr)⟩
      cases e : H p with
      | none => rfl
      | some o => exact absurd hp (A1.there p (by rw [e]; exact fun z => nomatch z))
theorem sf_callB {f : List PV → Option (List PV)} {es : List Expr} {fs : AF} {x : Str} {id : String} {p : Pos} (hc : CallR X (.builtin id) (rCF g f)) (hg : Gl X x) (hm : X.mg x = none) (hv : bootBuiltins x = some (.builtin id)) (ha : SA g X W (e :: es) fs) (hn : x ≠ "__name__" := by decide) (hdb : (x == ("__debug__" : Str)) = false := by decide)
    (he : starEach (e :: es) X.env = (false, eval e X.env) :: starEach es X.env := by rfl) (hpl : (backTo pos (starEach es X.env)).any (·.1) = false := by rfl) : SFr g X W (.Call (.Name x p) (e :: es) [] pos) (fCall f fs) :=
  (pe_callB hc hg hm hv ha hn hdb he hpl).imp fun _ _ _ => rdF_C
theorem sf_callTy {f : List PV → Option (List PV)} {es : List Expr} {fs : AF} {x : Str} {T : String} {p : Pos} (hc : CallR X (.type T) (rCF g f)) (hg : Gl X x) (hm : X.mg x = none) (hv : bootBuiltins x = some (.type T)) (ha : SA g X W (e :: es) fs) (hn : x ≠ "__name__" := by decide) (hdb : (x == ("__debug__" : Str)) = false := by decide)
    (he : starEach (e :: es) X.env = (false, eval e X.env) :: starEach es X.env := by rfl) (hpl : (backTo pos (starEach es X.env)).any (·.1) = false := by rfl) : SFr g X W (.Call (.Name x p) (e :: es) [] pos) (fCall f fs) :=
  (pe_callTy hc hg hm hv ha hn hdb he hpl).imp fun _ _ _ => rdF_C
/-- a written list -/
def fLst (as : AF) : AF := fCall (fun xs => if xs.length ≤ 16777216 then some xs else none) as
theorem sf_lst {es : List Expr} {fs : AF} (h : SA g X W es fs) : SFr g X W (.List es pos) (fLst fs) := (pe_lst h).imp fun σ H Q h => by
  have h1 := rdF_C0 h
  obtain ⟨P, ms, cs, sg, A, h⟩ := h1
  refine ⟨P, ms, cs, sg, A, ?_⟩
  revert h
  cases fs sg cs with
  | stuck => exact id
  | exc e cs' => exact id
  | ok v cs' =>
    intro h ms' H' vv B q
    obtain ⟨P1, ms1, cs1, xs, z, R, q1, hz, k⟩ := h ms' H' vv B q
    dsimp only at hz
    split at hz
    · rename_i hl
      cases hz
      exact ⟨by rw [← q1.length, ← size_le]; exact hl, fun p hp => k p vv hp q1⟩
    · cases hz
end

/-! ### statements -/
def PostS (g : Gx) (P : Addr → Prop) (ms : List Addr) (cs : Cs) (H : Hp) (r : RS) (D : Ends) (W : WX) : Prop :=
  match r with
  | .nx sg' cs' => ∀ ms' H' σ', Aft g P ms cs H P ms' cs' H' → Slots g H' P ms' cs' sg' σ' → D.nx σ' H'
  | .bk sg' cs' => ∀ ms' H' σ', Aft g P ms cs H P ms' cs' H' → Slots g H' P ms' cs' sg' σ' → D.bk σ' H'
  | .ct sg' cs' => ∀ ms' H' σ', Aft g P ms cs H P ms' cs' H' → Slots g H' P ms' cs' sg' σ' → D.ct σ' H'
  | .rt v cs' => ∀ ms' H' vv, Aft g P ms cs H P ms' cs' H' → Rep g H' (Exl P ms' cs') v vv → D.rt vv H'
  | .rtF xs cs' => ∀ ms' H' p vs, H p = none → Aft g P ms cs H (pls P p) ms' cs' H' → H' p = some (.lst vs) → Reps g H' (Exl (pls P p) ms' cs') xs vs → D.rt (.ref p) H'
  | .exc e sg' cs' => ∀ ms' H' σ' c d, Aft g P ms cs H P ms' cs' H' → Slots g H' P ms' cs' sg' σ' → ExR g H' (Exl P ms' cs') e c d → W c d σ' H'
  | .stuck => False
def rdS (g : Gx) (f : BF) (W : WX) : TS := fun D σ H => ∃ P ms cs sg, At g P ms cs sg σ H ∧ PostS g P ms cs H (f sg cs) D W
abbrev SS (g : Gx) (X : Cx) (W : WX) (st : Stmt) (f : BF) : Prop := PS X st (rdS g f W)
abbrev SB (g : Gx) (X : Cx) (W : WX) (st : List Stmt) (f : BF) : Prop := PSs X st (rdS g f W)

section
variable {g : Gx} {P : Addr → Prop} {ms ms1 : List Addr} {cs cs1 : Cs} {H H1 : Hp}
theorem none_back (A : Aft g P ms cs H P ms1 cs1 H1) {p : Addr} (h : H1 p = none) : H p = none := by
  cases e : H p with
  | none => rfl
  | some o => exact absurd h (A.there p (by rw [e]; exact fun z => nomatch z))
theorem PostS.shift {r : RS} {D : Ends} {W : WX} (R : Rel g H P ms cs) (A : Aft g P ms cs H P ms1 cs1 H1) (h : PostS g P ms cs H r D W) : PostS g P ms1 cs1 H1 r D W := by
  cases r with
  | nx s c => exact fun ms' H' σ' B q => h ms' H' σ' (A.trans B R) q
  | bk s c => exact fun ms' H' σ' B q => h ms' H' σ' (A.trans B R) q
  | ct s c => exact fun ms' H' σ' B q => h ms' H' σ' (A.trans B R) q
  | rt v c => exact fun ms' H' vv B q => h ms' H' vv (A.trans B R) q
  | rtF v c => exact fun ms' H' p vs hp B q1 q2 => h ms' H' p vs (none_back A hp) (A.trans B R) q1 q2
  | exc e s c => exact fun ms' H' σ' c d B q1 q2 => h ms' H' σ' c d (A.trans B R) q1 q2
  | stuck => exact h
end

def RS.bind (r : RS) (k : Sg → Cs → RS) : RS := match r with
  | .nx sg cs => k sg cs
  | r => r
def sNil : BF := fun sg cs => .nx sg cs
def sSeq (a b : BF) : BF := fun sg cs => (a sg cs).bind b
/-- an expression's result in a statement -/
def Res.st {α : Type} (r : Res α) (sg : Sg) (k : α → Cs → RS) : RS := match r with
  | .ok v cs => k v cs | .exc e cs => .exc e sg cs | .stuck => .stuck
def sRet (f : EF) : BF := fun sg cs => (f sg cs).st sg fun v cs' => .rt v cs'
def sRetN : BF := fun _ cs => .rt .non cs
def sRetF (f : AF) : BF := fun sg cs => (f sg cs).st sg fun v cs' => .rtF v cs'
def sSet (i : Nat) (f : EF) : BF := fun sg cs => (f sg cs).st sg fun v cs' => .nx (sg.set i (some (.val v))) cs'
def sExpr (f : EF) : BF := fun sg cs => (f sg cs).st sg fun _ cs' => .nx sg cs'
def sIf (t : TF) (a b : BF) : BF := fun sg cs => (t sg cs).st sg fun c cs' => match c with
  | true => a sg cs' | false => b sg cs'
section
variable {g : Gx} {X : Cx} {W : WX} {e a b c : Expr} {fe fa fb fc : EF} {pos : Pos} {st : Stmt} {rest : List Stmt} {fs ft : BF}
theorem Slots.set {H : Hp} {P : Addr → Prop} {ms : List Addr} {cs : Cs} {sg : Sg} {σ : L2.St} {i : Nat} {s : SV} {x : V} (S : Slots g H P ms cs sg σ) (h : RepS g H P ms cs s x) : Slots g H P ms cs (sg.set i (some s)) (σ.set i (some x)) := by
  refine ⟨by simp [S.len], fun j t e => ?_⟩
  by_cases hj : i = j
  · subst hj
    by_cases hl : i < sg.length
    · rw [List.getElem?_set_self hl] at e
      cases e
      exact ⟨x, by rw [List.getElem?_set_self (by rw [← S.len]; exact hl)], h⟩
    · rw [List.getElem?_eq_none (by simp; omega)] at e; cases e
  · rw [List.getElem?_set_ne hj] at e
    obtain ⟨y, e1, e2⟩ := S.at_ j t e
    exact ⟨y, by rw [List.getElem?_set_ne hj]; exact e1, e2⟩
theorem sb_nil : SB g X W [] sNil := PSs.imp pss_nil fun D σ H ⟨P, ms, cs, sg, A, h⟩ => h ms H σ (.refl A.rel) A.sl
theorem sb_cons (h1 : SS g X W st fs) (h2 : SB g X W rest ft) : SB g X W (st :: rest) (sSeq fs ft) :=
  PSs.imp (pss_cons h1 h2) fun D σ H ⟨P, ms, cs, sg, A, h⟩ => by
    refine ⟨P, ms, cs, sg, A, ?_⟩
    unfold sSeq at h
    revert h
    cases fs sg cs with
    | nx s c => exact fun h ms' H' σ' B q => ⟨P, ms', c, s, ⟨B.rel, q⟩, PostS.shift A.rel B h⟩
    | bk s c => exact fun h => h
    | ct s c => exact fun h => h
    | rt v c => exact fun h => h
    | rtF v c => exact fun h => h
    | exc e s c => exact fun h => h
    | stuck => exact fun h => h
theorem sb_one (h1 : SS g X W st fs) : SB g X W [st] fs := pss_one h1
theorem ss_ret (he : SE g X W e fe) : SS g X W (.Return (some e) pos) (sRet fe) :=
  PS.imp (ps_ret he) fun D σ H ⟨P, ms, cs, sg, A, h⟩ => by
    refine ⟨P, ms, cs, sg, A, ?_⟩
    unfold sRet at h
    revert h
    cases fe sg cs with
    | ok v c => exact fun h => h
    | exc e c => exact fun h ms' H' c' d B q => h ms' H' σ c' d B (A.sl.aft A.rel B) q
    | stuck => exact fun h => h
theorem ss_retF {f : AF} (he : SFr g X W e f) : SS g X W (.Return (some e) pos) (sRetF f) :=
  PS.imp (ps_ret he) fun D σ H ⟨P, ms, cs, sg, A, h⟩ => by
    refine ⟨P, ms, cs, sg, A, ?_⟩
    unfold sRetF at h
    revert h
    cases f sg cs with
    | ok v c => exact fun h => h
    | exc e c => exact fun h ms' H' c' d B q => h ms' H' σ c' d B (A.sl.aft A.rel B) q
    | stuck => exact fun h => h
theorem ss_retN : SS g X W (.Return none pos) sRetN :=
  PS.imp ps_retN fun D σ H ⟨P, ms, cs, sg, A, h⟩ => h ms H .non (.refl A.rel) (by simp only [Rep])
theorem ss_pass : SS g X W (.Pass pos) sNil := PS.imp ps_pass fun D σ H ⟨P, ms, cs, sg, A, h⟩ => h ms H σ (.refl A.rel) A.sl
theorem ss_expr (he : SE g X W e fe) (hs : swapsWith e none pos.line X.env = pure false := by rfl) : SS g X W (.Expr e pos) (sExpr fe) :=
  PS.imp (ps_expr he hs) fun D σ H ⟨P, ms, cs, sg, A, h⟩ => by
    refine ⟨P, ms, cs, sg, A, ?_⟩
    unfold sExpr at h
    revert h
    cases fe sg cs with
    | ok v c => exact fun h ms' H' vv B q => h ms' H' σ B (A.sl.aft A.rel B)
    | exc e c => exact fun h ms' H' c' d B q => h ms' H' σ c' d B (A.sl.aft A.rel B) q
    | stuck => exact fun h => h
theorem ss_set {i : Nat} {x : Str} {pos' : Pos} (hN : X.N.Nodup) (hi : X.N[i]? = some x) (hx : Loc X.env.scope x) (he : SE g X W e fe) (hs : swapsWith e (some (.Name x pos')) pos.line X.env = pure false := by rfl) (hf : X.fn x = true ∨ X.env.scope.names.lookup x = some .local := by first | exact .inl rfl | exact .inr rfl | assumption) :
    SS g X W (.Assign [.Name x pos'] e pos) (sSet i fe) :=
  PS.imp (ps_set hN hi hx he hs hf) fun D σ H ⟨P, ms, cs, sg, A, h⟩ => by
    refine ⟨P, ms, cs, sg, A, ?_⟩
    unfold sSet at h
    revert h
    cases fe sg cs with
    | ok v c => exact fun h ms' H' vv B q => h ms' H' _ B ((A.sl.aft A.rel B).set q)
    | exc e c => exact fun h ms' H' c' d B q => h ms' H' σ c' d B (A.sl.aft A.rel B) q
    | stuck => exact fun h => h
theorem ss_if {ta : TF} {p q : List Stmt} (hc : ST g X W c ta) (ha : SB g X W p fs) (hb : SB g X W q ft) : SS g X W (.If c p q pos) (sIf ta fs ft) :=
  PS.imp (ps_if hc ha hb) fun D σ H ⟨P, ms, cs, sg, A, h⟩ => by
    refine ⟨P, ms, cs, sg, A, ?_⟩
    unfold sIf at h
    revert h
    cases ta sg cs with
    | ok v c =>
      intro h ms' H' vv B q
      obtain rfl : vv = v := q
      cases vv with
      | true => rw [if_pos rfl]; exact ⟨P, ms', c, sg, A.aft B, PostS.shift A.rel B h⟩
      | false => rw [if_neg Bool.false_ne_true]; exact ⟨P, ms', c, sg, A.aft B, PostS.shift A.rel B h⟩
    | exc e c => exact fun h ms' H' c' d B q => h ms' H' σ c' d B (A.sl.aft A.rel B) q
    | stuck => exact fun h => h
end

/-! ### changing lists -/
/-- x = (a new list): slot i holds a new cell -/
def sCell (i : Nat) (f : AF) : BF := fun sg cs => (f sg cs).st sg fun xs cs' => .nx (sg.set i (some (.cel cs'.length))) (cs' ++ [.lst xs])
section
variable {g : Gx} {P : Addr → Prop} {ms : List Addr} {cs : Cs} {H : Hp}
theorem live_snoc {p : Addr} {xs : List PV} (hl : ms.length = cs.length) {a : Addr} : Live (ms ++ [p]) (cs ++ [.lst xs]) a ↔ Live ms cs a ∨ a = p := by
  constructor
  · rintro ⟨i, c, h1, h2, h3⟩
    by_cases hi : i < ms.length
    · rw [List.getElem?_append_left hi] at h1
      rw [List.getElem?_append_left (by rw [← hl]; exact hi)] at h2
      exact .inl ⟨i, c, h1, h2, h3⟩
    · rw [List.getElem?_append_right (Nat.le_of_not_lt hi)] at h1
      cases hk : i - ms.length with
      | zero => rw [hk] at h1; simp at h1; exact .inr h1.symm
      | succ n => rw [hk] at h1; simp at h1
  · rintro (⟨i, c, h1, h2, h3⟩ | rfl)
    · have hi : i < ms.length := (List.getElem?_eq_some_iff.mp h1).1
      exact ⟨i, c, by rw [List.getElem?_append_left hi]; exact h1, by rw [List.getElem?_append_left (by rw [← hl]; exact hi)]; exact h2, h3⟩
    · exact ⟨ms.length, .lst xs, by simp, by rw [hl]; simp, fun z => by cases z⟩
theorem exl_snoc {p : Addr} {xs : List PV} (hl : ms.length = cs.length) {a : Addr} : Exl P (ms ++ [p]) (cs ++ [.lst xs]) a ↔ Exl (pls P p) ms cs a := by
  unfold Exl pls
  rw [live_snoc hl]
  constructor
  · rintro (h | h | h)
    · exact .inl (.inl h)
    · exact .inr h
    · exact .inl (.inr h)
  · rintro ((h | h) | h)
    · exact .inl h
    · exact .inr (.inr h)
    · exact .inr (.inl h)
/-- a new list becomes a cell -/
theorem Aft.cell {H0 : Hp} {ms0 : List Addr} {cs0 : Cs} {p : Addr} {xs : List PV} {vs : List V} (R : Rel g H0 P ms0 cs0) (hp : H0 p = none) (A : Aft g P ms0 cs0 H0 (pls P p) ms cs H) (hl : H p = some (.lst vs)) (hr : Reps g H (Exl (pls P p) ms cs) xs vs) :
    Aft g P ms0 cs0 H0 P (ms ++ [p]) (cs ++ [.lst xs]) H := by
  have r := A.rel
  have ml : ∀ {i : Nat} {a : Addr}, (ms ++ [p])[i]? = some a → (i < ms.length ∧ ms[i]? = some a) ∨ (i = ms.length ∧ a = p) := fun {i a} h => by
    by_cases hi : i < ms.length
    · rw [List.getElem?_append_left hi] at h; exact .inl ⟨hi, h⟩
    · rw [List.getElem?_append_right (Nat.le_of_not_lt hi)] at h
      cases hk : i - ms.length with
      | zero => rw [hk] at h; simp at h; exact .inr ⟨by omega, h.symm⟩
      | succ n => rw [hk] at h; simp at h
  have np : ∀ i, ms[i]? ≠ some p := fun i h => r.apart i p h (.inr rfl)
  have hP : ¬ P p := fun z => R.priv p z hp
  refine ⟨fun i a h => by have := A.pre i a h; rw [List.getElem?_append_left (List.getElem?_eq_some_iff.mp this).1]; exact this, fun i h => by have := A.dead i h; rw [List.getElem?_append_left (List.getElem?_eq_some_iff.mp this).1]; exact this,
    Nat.le_trans A.le (by simp), fun i a h hi => ?_, A.frame, A.there, fun a h => .inl h, ⟨by simp [r.len], fun i j a h1 h2 => ?_, fun i a c h1 h2 => ?_, fun a h => r.priv a (.inl h), fun i a h => ?_, fun i a h z => ?_, r.tabs⟩⟩
  · rcases ml h with ⟨hi', h⟩ | ⟨_, rfl⟩
    · exact A.new i a h hi
    · exact hp
  · rcases ml h1 with ⟨hi, h1⟩ | ⟨hi, e1⟩ <;> rcases ml h2 with ⟨hj, h2⟩ | ⟨hj, e2⟩
    · exact r.inj i j a h1 h2
    · exact absurd (e2 ▸ h1) (np i)
    · exact absurd (e1 ▸ h2) (np j)
    · rw [hi, hj]
  · have less : ∀ b, Exl P (ms ++ [p]) (cs ++ [.lst xs]) b → Exl (pls P p) ms cs b := fun b => (exl_snoc r.len).mp
    rcases ml h1 with ⟨hi, h1⟩ | ⟨hi, rfl⟩
    · rw [List.getElem?_append_left (by rw [← r.len]; exact hi)] at h2
      exact (r.cells i a c h1 h2).less less
    · rw [hi, r.len] at h2
      simp at h2
      subst h2
      exact ⟨vs, hl, hr.less less⟩
  · rcases ml h with ⟨hi, h⟩ | ⟨_, rfl⟩
    · exact r.msin i a h
    · rw [hl]; exact fun z => nomatch z
  · rcases ml h with ⟨hi, h⟩ | ⟨_, rfl⟩
    · exact r.apart i a h (.inl z)
    · exact hP z
end
section
variable {g : Gx} {X : Cx} {W : WX} {e a b c : Expr} {fe fa fb fc : EF} {pos : Pos}
theorem ss_cell {i : Nat} {x : Str} {pos' : Pos} {f : AF} (hN : X.N.Nodup) (hi : X.N[i]? = some x) (hx : Loc X.env.scope x) (he : SFr g X W e f) (hs : swapsWith e (some (.Name x pos')) pos.line X.env = pure false := by rfl) (hf : X.fn x = true ∨ X.env.scope.names.lookup x = some .local := by first | exact .inl rfl | exact .inr rfl | assumption) :
    SS g X W (.Assign [.Name x pos'] e pos) (sCell i f) :=
  PS.imp (ps_set hN hi hx he hs hf) fun D σ H ⟨P, ms, cs, sg, A, h⟩ => by
    refine ⟨P, ms, cs, sg, A, ?_⟩
    unfold sCell at h
    revert h
    cases f sg cs with
    | ok v c =>
      intro h ms' H' p vs hp B hl hr
      have B' := Aft.cell A.rel hp B hl hr
      refine h _ H' _ B' ((A.sl.aft A.rel B').set ?_)
      exact ⟨p, by rw [← B.rel.len]; simp, rfl⟩
    | exc e c => exact fun h ms' H' c' d B q => h ms' H' σ c' d B (A.sl.aft A.rel B) q
    | stuck => exact fun h => h
end
end Ev

set_option Elab.async false
set_option linter.all false
set_option maxRecDepth 100000
set_option maxHeartbeats 4000000
/-! Ev: defs and calls. -/
namespace Ev
open PySem PySem.Spec PyProof.Rows L2

abbrev FF := List SV → Cs → Res PV
/-- what a call gives -/
def PostD (g : Gx) (P : Addr → Prop) (ms : List Addr) (cs : Cs) (H : Hp) (r : Res PV) (Q : VK) (E : XK) : Prop :=
  match r with
  | .ok v cs' => ∀ H' vv, Aft g P ms cs H P ms cs' H' → Rep g H' (Exl P ms cs') v vv → Q vv H'
  | .exc e cs' => ∀ H' c d, Aft g P ms cs H P ms cs' H' → ExR g H' (Exl P ms cs') e c d → E c d H'
  | .stuck => False
def spEv (g : Gx) (n : Nat) (F : FF) : Sp := fun vs H Q E => ∃ P ms cs xs, Rel g H P ms cs ∧ RepSs g H (Exl P ms cs) ms xs vs ∧ vs.length = n ∧ PostD g P ms cs H (F xs cs) Q E
/-- a def from its body: n parameters, m names in all -/
def fnEv (n m : Nat) (b : BF) : FF := fun xs cs => match b (xs.map some ++ List.replicate (m - n) none) cs with
  | .rt v cs' => .ok v (cs'.take cs.length)
  | .nx _ cs' => .ok .non (cs'.take cs.length)
  | .exc e _ cs' => .exc e (cs'.take cs.length)
  | _ => .stuck
section
variable {g : Gx} {P : Addr → Prop} {ms ms1 : List Addr} {cs cs1 : Cs} {H H1 : Hp} {N : Addr → Prop}
theorem RepSs.length : ∀ {xs : List SV} {vs : List V}, RepSs g H N ms xs vs → xs.length = vs.length
  | [], _, h => by simp only [RepSs] at h; subst h; rfl
  | .val x :: xs, _, h => by
    simp only [RepSs] at h
    obtain ⟨v, r, e, _, h2⟩ := h
    subst e
    simp [RepSs.length h2]
  | .cel i :: xs, _, h => by
    simp only [RepSs] at h
    obtain ⟨v, r, e, _, h2⟩ := h
    subst e
    simp [RepSs.length h2]
theorem RepSs.get : ∀ {xs : List SV} {vs : List V} {i : Nat} {s : SV}, RepSs g H (Exl P ms cs) ms xs vs → xs[i]? = some s → ∃ v, vs[i]? = some v ∧ RepS g H P ms cs s v
  | [], _, _, _, _, e => by simp at e
  | .val x :: xs, _, 0, p, h, e => by
    simp only [RepSs] at h
    obtain ⟨v, r, e', h1, h2⟩ := h
    subst e'
    simp at e; subst e
    exact ⟨v, rfl, h1⟩
  | .cel x :: xs, _, 0, p, h, e => by
    simp only [RepSs] at h
    obtain ⟨v, r, e', h1, h2⟩ := h
    subst e'
    simp at e; subst e
    exact ⟨_, rfl, v, h1, rfl⟩
  | .val x :: xs, _, i + 1, p, h, e => by
    simp only [RepSs] at h
    obtain ⟨v, r, e', h1, h2⟩ := h
    subst e'
    obtain ⟨w, e1, e2⟩ := RepSs.get (i := i) h2 (by simpa using e)
    exact ⟨w, by simpa using e1, e2⟩
  | .cel x :: xs, _, i + 1, p, h, e => by
    simp only [RepSs] at h
    obtain ⟨v, r, e', h1, h2⟩ := h
    subst e'
    obtain ⟨w, e1, e2⟩ := RepSs.get (i := i) h2 (by simpa using e)
    exact ⟨w, by simpa using e1, e2⟩
theorem Slots.start {m : Nat} {xs : List SV} {vs : List V} {Nn : List Str} (h : RepSs g H (Exl P ms cs) ms xs vs) (hm : Nn.length = m) (hn : vs.length ≤ m) :
    Slots g H P ms cs (xs.map some ++ List.replicate (m - vs.length) none) (L2.start Nn vs) := by
  have hl := h.length
  refine ⟨by simp [L2.start, hm, hl], fun i s e => ?_⟩
  by_cases hi : i < xs.length
  · rw [List.getElem?_append_left (by simpa using hi), List.getElem?_map] at e
    cases ex : xs[i]? with
    | none => rw [ex] at e; cases e
    | some t =>
      rw [ex] at e
      cases e
      obtain ⟨v, e1, e2⟩ := h.get ex
      refine ⟨v, ?_, e2⟩
      unfold L2.start
      rw [List.getElem?_append_left (by simp; omega), List.getElem?_map, e1]
      rfl
  · rw [List.getElem?_append_right (by simpa using hi), List.getElem?_replicate] at e
    split at e <;> cases e
/-- behind a call the callee's own cells are forgotten -/
theorem Aft.back (A : Aft g P ms cs H P ms1 cs1 H1) (R : Rel g H P ms cs) : Aft g P ms cs H P ms (cs1.take cs.length) H1 := by
  have e : ∀ i a, ms[i]? = some a → ms1[i]? = some a := A.pre
  have hlen : cs.length ≤ cs1.length := A.le
  have tk : ∀ {i c}, (cs1.take cs.length)[i]? = some c → cs1[i]? = some c := fun {i c} h => by
    rw [List.getElem?_take] at h
    split at h
    · exact h
    · cases h
  have less : ∀ b, Exl P ms (cs1.take cs.length) b → Exl P ms1 cs1 b := fun b hb => hb.imp id (fun ⟨i, c, h1, h2, h3⟩ => ⟨i, c, e i b h1, tk h2, h3⟩)
  refine ⟨fun _ _ h => h, fun i h => ?_, by simp; omega, fun i a h hl => (by rw [List.getElem?_eq_none hl] at h; cases h), A.frame, A.there, fun _ h => .inl h,
    ⟨by rw [List.length_take, R.len]; omega, R.inj, fun i a c h1 h2 => (A.rel.cells i a c (e i a h1) (tk h2)).less less, A.rel.priv, fun i a h => A.there a (R.msin i a h), R.apart, A.rel.tabs⟩⟩
  have hi : i < cs.length := (List.getElem?_eq_some_iff.mp h).1
  rw [List.getElem?_take_of_lt hi]
  exact A.dead i h
theorem exl_back (A : Aft g P ms cs H P ms1 cs1 H1) : ∀ b, Exl P ms (cs1.take cs.length) b → Exl P ms1 cs1 b := fun b hb => hb.imp id (fun ⟨i, c, h1, h2, h3⟩ => ⟨i, c, A.pre i b h1, (by
    rw [List.getElem?_take] at h2
    split at h2
    · exact h2
    · cases h2), h3⟩)
theorem ExR.less {N' : Addr → Prop} (hN : ∀ a, N' a → N a) {e : Exn} {c : Value} {d : Option Addr} (h : ExR g H N e c d) : ExR g H N' e c d :=
  ⟨h.1, h.2.imp id fun ⟨dd, fs, h0, h1, h2, h3, h4⟩ => ⟨dd, fs, h0, h1, h2, h3, h4.less hN⟩⟩
end

/-- how a def's body stands -/
structure InDef (X : Cx) (Pr : Program) (w : World) (mg : Str → Option Value) (base : Heap) (N : List Str) (scope : Scope) (qual : Str) : Prop where
  prog : X.prog = Pr
  w : X.w = w
  mg : X.mg = mg
  base : X.base = base
  N : X.N = N
  scope : X.env.scope = scope
  qua : X.env.qual = qual ++ ".<locals>."
  fn : X.fn = (fun _ => true)
  code : PySem.W.codeIn X.K X.env.code qual = true
  pass : PassesOwn (model X.prog X.w) X.A X.env X.xe
  stk : X.stack = X.env :: X.outer
  frm : X.env.frame = some X.env.locals
  ex : X.ex = []
/-- THE RULE of a def that may raise: its body's mirror -/
theorem fn_ev {g : Gx} {Pr : Program} {w : World} {mg : Str → Option Value} {base : Heap} {x qual : Str} {params : Arguments} {body : List Stmt} {scope : Scope} {dvs : List V} {kws : List (Str × V)} {f : Addr} {fd : FuncData} {N ps : List Str} {k n m : Nat} {b : BF}
    (F : FunD g.K x qual params body scope dvs kws f fd) (S : FnScope N ps scope) (hn : ps.length = n) (hm : N.length = m)
    (hb : ∀ (X : Cx) (W : WX), Ok g X W k → InDef X Pr w mg base N scope qual → SB g X W body b) :
    FnOk Pr w g.K mg base (L2N.CX Pr w) (k + 1) f fd ps (spEv g n (fnEv n m b)) := by
  have hnm : n ≤ m := by
    have := congrArg List.length S.pre
    rw [List.length_take] at this
    omega
  obtain ⟨oc, od, dV, kV, doc, pm, an, cdv, ct, osl, rfl, lk, hcd, _, _⟩ := F.ex
  refine fn_of lk hcd S (fun vs H Q E ⟨P, ms, cs, xs, _, _, h, _⟩ => h.trans hn.symm) fun A outer s H vs Q E hr h => ?_
  obtain ⟨P, ms, cs, xs, R, hx, hl, hp⟩ := h
  have tk : L2N.Takes (cxOf (L2N.CX Pr w) Pr w g.K mg base N qual scope f cdv A outer s H E) (fun cls d _ H => E cls d H) := L2N.takes_of rfl rfl rfl rfl
  have ok : Ok g (cxOf (L2N.CX Pr w) Pr w g.K mg base N qual scope f cdv A outer s H E) (fun cls d _ H => E cls d H) k := ⟨rfl, rfl, S.nd, tk, hr⟩
  refine ⟨_, hb _ _ ok ⟨rfl, rfl, rfl, rfl, rfl, rfl, rfl, rfl, hcd, passes_of rfl, rfl, rfl, rfl⟩, P, ms, cs, _, ⟨R, Slots.start (m := m) hx hm (by omega)⟩, ?_⟩
  rw [hl]
  unfold fnEv at hp
  revert hp
  cases b (xs.map some ++ List.replicate (m - n) none) cs with
  | nx s c => exact fun hp ms' H' σ' B q => hp H' .non (B.back R) (by simp only [Rep])
  | rt v c => exact fun hp ms' H' vv B q => hp H' vv (B.back R) (q.less (exl_back B))
  | exc e s c => exact fun hp ms' H' σ' c' d B q1 q2 => hp H' c' d (B.back R) (q2.less (exl_back B))
  | bk s c => exact fun hp => False.elim hp
  | ct s c => exact fun hp => False.elim hp
  | rtF s c => exact fun hp => hp.elim
  | stuck => exact fun hp => hp

/-! ### calls -/
def zNil : SF := fun _ cs => .ok [] cs
def zVal (f : EF) (r : SF) : SF := fun sg cs => (f sg cs).bind fun x cs1 => (r sg cs1).bind fun xs cs2 => .ok (.val x :: xs) cs2
/-- a changing object handed on -/
def zCel (i : Nat) (r : SF) : SF := fun sg cs => match sg[i]? with
  | some (some (.cel j)) => (r sg cs).bind fun xs cs2 => .ok (.cel j :: xs) cs2
  | _ => .stuck
section
variable {g : Gx} {X : Cx} {W : WX} {e : Expr} {es : List Expr} {fe : EF} {fs : SF} {pos : Pos}
theorem sz_nil : SSA g X W [] zNil := pa_nil.imp fun σ H Q ⟨P, ms, cs, sg, A, h⟩ => h ms H [] (.refl A.rel) (by simp only [RepSs])
theorem sz_val (ha : SE g X W e fe) (hr : SSA g X W es fs) (hs : starEach (e :: es) X.env = (false, eval e X.env) :: starEach es X.env := by rfl) : SSA g X W (e :: es) (zVal fe fs) :=
  (pa_cons ha hr hs).imp fun σ H Q ⟨P, ms, cs, sg, A, h⟩ => by
    refine ⟨P, ms, cs, sg, A, ?_⟩
    have h1 := Post.bind (Rp := RpV g) A.rel h
    revert h1
    cases fe sg cs with
    | stuck => exact id
    | exc e cs' => exact id
    | ok v cs' =>
      intro h1 ms' H' vv B q
      obtain ⟨ms1, cs1, x, A1, q1, h2⟩ := h1 ms' H' vv B q
      refine ⟨P, ms1, cs1, sg, A.aft A1, ?_⟩
      have h3 := Post.bind (Rp := RpS g) (A.aft A1).rel h2
      revert h3
      cases fs sg cs1 with
      | stuck => exact id
      | exc e cs' => exact id
      | ok w cs2' =>
        intro h3 ms2' H2' ww B2 q2
        obtain ⟨ms2, cs2, y, A2, q3, h4⟩ := h3 ms2' H2' ww B2 q2
        refine h4 ms2 H2' _ (.refl A2.rel) ?_
        simp only [RepSs]
        exact ⟨_, _, rfl, q1.aft (A.aft A1).rel A2, q3⟩
theorem sz_cel {i : Nat} {x : Str} {pos' : Pos} (hN : X.N[i]? = some x) (hv : Vis X.env.scope x) (hr : SSA g X W es fs) (hd : (x == ("__debug__" : Str)) = false := by decide) (hcd : (x == ("__classdict__" : Str)) = false := by decide)
    (hs : starEach (.Name x pos' :: es) X.env = (false, eval (.Name x pos') X.env) :: starEach es X.env := by rfl) : SSA g X W (.Name x pos' :: es) (zCel i fs) :=
  (pa_cons (pe_var hN hv hd hcd) hr hs).imp fun σ H Q ⟨P, ms, cs, sg, A, h⟩ => by
    unfold zCel at h
    split at h
    · rename_i j hj
      obtain ⟨y, e1, a, e2, e3⟩ := A.sl.at_ _ _ hj
      refine ⟨y, e1, P, ms, cs, sg, A, ?_⟩
      have h3 := Post.bind (Rp := RpS g) A.rel h
      revert h3
      cases fs sg cs with
      | stuck => exact id
      | exc e cs' => exact id
      | ok w cs2' =>
        intro h3 ms2' H2' ww B2 q2
        obtain ⟨ms2, cs2, y', A2, q3, h4⟩ := h3 ms2' H2' ww B2 q2
        refine h4 ms2 H2' _ (.refl A2.rel) ?_
        simp only [RepSs]
        exact ⟨a, _, by rw [e3], A2.pre _ _ e2, q3⟩
    · exact h.elim
def eFn (F : FF) (as : SF) : EF := fun sg cs => (as sg cs).bind fun xs cs1 => F xs cs1
theorem rdE_fn {n : Nat} {F : FF} {σ : L2.St} {H : Hp} {Q : VK} (hz : ∀ sg cs xs cs', fs sg cs = .ok xs cs' → xs.length = n) (h : rdE g (eFn F fs) W σ H Q) : tCallS (spEv g n F) (WE W) (rdSA g fs W) σ H Q := by
  obtain ⟨P, ms, cs, sg, A, h⟩ := h
  refine ⟨P, ms, cs, sg, A, ?_⟩
  unfold eFn at h
  have hz' := hz sg cs
  revert h hz'
  cases fs sg cs with
  | stuck => exact fun h _ => h
  | exc e cs' => exact fun h _ => h
  | ok v cs1 =>
    intro h hz' ms1 H1 vv A1 q1
    refine ⟨P, ms1, cs1, v, A1.rel, q1, by rw [← q1.length]; exact hz' v cs1 rfl, ?_⟩
    simp only [Res.bind] at h
    revert h
    cases F v cs1 with
    | stuck => exact id
    | exc e cs2 => exact fun h H2 c d A2 q2 => h ms1 H2 c d (A1.trans A2 A.rel) q2
    | ok w cs2 => exact fun h H2 ww A2 q2 => h ms1 H2 ww (A1.trans A2 A.rel) q2
/-- f(e, ..) of a def of the text -/
theorem se_fn {n k : Nat} {f : Addr} {fd : FuncData} {ps : List Str} {F : FF} {x : Str} {p : Pos} {W : WX} (G : FnOk X.prog X.w X.K X.mg X.base (L2N.CX X.prog X.w) k f fd ps (spEv g n F)) (ok : L2N.Takes X W) (hr : Room k X.A) (hg : Gl X x) (hm : X.mg x = some (.ref f)) (hk : PySem.W.keepIn X.K (.ref f) = true) (hb : Binds X.K fd ps [])
    (ha : SSA g X W (e :: es) fs) (hz : ∀ sg cs xs cs', fs sg cs = .ok xs cs' → xs.length = n) (hdb : (x == ("__debug__" : Str)) = false := by decide) (he : starEach (e :: es) X.env = (false, eval e X.env) :: starEach es X.env := by rfl) (hpl : (backTo pos (starEach es X.env)).any (·.1) = false := by rfl) :
    SE g X W (.Call (.Name x p) (e :: es) [] pos) (eFn F fs) :=
  (pe_callS G hr hg hm hk hb (fun σ => L2N.passAt ok σ) ha hdb he hpl).imp fun _ _ _ h => rdE_fn hz h
end
end Ev

set_option Elab.async false
set_option linter.all false
set_option maxRecDepth 100000
set_option maxHeartbeats 4000000
/-! Ev: targets, for, while, comprehensions. -/
namespace Ev
open PySem PySem.Spec PyProof.Rows L2

abbrev GF := PV → Sg → Option Sg
/-- all slots but some are kept -/
structure Only (is : List Nat) (σ σ' : L2.St) : Prop where
  len : σ'.length = σ.length
  at_ : ∀ j, j ∉ is → σ'[j]? = σ[j]?
theorem Only.refl (is : List Nat) (σ : L2.St) : Only is σ σ := ⟨rfl, fun _ _ => rfl⟩
theorem Only.trans {is : List Nat} {a b c : L2.St} (h : Only is a b) (k : Only is b c) : Only is a c := ⟨k.len.trans h.len, fun j hj => (k.at_ j hj).trans (h.at_ j hj)⟩
/-- a target: the slots that it stores -/
structure SG (g : Gx) (X : Cx) (tg : Expr) (is : List Nat) (f : GF) : Prop where
  ex : ∃ t : TG, PG X tg t ∧ ∀ (P : Addr → Prop) (ms : List Addr) (cs : Cs) (sg sg' : Sg) (σ : L2.St) (H : Hp) (v : PV) (x : V) (Q : L2.St → Hp → Prop), At g P ms cs sg σ H → Rep g H (Exl P ms cs) v x → f v sg = some sg' →
    (∀ σ', Slots g H P ms cs sg' σ' → Only is σ σ' → Q σ' H) → t x σ H Q
structure SGs (g : Gx) (X : Cx) (tg : List Expr) (is : List Nat) (f : List PV → Sg → Option Sg) : Prop where
  ex : ∃ t : TGs, PGs X tg t ∧ ∀ (P : Addr → Prop) (ms : List Addr) (cs : Cs) (sg sg' : Sg) (σ : L2.St) (H : Hp) (v : List PV) (x : List V) (Q : L2.St → Hp → Prop), At g P ms cs sg σ H → Reps g H (Exl P ms cs) v x → f v sg = some sg' →
    (∀ σ', Slots g H P ms cs sg' σ' → Only is σ σ' → Q σ' H) → t x σ H Q
def gN (i : Nat) : GF := fun v sg => some (sg.set i (some (.val v)))
def gNil_ : List PV → Sg → Option Sg := fun vs sg => match vs with
  | [] => some sg | _ => none
def gCons_ (f : GF) (r : List PV → Sg → Option Sg) : List PV → Sg → Option Sg := fun vs sg => match vs with
  | v :: vs => (f v sg).bind fun sg1 => r vs sg1
  | [] => none
def gT (n : Nat) (f : List PV → Sg → Option Sg) : GF := fun v sg => match v with
  | .tup xs => if xs.length = n then f xs sg else none
  | _ => none
section
variable {g : Gx} {X : Cx} {W : WX} {pos : Pos} {e : Expr} {es : List Expr} {is js : List Nat}
theorem sg_name {i : Nat} {x : Str} (hN : X.N.Nodup) (hi : X.N[i]? = some x) (hx : Loc X.env.scope x) (hf : X.fn x = true ∨ X.env.scope.names.lookup x = some .local := by first | exact .inl rfl | exact .inr rfl | assumption) : SG g X (.Name x pos) [i] (gN i) :=
  ⟨_, pg_name hN hi hx hf, fun P ms cs sg sg' σ H v y Q A r e q => by
    cases e
    refine q _ (A.sl.set r) ⟨by simp, fun j hj => ?_⟩
    rw [List.getElem?_set_ne (fun e => hj (by simp [e]))]⟩
theorem sgs_nil : SGs g X [] [] gNil_ := ⟨_, pgs_nil, fun P ms cs sg sg' σ H v y Q A r e q => by
    cases v with
    | nil => simp only [Reps] at r; cases e; exact ⟨r, q σ A.sl (.refl _ _)⟩
    | cons a b => cases e⟩
theorem sgs_cons {f : GF} {r : List PV → Sg → Option Sg} (h : SG g X e is f) (k : SGs g X es js r) (hs : (assignEach (e :: es) X.env).map (·.2) = assign e X.env :: (assignEach es X.env).map (·.2) := by rfl) : SGs g X (e :: es) (is ++ js) (gCons_ f r) := by
  obtain ⟨t, h1, h2⟩ := h
  obtain ⟨u, k1, k2⟩ := k
  refine ⟨_, pgs_cons h1 k1 hs, fun P ms cs sg sg' σ H v y Q A rr e q => ?_⟩
  cases v with
  | nil => cases e
  | cons a b =>
    simp only [Reps] at rr
    obtain ⟨w, ws, e1, r1, r2⟩ := rr
    refine ⟨w, ws, e1, ?_⟩
    simp only [gCons_] at e
    cases hf : f a sg with
    | none => rw [hf] at e; cases e
    | some sg1 =>
      rw [hf] at e
      refine h2 P ms cs sg sg1 σ H a w _ A r1 hf fun σ1 S1 O1 => ?_
      refine k2 P ms cs sg1 sg' σ1 H b ws Q ⟨A.rel, S1⟩ r2 e fun σ2 S2 O2 => q σ2 S2 ⟨O2.len.trans O1.len, fun j hj => ?_⟩
      simp only [List.mem_append, not_or] at hj
      rw [O2.at_ j hj.2, O1.at_ j hj.1]
theorem sg_tup {r : List PV → Sg → Option Sg} {n k : Nat} (hc : X.calm = true) (hK : X.K = g.K) (h : SGs g X es is r) (hn : (assignEach es X.env).length = n := by rfl) (hst : (assignEach es X.env).findIdx? (·.1) = none := by rfl) : SG g X (.Tuple es k pos) is (gT n r) := by
  obtain ⟨u, k1, k2⟩ := h
  refine ⟨_, pg_tup hc k1 hn hst, fun P ms cs sg sg' σ H v y Q A rr e q => ?_⟩
  cases v with
  | tup xs =>
    simp only [gT] at e
    split at e
    · rename_i hl
      simp only [Rep] at rr
      obtain ⟨a, vs, e1, h1, h2⟩ := rr
      refine ⟨a, vs, e1, by rw [hK]; exact h1, by rw [← h2.length]; exact hl, ?_⟩
      exact k2 P ms cs sg sg' σ H xs vs Q A h2 e q
    · cases e
  | _ => cases e

/-! ### what is walked -/
/-- J walks things that stand for xs, wherever these stand -/
def Walks (g : Gx) (H : Hp) (N : Addr → Prop) (xs : List PV) (J : It) : Prop := ∀ H2 N2, Car H N H2 N2 → (∀ i x, xs[i]? = some x → J.go i H2 ∧ ∀ v H3, J.yld i H2 v H3 → (∀ b o, H2 b = some o → H3 b = some o) ∧ Rep g H3 N2 x v) ∧ J.stop xs.length H2
def PostI (g : Gx) (P : Addr → Prop) (ms : List Addr) (cs : Cs) (H : Hp) (r : Res (List PV)) (R : It → Hp → Prop) (W : Value → Option Addr → Hp → Prop) : Prop :=
  match r with
  | .ok xs cs' => ∀ ms' H' J, Aft g P ms cs H P ms' cs' H' → Walks g H' (Exl P ms' cs') xs J → R J H'
  | .exc e cs' => ∀ ms' H' c d, Aft g P ms cs H P ms' cs' H' → ExR g H' (Exl P ms' cs') e c d → W c d H'
  | .stuck => False
def rdI (g : Gx) (f : AF) (W : WX) : TI := fun σ H R => ∃ P ms cs sg, At g P ms cs sg σ H ∧ PostI g P ms cs H (f sg cs) R fun c d H' => W c d σ H'
/-- tg in iter -/
abbrev SI (g : Gx) (X : Cx) (W : WX) (tg iter : Expr) (f : AF) : Prop := PI X tg iter (rdI g f W)
theorem _root_.L2.PI.imp {X : Cx} {tg e : Expr} {t t' : TI} (h : PI X tg e t) (i : ∀ σ H R, t' σ H R → t σ H R) : PI X tg e t' := ⟨fun pins s σ H R I q => h.run pins s σ H R I (i σ H R q)⟩

/-! ### for -/
def forL (tg : GF) (body : BF) : List PV → BF
  | [], sg, cs => .nx sg cs
  | x :: xs, sg, cs => match tg x sg with
    | none => .stuck
    | some sg1 => match body sg1 cs with
      | .nx s c => forL tg body xs s c
      | .ct s c => forL tg body xs s c
      | .bk s c => .nx s c
      | r => r
def sFor (it : AF) (tg : GF) (body : BF) : BF := fun sg cs => (it sg cs).st sg fun xs cs' => forL tg body xs sg cs'
theorem Aft.carX {P : Addr → Prop} {ms ms1 : List Addr} {cs cs1 : Cs} {H H1 : Hp} (A : Aft g P ms cs H P ms1 cs1 H1) (R : Rel g H P ms cs) : Car H (Exl P ms cs) H1 (Exl P ms1 cs1) := A.car R
theorem Car.trans {H H1 H2 : Hp} {N N1 N2 : Addr → Prop} (a : Car H N H1 N1) (b : Car H1 N1 H2 N2) : Car H N H2 N2 :=
  ⟨fun x vs h => b.tup x vs (a.tup x vs h), fun x o h n ht => b.oth x o (a.oth x o h n ht) (fun z => n (a.shut x (by rw [h]; exact fun z => nomatch z) z)) ht,
    fun x h n => a.shut x h (b.shut x (a.there x h) n), fun x h => b.there x (a.there x h)⟩
theorem Walks.car {H H1 : Hp} {N N1 : Addr → Prop} {xs : List PV} {J : It} (w : Walks g H N xs J) (c : Car H N H1 N1) : Walks g H1 N1 xs J := fun H2 N2 c2 => w H2 N2 (c.trans c2)

theorem ss_for {iter tg : Expr} {body : List Stmt} {fi : AF} {ft : GF} {fb : BF} (hp : PassesOwn (model X.prog X.w) X.A X.env X.xe) (hc : X.calm = true) (hi : SI g X W tg iter fi) (hg : SG g X tg is ft) (hb : SB g X W body fb)
    (hs : ∀ x, foldedSetIterable iter X.env x = pure x := by intro _; rfl) : SS g X W (.For tg iter body [] pos) (sFor fi ft fb) := by
  obtain ⟨t, g1, g2⟩ := hg
  refine PS.imp (ps_for hp hc hi g1 hb hs) fun D σ H ⟨P, ms, cs, sg, A, h⟩ => ?_
  refine ⟨P, ms, cs, sg, A, ?_⟩
  unfold sFor at h
  revert h
  cases fi sg cs with
  | stuck => exact fun h => h
  | exc e c => exact fun h ms' H' c' d B q => h ms' H' σ c' d B (A.sl.aft A.rel B) q
  | ok xs cs1 =>
    intro h ms1 H1 J A1 wk
    -- what is left to do at turn i
    refine ⟨fun i m σ' H' => ∃ ms' cs' sg', At g P ms' cs' sg' σ' H' ∧ Walks g H' (Exl P ms' cs') xs J ∧ m + i = xs.length ∧ PostS g P ms' cs' H' (forL ft fb (xs.drop i) sg' cs') D W,
      ⟨xs.length, ms1, cs1, sg, A.aft A1, wk, rfl, PostS.shift A.rel A1 h⟩, ?_⟩
    rintro i m σ2 H2 ⟨ms2, cs2, sg2, A2, wk2, hm, h2⟩
    have w2 := wk2 H2 _ (Car.ext fun _ _ h => h)
    cases hx : xs[i]? with
    | none =>
      left
      have hl : xs.length ≤ i := List.getElem?_eq_none_iff.mp hx
      rw [List.drop_eq_nil_of_le hl] at h2
      exact ⟨by rw [show i = xs.length by omega]; exact w2.2, h2 ms2 H2 σ2 (.refl A2.rel) A2.sl⟩
    | some x =>
      right
      obtain ⟨go, yl⟩ := w2.1 i x hx
      have hlt : i < xs.length := (List.getElem?_eq_some_iff.mp hx).1
      have hd : xs.drop i = x :: xs.drop (i + 1) := by
        rw [List.drop_eq_getElem_cons hlt]
        congr 1
        exact (List.getElem?_eq_some_iff.mp hx).2
      rw [hd] at h2
      refine ⟨go, fun σ' H' => ∃ ms' cs' sg', At g P ms' cs' sg' σ' H' ∧ Walks g H' (Exl P ms' cs') xs J ∧ PostS g P ms' cs' H' (forL ft fb (xs.drop (i + 1)) sg' cs') D W, ?_, ?_⟩
      · rintro σ' H' ⟨ms', cs', sg', a1, a2, a3⟩
        exact ⟨m - 1, by omega, ms', cs', sg', a1, a2, by omega, a3⟩
      · intro v H3 hy
        obtain ⟨ex, rx⟩ := yl v H3 hy
        have E3 := Aft.ext ex A2.rel
        have A3 := A2.aft E3
        have wk3 := wk2.car (E3.car A2.rel)
        have h3 := PostS.shift A2.rel E3 h2
        simp only [forL] at h3
        cases ht : ft x sg2 with
        | none => rw [ht] at h3; exact h3.elim
        | some sg3 =>
          rw [ht] at h3
          refine g2 P ms2 cs2 sg2 sg3 σ2 H3 x v _ A3 rx ht fun σ3 S3 _ => ⟨P, ms2, cs2, sg3, ⟨A3.rel, S3⟩, ?_⟩
          dsimp only at h3
          revert h3
          cases fb sg3 cs2 with
          | nx s c => exact fun h3 ms' H' σ' B q => ⟨ms', c, s, ⟨B.rel, q⟩, wk3.car (B.car A3.rel), PostS.shift A3.rel B h3⟩
          | ct s c => exact fun h3 ms' H' σ' B q => ⟨ms', c, s, ⟨B.rel, q⟩, wk3.car (B.car A3.rel), PostS.shift A3.rel B h3⟩
          | bk s c => exact fun h3 => h3
          | rt v c => exact fun h3 => h3
          | rtF v c => exact fun h3 => h3
          | exc e s c => exact fun h3 => h3
          | stuck => exact fun h3 => h3

/-! ### while -/
def whileL (t : TF) (body : BF) : Nat → BF
  | 0, _, _ => .stuck
  | n + 1, sg, cs => (t sg cs).st sg fun b cs' => match b with
    | false => .nx sg cs'
    | true => match body sg cs' with
      | .nx s c => whileL t body n s c
      | .ct s c => whileL t body n s c
      | .bk s c => .nx s c
      | r => r
theorem ss_while {c : Expr} {body : List Stmt} {ft : TF} {fb : BF} {n : Nat} (hp : PassesOwn (model X.prog X.w) X.A X.env X.xe) (hc : ST g X W c ft) (hb : SB g X W body fb) : SS g X W (.While c body [] pos) (whileL ft fb n) :=
  PS.imp (ps_while hp hc hb) fun D σ H ⟨P, ms, cs, sg, A, h⟩ => by
    refine ⟨fun m σ' H' => ∃ ms' cs' sg', At g P ms' cs' sg' σ' H' ∧ PostS g P ms' cs' H' (whileL ft fb m sg' cs') D W, ⟨n, ms, cs, sg, A, h⟩, ?_⟩
    rintro m σ2 H2 ⟨ms2, cs2, sg2, A2, h2⟩
    cases m with
    | zero => exact h2.elim
    | succ m =>
      refine ⟨P, ms2, cs2, sg2, A2, ?_⟩
      simp only [whileL] at h2
      revert h2
      cases ft sg2 cs2 with
      | stuck => exact fun h => h
      | exc e c => exact fun h ms' H' c' d B q => h ms' H' σ2 c' d B (A2.sl.aft A2.rel B) q
      | ok b c =>
        intro h3 ms3 H3 vv B q
        obtain rfl : vv = b := q
        cases vv with
        | false => rw [if_neg Bool.false_ne_true]; exact h3 ms3 H3 σ2 B (A2.sl.aft A2.rel B)
        | true =>
          rw [if_pos rfl]
          have h4 := PostS.shift A2.rel B h3
          refine ⟨fun σ' H' => ∃ ms' cs' sg', At g P ms' cs' sg' σ' H' ∧ PostS g P ms' cs' H' (whileL ft fb m sg' cs') D W, fun σ' H' z => ⟨m, Nat.lt_succ_self m, z⟩, P, ms3, c, sg2, A2.aft B, ?_⟩
          revert h4
          simp only [Res.st]
          cases fb sg2 c with
          | nx s c' => exact fun h4 ms' H' σ' C q => ⟨ms', c', s, ⟨C.rel, q⟩, PostS.shift B.rel C h4⟩
          | ct s c' => exact fun h4 ms' H' σ' C q => ⟨ms', c', s, ⟨C.rel, q⟩, PostS.shift B.rel C h4⟩
          | bk s c' => exact fun h4 => h4
          | rt v c' => exact fun h4 => h4
          | rtF v c' => exact fun h4 => h4
          | exc e s c' => exact fun h4 => h4
          | stuck => exact fun h4 => h4
end
end Ev

set_option Elab.async false
set_option linter.all false
set_option maxRecDepth 100000
set_option maxHeartbeats 4000000
/-! Ev: list comprehensions (one clause). -/
namespace Ev
open PySem PySem.Spec PyProof.Rows L2

/-! ### slots forgotten -/
def wipeS (sg : Sg) : List Nat → Sg
  | [] => sg
  | v :: vs => (wipeS sg vs).set v none
theorem wipe_at {σ : L2.St} : ∀ {vs : List Nat} {j : Nat}, (wipe σ vs)[j]? = if j ∈ vs then (if j < σ.length then some none else none) else σ[j]?
  | [], j => by simp [wipe]
  | v :: vs, j => by
    unfold wipe
    have ih := wipe_at (σ := σ) (vs := vs) (j := j)
    by_cases h : v = j
    · subst h
      rw [List.getElem?_set]
      simp only [List.mem_cons, true_or, if_true, wipe_length]
    · rw [List.getElem?_set_ne h, ih]
      have : (j ∈ v :: vs) = (j ∈ vs) := by simp [Ne.symm h]
      simp only [this]
theorem wipe_only {is vs : List Nat} {σ σ2 : L2.St} (hs : ∀ i ∈ is, i ∈ vs) (o : Only is (wipe σ vs) σ2) : wipe σ2 vs = wipe σ vs := by
  refine List.ext_getElem? fun j => ?_
  rw [wipe_at, wipe_at]
  have hl : σ2.length = σ.length := o.len.trans (wipe_length σ vs)
  by_cases h : j ∈ vs
  · simp [h, hl]
  · simp only [h, if_false]
    rw [o.at_ j (fun z => h (hs j z)), wipe_at]
    simp [h]
theorem Slots.wipe {g : Gx} {H : Hp} {P : Addr → Prop} {ms : List Addr} {cs : Cs} {sg : Sg} {σ : L2.St} (S : Slots g H P ms cs sg σ) : ∀ vs : List Nat, Slots g H P ms cs (wipeS sg vs) (L2.wipe σ vs)
  | [] => S
  | v :: vs => by
    have ih := Slots.wipe S vs
    unfold wipeS L2.wipe
    refine ⟨by simp [ih.len], fun j s e => ?_⟩
    by_cases h : v = j
    · subst h
      rw [List.getElem?_set] at e
      simp only [if_true] at e
      split at e <;> cases e
    · rw [List.getElem?_set_ne h] at e
      obtain ⟨x, e1, e2⟩ := ih.at_ j s e
      exact ⟨x, by rw [List.getElem?_set_ne h]; exact e1, e2⟩

/-! ### a private list grows -/
section
variable {g : Gx} {H H' : Hp} {P P' : Addr → Prop} {ms ms' : List Addr} {cs cs' : Cs} {D : Addr}
theorem tabs_upd {T : List (Addr × Str)} {vs ws : List V} (hD : H D = some (.lst vs)) (t : LamX.Tabs T H) : LamX.Tabs T (upd H D (.lst ws)) := fun p hp => by
  obtain ⟨ps, h1, h2, h3⟩ := t p hp
  have ne : ∀ {b o}, H b = some o → (∀ xs, o ≠ .lst xs) → b ≠ D := fun {b o} h n z => by rw [z, hD] at h; cases h; exact n _ rfl
  refine ⟨ps, by rw [upd_ne (ne h1 (fun xs z => by cases z))]; exact h1, h2, fun pos cv hc => ?_⟩
  obtain ⟨c, e1, e2⟩ := h3 pos cv hc
  exact ⟨c, e1, by rw [upd_ne (ne e2 (fun xs z => by unfold LamX.CodeO at z; cases z))]; exact e2⟩
theorem car_upd {vs ws : List V} {N : Addr → Prop} (hD : H D = some (.lst vs)) (hN : N D) : Car H N (upd H D (.lst ws)) N :=
  ⟨fun b xs h => by
    have : b ≠ D := fun z => by rw [z] at h; rcases h with h | ⟨o, h⟩ <;> · rw [hD] at h; cases h
    rcases h with h | ⟨o, h⟩
    · exact .inl (by rw [upd_ne this]; exact h)
    · exact .inr ⟨o, by rw [upd_ne this]; exact h⟩,
  fun b o h n ht => by
    have : b ≠ D := fun z => n (z ▸ hN)
    rw [upd_ne this]; exact h, fun _ _ h => h, fun b h => by
    by_cases hb : b = D
    · rw [hb, upd_same]; exact fun z => nomatch z
    · rw [upd_ne hb]; exact h⟩
theorem Rel.updP {vs ws : List V} (r : Rel g H P ms cs) (hD : H D = some (.lst vs)) (hP : P D) : Rel g (upd H D (.lst ws)) P ms cs := by
  have c := car_upd (ws := ws) (N := Exl P ms cs) hD (.inl hP)
  refine ⟨r.len, r.inj, fun i a k h1 h2 => ?_, fun a h => c.there a (r.priv a h), fun i a h => c.there a (r.msin i a h), r.apart, tabs_upd hD r.tabs⟩
  have hk := r.cells i a k h1 h2
  have ha : a ≠ D := fun z => r.apart i a h1 (z ▸ hP)
  cases k with
  | lst xs => obtain ⟨us, e1, e2⟩ := hk; exact ⟨us, by rw [upd_ne ha]; exact e1, Reps.mono c _ _ e2⟩
  | dK xs => obtain ⟨us, e1, e2⟩ := hk; exact ⟨us, by rw [upd_ne ha]; exact e1, RepK.mono c _ _ e2⟩
  | dead => trivial
theorem Aft.updP {vs ws : List V} (A : Aft g P ms cs H P' ms' cs' H') (h0 : H D = none) (hD : H' D = some (.lst vs)) (hP : P' D) : Aft g P ms cs H P' ms' cs' (upd H' D (.lst ws)) :=
  ⟨A.pre, A.dead, A.le, A.new, fun b o h hl ht => by
    have : b ≠ D := fun z => by rw [z, h0] at h; cases h
    rw [upd_ne this]; exact A.frame b o h hl ht, fun b h => (car_upd (ws := ws) (N := fun a => a = D) hD rfl).there b (A.there b h), A.pri, A.rel.updP hD hP⟩
end

/-- the turns of a comprehension, what is made so far in front (the last first) -/
def compL (tg : GF) (tt : TF) (te : EF) (vs : List Nat) (sg : Sg) : List PV → List PV → Cs → Res (List PV)
  | [], acc, cs => .ok acc cs
  | x :: xs, acc, cs => match tg x (wipeS sg vs) with
    | none => .stuck
    | some sg1 => match tt sg1 cs with
      | .ok true cs1 => (match te sg1 cs1 with
        | .ok y cs2 => compL tg tt te vs sg xs (y :: acc) cs2
        | _ => .stuck)
      | .ok false cs1 => compL tg tt te vs sg xs acc cs1
      | _ => .stuck
def fComp (it : AF) (tg : GF) (tt : TF) (te : EF) (vs : List Nat) : AF := fun sg cs => (it sg cs).bind fun xs cs1 =>
  if xs.length ≤ 16777216 then (compL tg tt te vs sg xs [] cs1).bind fun zs cs2 => .ok zs.reverse cs2 else .stuck
/-- a clause's tests -/
def tYes : TF := fun _ cs => .ok true cs
abbrev STs (g : Gx) (X : Cx) (W : WX) (ifs : List Expr) (f : TF) : Prop := PTs X ifs (rdT g f W)
abbrev W0 : WX := fun _ _ _ _ => False
section
variable {g : Gx} {X : Cx} {W : WX} {pos : Pos} {is : List Nat}
theorem sts_nil : STs g X W [] tYes := by
  refine ⟨fun pins s σ H Q I ⟨P, ms, cs, sg, A, h⟩ => pts_nil.run pins s σ H Q I ?_⟩
  exact h ms H true (.refl A.rel) rfl
theorem sts_one {c : Expr} {t : TF} (h : ST g X W c t) : STs g X W [c] t := pts_one h
theorem takesN0 {X : Cx} : L2N.Takes X (fun _ _ _ _ => False) := fun _ _ x => by
  obtain ⟨_, _, _, _, _, _, _, _, _, _, _, _, _, _, _, _, z⟩ := x
  exact z.elim
/-- the context of a comprehension's block -/
abbrev Blk (X : Cx) (scope : Scope) (s : Shared) (H : Hp) (C : Addr) (cl : List (Str × Addr)) (fp : List Addr) : Cx := X.blk s H scope (compEnvC scope cl C X.env) fp
theorem Ok.blk {k : Nat} (ok : Ok g X W k) (scope : Scope) (s : Shared) (H : Hp) (C : Addr) (cl : List (Str × Addr)) (fp : List Addr) : Ok g (Blk X scope s H C cl fp) W0 k :=
  ⟨ok.K, ok.calm, ok.nd, takesN0, ok.room⟩
theorem comp_read {fi : AF} {ft : GF} {tt : TF} {te : EF} {vs : List Nat} {σ : L2.St} {H : Hp} {Q : VK} {t : TG} (hsub : ∀ i ∈ is, i ∈ vs)
    (g2 : ∀ (P : Addr → Prop) (ms : List Addr) (cs : Cs) (sg sg' : Sg) (σ : L2.St) (H : Hp) (v : PV) (x : V) (Q : L2.St → Hp → Prop), At g P ms cs sg σ H → Rep g H (Exl P ms cs) v x → ft v sg = some sg' →
      (∀ σ', Slots g H P ms cs sg' σ' → Only is σ σ' → Q σ' H) → t x σ H Q) (h : rdF g (fComp fi ft tt te vs) W σ H Q) :
    tLc (rdI g fi W) t (rdT g tt W0) (rdE g te W0) vs σ H Q := by
  obtain ⟨P, ms, cs, sg, A, h⟩ := h
  refine ⟨P, ms, cs, sg, A, ?_⟩
  unfold fComp at h
  revert h
  cases fi sg cs with
  | stuck => exact fun h => h
  | exc e c => exact fun h => h
  | ok xs cs1 =>
    intro h ms1 H1 J A1 wk D hD
    simp only [Res.bind] at h
    by_cases hz : xs.length ≤ 16777216
    case neg => rw [if_neg hz] at h; exact h.elim
    rw [if_pos hz] at h
    have h0 : H D = none := none_back A1 hD
    -- what is left to do at turn i
    refine ⟨fun i m H' => ∃ ms' cs' acc av, Aft g P ms cs H (pls P D) ms' cs' H' ∧ Slots g H' (pls P D) ms' cs' sg σ ∧ Walks g H' (Exl (pls P D) ms' cs') xs J ∧ m + i = xs.length ∧ acc.length ≤ i ∧
        H' D = some (.lst av) ∧ Reps g H' (Exl (pls P D) ms' cs') acc.reverse av ∧ PostF g P ms cs H ((compL ft tt te vs sg (xs.drop i) acc cs').bind fun zs cs2 => .ok zs.reverse cs2) Q (fun c d H' => W c d σ H'), ?_, ?_⟩
    · have B := A1.trans (Aft.fresh (vs := []) A1.rel hD) A.rel
      have C := Aft.fresh (vs := []) A1.rel hD
      exact ⟨xs.length, ms1, cs1, [], [], B, A.sl.aft A.rel B, wk.car (C.car A1.rel), rfl, Nat.le_refl _, upd_same, by simp [Reps], h⟩
    rintro i m H2 ⟨ms2, cs2, acc, av, A2, S2, wk2, hm, hacc, hDv, hr, h2⟩
    have w2 := wk2 H2 _ (Car.ext fun _ _ h => h)
    cases hx : xs[i]? with
    | none =>
      left
      have hl : xs.length ≤ i := List.getElem?_eq_none_iff.mp hx
      rw [List.drop_eq_nil_of_le hl] at h2
      exact ⟨by rw [show i = xs.length by omega]; exact w2.2, h2 ms2 H2 D av h0 A2 hDv hr⟩
    | some x =>
      right
      obtain ⟨go, yl⟩ := w2.1 i x hx
      have hlt : i < xs.length := (List.getElem?_eq_some_iff.mp hx).1
      have hd : xs.drop i = x :: xs.drop (i + 1) := by
        rw [List.drop_eq_getElem_cons hlt]
        congr 1
        exact (List.getElem?_eq_some_iff.mp hx).2
      rw [hd] at h2
      refine ⟨go, fun H' => ∃ ms' cs' acc av, Aft g P ms cs H (pls P D) ms' cs' H' ∧ Slots g H' (pls P D) ms' cs' sg σ ∧ Walks g H' (Exl (pls P D) ms' cs') xs J ∧ acc.length ≤ i + 1 ∧
          H' D = some (.lst av) ∧ Reps g H' (Exl (pls P D) ms' cs') acc.reverse av ∧ PostF g P ms cs H ((compL ft tt te vs sg (xs.drop (i + 1)) acc cs').bind fun zs cs2 => .ok zs.reverse cs2) Q (fun c d H' => W c d σ H'), ?_, ?_⟩
      · rintro H' ⟨ms', cs', acc', av', a1, a2, a3, a4, a5, a6, a7⟩
        exact ⟨m - 1, by omega, ms', cs', acc', av', a1, a2, a3, by omega, a4, a5, a6, a7⟩
      · intro v H3 hy
        obtain ⟨ex, rx⟩ := yl v H3 hy
        have E3 := Aft.ext ex A2.rel
        have A3 := A2.trans E3 A.rel
        have S3 := S2.aft A2.rel E3
        have wk3 := wk2.car (E3.car A2.rel)
        have hD3 := ex D _ hDv
        have hr3 := hr.aft A2.rel E3
        simp only [compL] at h2
        cases hft : ft x (wipeS sg vs) with
        | none => rw [hft] at h2; exact h2.elim
        | some sg1 =>
          rw [hft] at h2
          refine g2 (pls P D) ms2 cs2 (wipeS sg vs) sg1 (wipe σ vs) H3 x v _ ⟨A3.rel, S3.wipe vs⟩ rx hft fun σ4 S4 O4 => ⟨wipe_only hsub O4, pls P D, ms2, cs2, sg1, ⟨A3.rel, S4⟩, ?_⟩
          dsimp only at h2
          revert h2
          have nlive : ∀ {ms' cs'} {H' : Hp}, Rel g H' (pls P D) ms' cs' → ¬ Live ms' cs' D := fun r ⟨i, c, h1, _, _⟩ => r.apart i D h1 (.inr rfl)
          cases htt : tt sg1 cs2 with
          | stuck => exact fun h => h.elim
          | exc e c => exact fun h => h.elim
          | ok b cs3 =>
            intro h3 ms3 H4 bb A4 q
            obtain rfl : bb = b := q
            have D4 := A4.frame D _ hD3 (nlive A3.rel) (fun ps z => by cases z)
            have A4' := A3.trans A4 A.rel
            cases bb with
            | false =>
              rw [if_neg Bool.false_ne_true]
              exact ⟨ms3, cs3, acc, av, A4', S3.aft A3.rel A4, wk3.car (A4.car A3.rel), by omega, D4, hr3.aft A3.rel A4, h3⟩
            | true =>
              rw [if_pos rfl]
              refine ⟨pls P D, ms3, cs3, sg1, ⟨A4.rel, S4.aft A3.rel A4⟩, ?_⟩
              dsimp only at h3
              revert h3
              cases hte : te sg1 cs3 with
              | stuck => exact fun h => h.elim
              | exc e c => exact fun h => h.elim
              | ok y cs4 =>
                intro h4 ms4 H5 yy A5 qy
                have D5 := A5.frame D _ D4 (nlive A4.rel) (fun ps z => by cases z)
                have A5' := A4'.trans A5 A.rel
                have r5 := (hr3.aft A3.rel A4).aft A4.rel A5
                have hlen : av.length < sizeLine := by
                  have := hr.length
                  simp only [List.length_reverse] at this
                  rw [sizeLine_eq]; omega
                have c5 := car_upd (ws := av ++ [yy]) (N := Exl (pls P D) ms4 cs4) D5 (.inl (.inr rfl))
                have U5 := A5'.updP (ws := av ++ [yy]) h0 D5 (.inr rfl)
                refine ⟨av, D5, hlen, ms4, cs4, y :: acc, av ++ [yy], U5, ?_, ?_, by simp; omega, upd_same, ?_, h4⟩
                · have S5 := (S3.aft A3.rel A4).aft A4.rel A5
                  refine ⟨S5.len, fun j s e => ?_⟩
                  obtain ⟨z, e1, e2⟩ := S5.at_ j s e
                  refine ⟨z, e1, ?_⟩
                  cases s with
                  | val p => exact Rep.mono c5 _ _ e2
                  | cel i => exact e2
                · exact ((wk3.car (A4.car A3.rel)).car (A5.car A4.rel)).car c5
                · rw [List.reverse_cons]
                  exact (Reps.mono c5 _ _ r5).append (.one (Rep.mono c5 _ _ qy))
theorem sf_comp {k : Nat} {elt tg iter : Expr} {ifs : List Expr} {scope : Scope} {own : List (Str × Nat)} {fi : AF} {ft : GF} {tt : TF} {te : EF} (ok : Ok g X W k) (hi : SI g X W tg iter fi) (bk : BlkOk X.N X.env.scope scope own) (hsub : ∀ i ∈ is, i ∈ own.map (·.2))
    (hg : ∃ t : TG, (∀ s H C cl fp, PG (Blk X scope s H C cl fp) tg t) ∧ ∀ (P : Addr → Prop) (ms : List Addr) (cs : Cs) (sg sg' : Sg) (σ : L2.St) (H : Hp) (v : PV) (x : V) (Q : L2.St → Hp → Prop), At g P ms cs sg σ H → Rep g H (Exl P ms cs) v x → ft v sg = some sg' →
      (∀ σ', Slots g H P ms cs sg' σ' → Only is σ σ' → Q σ' H) → t x σ H Q)
    (ht : ∀ s H C cl fp, Ok g (Blk X scope s H C cl fp) W0 k → STs g (Blk X scope s H C cl fp) W0 ifs tt) (he : ∀ s H C cl fp, Ok g (Blk X scope s H C cl fp) W0 k → SE g (Blk X scope s H C cl fp) W0 elt te)
    (hs : ∀ x, foldedSetIterable iter X.env x = pure x := by intro _; rfl) : SFr g X W (.ListComp elt [⟨tg, iter, ifs, 0⟩] scope pos) (fComp fi ft tt te (own.map (·.2))) := by
  obtain ⟨t, g1, g2⟩ := hg
  exact (pe_lc ok.calm ok.nd hi bk g1 (fun s H C cl fp => ht s H C cl fp (ok.blk ..)) (fun s H C cl fp => he s H C cl fp (ok.blk ..)) hs).imp fun σ H Q h => comp_read hsub g2 h
end
end Ev

set_option Elab.async false
set_option linter.all false
set_option maxRecDepth 100000
set_option maxHeartbeats 4000000
/-! Ev: operations on plain values, and that Python's operations do just them. -/
namespace Ev
open PySem PySem.Spec PyProof.Rows L2

abbrev big (n : Nat) : Prop := n ≤ 16777216
mutual
/-- data: what == and the order look at -/
def PV.toD : PV → Option PyData
  | .non => some .none
  | .bl b => some (.bool b)
  | .int i => some (.int i)
  | .str s => if PyData.strOk s then some (.str s) else none
  | .tup xs => (PV.toDs xs).map .tuple
  | .lst xs => (PV.toDs xs).map .list
  | .adr _ => none
  | .ty _ => none
  | .dK _ => none
  | .scr _ => none
def PV.toDs : List PV → Option (List PyData)
  | [] => some []
  | x :: xs => match PV.toD x with
    | some d => (PV.toDs xs).map (d :: ·)
    | none => none
end
def shp (d : PyData) : Bool := decide (d.depth ≤ 64)
/-- == -/
def pyEq (x y : PV) : Option Bool := match x, y with
  | .int i, .int j => some (i == j)
  | .bl i, .bl j => some (i == j)
  | _, _ => match x.toD, y.toD with
    | some d, some e => if shp d && shp e then some (PyData.eqv d e) else none
    | _, _ => none
def pEq (x y : PV) : Option PV := (pyEq x y).map .bl
def pNe (x y : PV) : Option PV := (pyEq x y).map fun b => .bl (!b)
def pAdd (x y : PV) : Option PV := match x, y with
  | .int i, .int j => some (.int (i + j))
  | .tup a, .tup b => if a.length + b.length ≤ 16777216 then some (.tup (a ++ b)) else none
  | .lst a, .lst b => if a.length + b.length ≤ 16777216 then some (.lst (a ++ b)) else none
  | .str a, .str b => if a.length + b.length ≤ 16777216 then some (.str (a ++ b)) else none
  | _, _ => none
def lAdd (x y : PV) : Option (List PV) := match x, y with
  | .lst a, .lst b => if a.length + b.length ≤ 16777216 then some (a ++ b) else none
  | _, _ => none
def pSub (x y : PV) : Option PV := match x, y with
  | .int i, .int j => some (.int (i - j))
  | _, _ => none
def small64 (i : Int) : Bool := decide (-(2 ^ 64) < i) && decide (i < 2 ^ 64)
def pMul (x y : PV) : Option PV := match x, y with
  | .int i, .int j => if small64 i || small64 j then some (.int (i * j)) else none
  | _, _ => none
def lMul (x y : PV) : Option (List PV) := match x, y with
  | .lst a, .int k => if -(2 ^ 63) ≤ k ∧ k < 2 ^ 63 ∧ a.length * k.toNat ≤ 16777216 then some (List.replicate k.toNat a).flatten else none
  | _, _ => none
def pDiv (x y : PV) : Option PV := match x, y with
  | .int i, .int j => if 0 < j ∧ j < 1073741824 then some (.int (i / j)) else none
  | _, _ => none
def pMod (x y : PV) : Option PV := match x, y with
  | .int i, .int j => if 0 < j then some (.int (i % j)) else none
  | _, _ => none
def pPow (x y : PV) : Option PV := match x, y with
  | .int i, .int j => if 0 ≤ j ∧ j ≤ 1000000 ∧ i.natAbs < 2 ^ 64 then some (.int (i ^ j.toNat)) else none
  | _, _ => none
def pLt (x y : PV) : Option PV := match x, y with
  | .int i, .int j => some (.bl (decide (i < j)))
  | _, _ => none
def pLe (x y : PV) : Option PV := match x, y with
  | .int i, .int j => some (.bl (decide (i ≤ j)))
  | _, _ => none
def pGt (x y : PV) : Option PV := match x, y with
  | .int i, .int j => some (.bl (decide (j < i)))
  | _, _ => none
def pGe (x y : PV) : Option PV := match x, y with
  | .int i, .int j => some (.bl (decide (j ≤ i)))
  | _, _ => none
def pNeg (x : PV) : Option PV := match x with
  | .int i => some (.int (-i))
  | _ => none
def isNon (x : PV) : Bool := match x with
  | .non => true | _ => false
def pIs (x y : PV) : Option PV := match y with
  | .non => some (.bl (isNon x))
  | .bl b => (match x with | .bl a => some (.bl (a == b)) | _ => none)
  | _ => none
def pIsNot (x y : PV) : Option PV := match y with
  | .non => some (.bl (!isNon x))
  | .bl b => (match x with | .bl a => some (.bl (!(a == b))) | _ => none)
  | _ => none
def pyIn (x y : PV) : Option Bool := match y with
  | .lst xs => match x.toD, PV.toDs xs with
    | some d, some ds => if shp d && shp (.list ds) then some (ds.any fun z => PyData.eqv z d) else none
    | _, _ => none
  | .tup xs => match x.toD, PV.toDs xs with
    | some d, some ds => if shp d && shp (.list ds) then some (ds.any fun z => PyData.eqv z d) else none
    | _, _ => none
  | _ => none
def pIn (x y : PV) : Option PV := (pyIn x y).map .bl
def pNotIn (x y : PV) : Option PV := (pyIn x y).map fun b => .bl (!b)
def pIx (x y : PV) : Option PV := match x, y with
  | .tup xs, .int i => atI xs i
  | .lst xs, .int i => atI xs i
  | .str z, .int i => if z.length ≤ 16777216 then (atI z.cps.toList i).map fun c => .str ⟨#[c]⟩ else none
  | _, _ => none

section
variable {g : Gx} {X : Cx} {W : WX} {k : Nat} {H : Hp} {N : Addr → Prop}
theorem sizeL {n : Nat} (h : n ≤ 16777216) : n ≤ sizeLine := by rw [sizeLine_eq]; exact h
mutual
theorem PV.dp (hK : X.K = g.K) : ∀ (p : PV) (d : PyData) (v : V), p.toD = some d → Rep g H N p v → Dp X.K H v d ∧ d.canLay0 = true
  | .non, d, v, e, r => by simp only [PV.toD] at e; cases e; simp only [Rep] at r; subst r; exact ⟨.non, rfl⟩
  | .bl b, d, v, e, r => by simp only [PV.toD] at e; cases e; simp only [Rep] at r; subst r; exact ⟨.bl b, rfl⟩
  | .int i, d, v, e, r => by simp only [PV.toD] at e; cases e; simp only [Rep] at r; subst r; exact ⟨.int i, rfl⟩
  | .str s, d, v, e, r => by
    simp only [PV.toD] at e
    split at e
    · rename_i h
      cases e; simp only [Rep] at r; subst r
      exact ⟨.str s, h⟩
    · cases e
  | .tup xs, d, v, e, r => by
    simp only [PV.toD, Option.map_eq_some_iff] at e
    obtain ⟨ds, e1, rfl⟩ := e
    simp only [Rep] at r
    obtain ⟨a, vs, rfl, h1, h2⟩ := r
    obtain ⟨k1, k2⟩ := PV.dps hK xs ds vs e1 h2
    exact ⟨.tup (by rw [hK]; exact h1) k1, by simp only [PyData.canLay0]; exact k2⟩
  | .lst xs, d, v, e, r => by
    simp only [PV.toD, Option.map_eq_some_iff] at e
    obtain ⟨ds, e1, rfl⟩ := e
    simp only [Rep] at r
    obtain ⟨a, vs, rfl, h1, _, h2⟩ := r
    obtain ⟨k1, k2⟩ := PV.dps hK xs ds vs e1 h2
    exact ⟨.lst (.of h1) k1, by simp only [PyData.canLay0]; exact k2⟩
  | .adr _, d, v, e, r => by simp only [PV.toD] at e; cases e
  | .ty _, d, v, e, r => by simp only [PV.toD] at e; cases e
  | .dK _, d, v, e, r => by simp only [PV.toD] at e; cases e
  | .scr _, d, v, e, r => by simp only [PV.toD] at e; cases e
theorem PV.dps (hK : X.K = g.K) : ∀ (ps : List PV) (ds : List PyData) (vs : List V), PV.toDs ps = some ds → Reps g H N ps vs → DpAll X.K H vs ds ∧ PyData.canLayAll0 ds = true
  | [], ds, vs, e, r => by simp only [PV.toDs] at e; cases e; simp only [Reps] at r; subst r; exact ⟨.nil, rfl⟩
  | p :: ps, ds, vs, e, r => by
    simp only [PV.toDs] at e
    cases hd : p.toD with
    | none => rw [hd] at e; cases e
    | some d =>
      rw [hd] at e
      simp only [Option.map_eq_some_iff] at e
      obtain ⟨ds', e1, rfl⟩ := e
      simp only [Reps] at r
      obtain ⟨v, r', rfl, h1, h2⟩ := r
      obtain ⟨k1, k2⟩ := PV.dp hK p d v hd h1
      obtain ⟨l1, l2⟩ := PV.dps hK ps ds' r' e1 h2
      exact ⟨.cons k1 l1, by simp only [PyData.canLayAll0, k2, l2, Bool.and_self]⟩
end
theorem PV.dpB (hK : X.K = g.K) (p : PV) (d : PyData) (v : V) (e : p.toD = some d) (r : RepB g H N p v) : Dp X.K H v d ∧ d.canLay0 = true := by
  cases p
  case lst xs =>
    simp only [PV.toD, Option.map_eq_some_iff] at e
    obtain ⟨ds, e1, rfl⟩ := e
    simp only [RepB] at r
    obtain ⟨a, vs, rfl, h1, h2⟩ := r
    obtain ⟨k1, k2⟩ := PV.dps hK xs ds vs e1 h2
    exact ⟨.lst (.of h1) k1, by simp only [PyData.canLay0]; exact k2⟩
  case dK => simp only [PV.toD] at e; cases e
  all_goals exact PV.dp (N := N) hK _ d v e r
theorem shaped_of {d : PyData} (h1 : d.canLay0 = true) (h2 : shp d = true) : SeqAt.shaped d = true := by
  unfold SeqAt.shaped
  rw [h1]
  exact h2
theorem rep_int {i : Int} : Rep g H N (.int i) (.int i) := by simp only [Rep]
theorem rep_bl {i : Bool} : Rep g H N (.bl i) (.bl i) := by simp only [Rep]
theorem rep_str {i : Str} : Rep g H N (.str i) (.str i) := by simp only [Rep]

theorem os_eq (ok : Ok g X W k) : OpR X (compareOp .Eq) (r2 g pEq) := by
  intro pins s σ H vx vy v u Q I rx ry ⟨P, ms, cs, x, y, z, R, hx, hy, hf, hq⟩
  have gen : (match x.toD, y.toD with
    | some d, some e => if shp d && shp e then some (PyData.eqv d e) else none
    | _, _ => none) = pyEq x y → wpAny (model X.prog X.w) X.A (compareOp .Eq v u) (EP X pins σ Q) X.xe s := fun he => by
    unfold pEq at hf
    rw [← he] at hf
    split at hf
    · rename_i d e hd he'
      split at hf
      · rename_i hs
        simp only [Option.map_some, Option.some.injEq] at hf
        subst hf
        rw [Bool.and_eq_true] at hs
        obtain ⟨a1, a2⟩ := PV.dpB ok.K x d vx hd hx
        obtain ⟨b1, b2⟩ := PV.dpB ok.K y e vy he' hy
        exact op_eqD ok.hu pins s σ H vx vy v u Q I rx ry ⟨d, e, a1, b1, shaped_of a2 hs.1, shaped_of b2 hs.2, hq _ _ (.refl R) rep_bl⟩
      · cases hf
    · cases hf
  by_cases hi : ∃ i j, x = .int i ∧ y = .int j
  · obtain ⟨i, j, rfl, rfl⟩ := hi
    simp only [RepB, Rep] at hx hy
    subst hx hy
    simp only [pEq, pyEq, Option.map_some, Option.some.injEq] at hf
    subst hf
    refine op_eq pins s σ H _ _ v u Q I rx ry ⟨rfl, ?_⟩
    rw [dec_int]
    exact hq _ _ (.refl R) rep_bl
  · by_cases hb : ∃ i j, x = .bl i ∧ y = .bl j
    · obtain ⟨i, j, rfl, rfl⟩ := hb
      simp only [RepB, Rep] at hx hy
      subst hx hy
      simp only [pEq, pyEq, Option.map_some, Option.some.injEq] at hf
      subst hf
      refine op_eq pins s σ H _ _ v u Q I rx ry ⟨rfl, ?_⟩
      rw [dec_bl]
      exact hq _ _ (.refl R) rep_bl
    · refine gen ?_
      cases x <;> cases y <;> first | rfl | exact absurd ⟨_, _, rfl, rfl⟩ hi | exact absurd ⟨_, _, rfl, rfl⟩ hb
theorem os_ne (ok : Ok g X W k) : OpR X (compareOp .NotEq) (r2 g pNe) := by
  intro pins s σ H vx vy v u Q I rx ry ⟨P, ms, cs, x, y, z, R, hx, hy, hf, hq⟩
  have gen : (match x.toD, y.toD with
    | some d, some e => if shp d && shp e then some (PyData.eqv d e) else none
    | _, _ => none) = pyEq x y → wpAny (model X.prog X.w) X.A (compareOp .NotEq v u) (EP X pins σ Q) X.xe s := fun he => by
    unfold pNe at hf
    rw [← he] at hf
    split at hf
    · rename_i d e hd he'
      split at hf
      · rename_i hs
        simp only [Option.map_some, Option.some.injEq] at hf
        subst hf
        rw [Bool.and_eq_true] at hs
        obtain ⟨a1, a2⟩ := PV.dpB ok.K x d vx hd hx
        obtain ⟨b1, b2⟩ := PV.dpB ok.K y e vy he' hy
        exact op_neD ok.hu pins s σ H vx vy v u Q I rx ry ⟨d, e, a1, b1, shaped_of a2 hs.1, shaped_of b2 hs.2, hq _ _ (.refl R) rep_bl⟩
      · cases hf
    · cases hf
  by_cases hi : ∃ i j, x = .int i ∧ y = .int j
  · obtain ⟨i, j, rfl, rfl⟩ := hi
    simp only [RepB, Rep] at hx hy
    subst hx hy
    simp only [pNe, pyEq, Option.map_some, Option.some.injEq] at hf
    subst hf
    refine op_ne pins s σ H _ _ v u Q I rx ry ⟨rfl, ?_⟩
    rw [dec_int]
    exact hq _ _ (.refl R) rep_bl
  · by_cases hb : ∃ i j, x = .bl i ∧ y = .bl j
    · obtain ⟨i, j, rfl, rfl⟩ := hb
      simp only [RepB, Rep] at hx hy
      subst hx hy
      simp only [pNe, pyEq, Option.map_some, Option.some.injEq] at hf
      subst hf
      refine op_ne pins s σ H _ _ v u Q I rx ry ⟨rfl, ?_⟩
      rw [dec_bl]
      exact hq _ _ (.refl R) rep_bl
    · refine gen ?_
      cases x <;> cases y <;> first | rfl | exact absurd ⟨_, _, rfl, rfl⟩ hi | exact absurd ⟨_, _, rfl, rfl⟩ hb
/-- two ints by a rule of the layer -/
theorem os_ii {f : Value → Value → Sem Value} {r : R2} {p : PV → PV → Option PV} (ho : OpR X f r)
    (h : ∀ x y z, p x y = some z → ∃ i j, x = .int i ∧ y = .int j ∧ ∀ (H : Hp) (Q : VK), (∀ v, (∀ N, Rep g H N z v) → Q v H) → r (.int i) (.int j) H Q) : OpR X f (r2 g p) := by
  intro pins s σ H vx vy v u Q I rx ry ⟨P, ms, cs, x, y, z, R, hx, hy, hf, hq⟩
  obtain ⟨i, j, rfl, rfl, q⟩ := h x y z hf
  simp only [RepB, Rep] at hx hy
  subst hx hy
  exact ho pins s σ H _ _ v u Q I rx ry (q H Q fun v hv => hq _ _ (.refl R) (hv _))
theorem os_sub : OpR X (binaryOp .Sub) (r2 g pSub) := os_ii op_sub fun x y z h => by
  cases x <;> cases y <;> simp only [pSub] at h <;> cases h
  exact ⟨_, _, rfl, rfl, fun H Q q => ⟨_, _, rfl, rfl, q _ fun N => rep_int⟩⟩
theorem os_mul : OpR X (binaryOp .Mult) (r2 g pMul) := os_ii op_mul fun x y z h => by
  cases x <;> cases y <;> simp only [pMul] at h
  case int.int i j =>
    split at h
    · rename_i c
      cases h
      refine ⟨_, _, rfl, rfl, fun H Q q => ⟨_, _, rfl, rfl, ?_, q _ fun N => rep_int⟩⟩
      unfold small64 at c
      simp only [Bool.or_eq_true, Bool.and_eq_true, decide_eq_true_eq] at c
      exact c
    · cases h
  all_goals cases h
theorem os_div : OpR X (binaryOp .FloorDiv) (r2 g pDiv) := os_ii op_fdiv fun x y z h => by
  cases x <;> cases y <;> simp only [pDiv] at h
  case int.int i j =>
    split at h
    · rename_i c
      cases h
      exact ⟨_, _, rfl, rfl, fun H Q q => ⟨_, _, rfl, rfl, c, q _ fun N => rep_int⟩⟩
    · cases h
  all_goals cases h
theorem os_mod : OpR X (binaryOp .Mod) (r2 g pMod) := os_ii op_mod fun x y z h => by
  cases x <;> cases y <;> simp only [pMod] at h
  case int.int i j =>
    split at h
    · rename_i c
      cases h
      exact ⟨_, _, rfl, rfl, fun H Q q => ⟨_, _, rfl, rfl, c, q _ fun N => rep_int⟩⟩
    · cases h
  all_goals cases h
theorem os_pow : OpR X (binaryOp .Pow) (r2 g pPow) := os_ii op_pow fun x y z h => by
  cases x <;> cases y <;> simp only [pPow] at h
  case int.int i j =>
    split at h
    · rename_i c
      cases h
      exact ⟨_, _, rfl, rfl, fun H Q q => ⟨_, _, rfl, rfl, c, q _ fun N => rep_int⟩⟩
    · cases h
  all_goals cases h
theorem os_lt : OpR X (compareOp .Lt) (r2 g pLt) := os_ii op_lt fun x y z h => by
  cases x <;> cases y <;> simp only [pLt] at h <;> cases h
  exact ⟨_, _, rfl, rfl, fun H Q q => ⟨_, _, rfl, rfl, q _ fun N => rep_bl⟩⟩
theorem os_le : OpR X (compareOp .LtE) (r2 g pLe) := os_ii op_le fun x y z h => by
  cases x <;> cases y <;> simp only [pLe] at h <;> cases h
  exact ⟨_, _, rfl, rfl, fun H Q q => ⟨_, _, rfl, rfl, q _ fun N => rep_bl⟩⟩
theorem os_gt : OpR X (compareOp .Gt) (r2 g pGt) := os_ii op_gt fun x y z h => by
  cases x <;> cases y <;> simp only [pGt] at h <;> cases h
  exact ⟨_, _, rfl, rfl, fun H Q q => ⟨_, _, rfl, rfl, q _ fun N => rep_bl⟩⟩
theorem os_ge : OpR X (compareOp .GtE) (r2 g pGe) := os_ii op_ge fun x y z h => by
  cases x <;> cases y <;> simp only [pGe] at h <;> cases h
  exact ⟨_, _, rfl, rfl, fun H Q q => ⟨_, _, rfl, rfl, q _ fun N => rep_bl⟩⟩
theorem us_neg : UnR X (unaryOp .USub) (r1u g pNeg) := by
  intro pins s σ H vx v Q I rx ⟨P, ms, cs, x, z, R, hx, hf, hq⟩
  cases x <;> simp only [pNeg] at hf <;> cases hf
  simp only [RepB, Rep] at hx
  subst hx
  exact un_neg pins s σ H _ v Q I rx ⟨_, rfl, hq _ _ (.refl R) rep_int⟩
/-- what a plain value is not None by -/
theorem rep_non {p : PV} {v : V} (h : RepB g H N p v) : (decide (v = .non) = isNon p) := by
  cases p <;> simp only [RepB, Rep] at h
  case tup => obtain ⟨a, vs, rfl, _⟩ := h; rfl
  case lst => obtain ⟨a, vs, rfl, _⟩ := h; rfl
  case dK => obtain ⟨a, vs, rfl, _⟩ := h; rfl
  case scr => obtain ⟨a, rfl, _⟩ := h; rfl
  all_goals subst h; rfl
theorem os_is : OpR X (compareOp .Is) (r2 g pIs) := by
  intro pins s σ H vx vy v u Q I rx ry ⟨P, ms, cs, x, y, z, R, hx, hy, hf, hq⟩
  cases y <;> simp only [pIs] at hf
  case non =>
    cases hf
    simp only [RepB, Rep] at hy
    subst hy
    refine op_isN pins s σ H _ _ v u Q I rx ry ⟨rfl, ?_⟩
    rw [rep_non hx]
    exact hq _ _ (.refl R) rep_bl
  case bl b =>
    simp only [RepB, Rep] at hy
    subst hy
    cases x <;> simp only at hf <;> cases hf
    simp only [RepB, Rep] at hx
    subst hx
    refine op_is_bl pins s σ H _ _ v u Q I rx ry ⟨_, _, rfl, rfl, ?_⟩
    have e : ∀ a c : Bool, decide (a = c) = (a == c) := by decide
    rw [e]
    exact hq _ _ (.refl R) rep_bl
  all_goals cases hf
theorem os_isnot : OpR X (compareOp .IsNot) (r2 g pIsNot) := by
  intro pins s σ H vx vy v u Q I rx ry ⟨P, ms, cs, x, y, z, R, hx, hy, hf, hq⟩
  cases y <;> simp only [pIsNot] at hf
  case non =>
    cases hf
    simp only [RepB, Rep] at hy
    subst hy
    refine op_notN pins s σ H _ _ v u Q I rx ry ⟨rfl, ?_⟩
    rw [rep_non hx]
    exact hq _ _ (.refl R) rep_bl
  case bl b =>
    simp only [RepB, Rep] at hy
    subst hy
    cases x <;> simp only at hf <;> cases hf
    simp only [RepB, Rep] at hx
    subst hx
    refine op_isnot_bl pins s σ H _ _ v u Q I rx ry ⟨_, _, rfl, rfl, ?_⟩
    have e : ∀ a c : Bool, (!decide (a = c)) = (!(a == c)) := by decide
    rw [e]
    exact hq _ _ (.refl R) rep_bl
  all_goals cases hf
theorem os_add (hK : X.K = g.K) : OpR X (binaryOp .Add) (r2 g pAdd) := by
  intro pins s σ H vx vy v u Q I rx ry ⟨P, ms, cs, x, y, z, R, hx, hy, hf, hq⟩
  cases x <;> cases y <;> simp only [pAdd] at hf
  case int.int i j =>
    cases hf
    simp only [RepB, Rep] at hx hy
    subst hx hy
    exact op_add pins s σ H _ _ v u Q I rx ry ⟨_, _, rfl, rfl, hq _ _ (.refl R) rep_int⟩
  case str.str i j =>
    split at hf
    · rename_i c
      cases hf
      simp only [RepB, Rep] at hx hy
      subst hx hy
      exact op_add_str pins s σ H _ _ v u Q I rx ry ⟨_, _, rfl, rfl, sizeL c, hq _ _ (.refl R) rep_str⟩
    · cases hf
  case tup.tup xs ys =>
    split at hf
    · rename_i c
      cases hf
      have hx0 := hx
      have hy0 := hy
      simp only [RepB, Rep] at hx hy
      obtain ⟨a, vs, rfl, a1, a2⟩ := hx
      obtain ⟨b, ws, rfl, b1, b2⟩ := hy
      have la := a2.length
      have lb := b2.length
      refine op_catA pins s σ H _ _ v u Q I rx ry ⟨a, b, vs, ws, rfl, rfl, by rw [hK]; exact a1, by rw [hK]; exact b1, sizeL (by omega), fun e => ?_, fun e1 e2 => ?_, fun e1 e2 p hp => ?_⟩
      · subst e
        have : xs = [] := List.eq_nil_of_length_eq_zero la
        subst this
        exact hq _ _ (.refl R) hy0
      · subst e2
        have : ys = [] := List.eq_nil_of_length_eq_zero lb
        subst this
        rw [List.append_nil] at hq
        exact hq _ _ (.refl R) hx0
      · exact hq _ _ (.new_ hp R) (rep_tup R (a2.append b2) hp)
    · cases hf
  case lst.lst xs ys =>
    split at hf
    · rename_i c
      cases hf
      simp only [RepB, Rep] at hx hy
      obtain ⟨a, vs, rfl, a1, a2⟩ := hx
      obtain ⟨b, ws, rfl, b1, b2⟩ := hy
      have la := a2.length
      have lb := b2.length
      exact op_cat pins s σ H _ _ v u Q I rx ry ⟨a, b, vs, ws, rfl, rfl, a1, b1, sizeL (by omega), fun p hp => hq _ _ (.new_ hp R) (rep_lst R (a2.append b2) hp)⟩
    · cases hf
  all_goals cases hf
theorem of_add : OpR X (binaryOp .Add) (r2F g lAdd) := by
  intro pins s σ H vx vy v u Q I rx ry ⟨P, ms, cs, x, y, z, R, hx, hy, hf, hq⟩
  cases x <;> cases y <;> simp only [lAdd] at hf
  case lst.lst xs ys =>
    split at hf
    · rename_i c
      cases hf
      simp only [RepB, Rep] at hx hy
      obtain ⟨a, vs, rfl, a1, a2⟩ := hx
      obtain ⟨b, ws, rfl, b1, b2⟩ := hy
      have la := a2.length
      have lb := b2.length
      exact op_cat pins s σ H _ _ v u Q I rx ry ⟨a, b, vs, ws, rfl, rfl, a1, b1, sizeL (by omega), fun p hp => hq p _ hp (a2.append b2)⟩
    · cases hf
  all_goals cases hf
theorem reps_rep {xs : List PV} {vs : List V} (h : Reps g H N xs vs) : ∀ n : Nat, Reps g H N (List.replicate n xs).flatten (List.replicate n vs).flatten
  | 0 => by simp [Reps]
  | n + 1 => by
    simp only [List.replicate_succ, List.flatten_cons]
    exact h.append (reps_rep h n)
theorem of_mul : OpR X (binaryOp .Mult) (r2F g lMul) := by
  intro pins s σ H vx vy v u Q I rx ry ⟨P, ms, cs, x, y, z, R, hx, hy, hf, hq⟩
  cases x <;> cases y <;> simp only [lMul] at hf
  case lst.int xs k =>
    split at hf
    · rename_i c
      cases hf
      simp only [RepB, Rep] at hx hy
      subst hy
      obtain ⟨a, vs, rfl, a1, a2⟩ := hx
      exact op_rep pins s σ H _ _ v u Q I rx ry ⟨a, k, vs, rfl, rfl, a1, c.1, c.2.1, sizeL (by rw [← a2.length]; exact c.2.2), fun p hp => hq p _ hp (reps_rep a2 _)⟩
    · cases hf
  all_goals cases hf
theorem room_sh {d : PyData} {ds : List PyData} {A : Around} (sd : shp d = true) (hu : A.units + 65 < cLine) : A.units + 1 + min (PyData.depthAll ds) d.depth < cLine := by
  have : d.depth ≤ 64 := of_decide_eq_true sd
  omega
theorem os_in (ok : Ok g X W k) : OpR X (compareOp .In) (r2 g pIn) := by
  intro pins s σ H vx vy v u Q I rx ry ⟨P, ms, cs, x, y, z, R, hx, hy, hf, hq⟩
  cases y <;> simp only [pIn, pyIn] at hf
  case lst xs =>
    split at hf
    · rename_i d ds hd hds
      split at hf
      · rename_i hs
        simp only [Option.map_some, Option.some.injEq] at hf
        subst hf
        rw [Bool.and_eq_true] at hs
        simp only [RepB, Rep] at hy
        obtain ⟨a, vs, rfl, h1, h2⟩ := hy
        obtain ⟨a1, a2⟩ := PV.dpB ok.K x d vx hd hx
        obtain ⟨b1, b2⟩ := PV.dps ok.K xs ds vs hds h2
        exact op_inD ok.hu65 pins s σ H _ _ v u Q I rx ry ⟨d, ds, a1, .lst (.of h1) b1, shaped_of a2 hs.1, shaped_of (by simp only [PyData.canLay0]; exact b2) hs.2, hq _ _ (.refl R) rep_bl⟩
      · cases hf
    · cases hf
  case tup xs =>
    split at hf
    · rename_i d ds hd hds
      split at hf
      · rename_i hs
        simp only [Option.map_some, Option.some.injEq] at hf
        subst hf
        rw [Bool.and_eq_true] at hs
        simp only [RepB, Rep] at hy
        obtain ⟨a, vs, rfl, h1, h2⟩ := hy
        obtain ⟨a1, a2⟩ := PV.dpB ok.K x d vx hd hx
        obtain ⟨b1, b2⟩ := PV.dps ok.K xs ds vs hds h2
        obtain ⟨as, r1⟩ := Dp.reads I d vx v a1 rx
        obtain ⟨bs, r2⟩ := Dp.reads I (.tuple ds) _ u (.tup (by rw [ok.K]; exact h1) b1) ry
        exact SeqAt.in_tuple_reads r2 r1 b2 a2 (room_sh hs.1 ok.hu65) ⟨.bl _, H, I, rfl, hq _ _ (.refl R) rep_bl⟩
      · cases hf
    · cases hf
  all_goals cases hf
theorem os_notin (ok : Ok g X W k) : OpR X (compareOp .NotIn) (r2 g pNotIn) := by
  intro pins s σ H vx vy v u Q I rx ry ⟨P, ms, cs, x, y, z, R, hx, hy, hf, hq⟩
  cases y <;> simp only [pNotIn, pyIn] at hf
  case lst xs =>
    split at hf
    · rename_i d ds hd hds
      split at hf
      · rename_i hs
        simp only [Option.map_some, Option.some.injEq] at hf
        subst hf
        rw [Bool.and_eq_true] at hs
        simp only [RepB, Rep] at hy
        obtain ⟨a, vs, rfl, h1, h2⟩ := hy
        obtain ⟨a1, a2⟩ := PV.dpB ok.K x d vx hd hx
        obtain ⟨b1, b2⟩ := PV.dps ok.K xs ds vs hds h2
        exact op_notInD ok.hu65 pins s σ H _ _ v u Q I rx ry ⟨d, ds, a1, .lst (.of h1) b1, shaped_of a2 hs.1, shaped_of (by simp only [PyData.canLay0]; exact b2) hs.2, hq _ _ (.refl R) rep_bl⟩
      · cases hf
    · cases hf
  case tup xs =>
    split at hf
    · rename_i d ds hd hds
      split at hf
      · rename_i hs
        simp only [Option.map_some, Option.some.injEq] at hf
        subst hf
        rw [Bool.and_eq_true] at hs
        simp only [RepB, Rep] at hy
        obtain ⟨a, vs, rfl, h1, h2⟩ := hy
        obtain ⟨a1, a2⟩ := PV.dpB ok.K x d vx hd hx
        obtain ⟨b1, b2⟩ := PV.dps ok.K xs ds vs hds h2
        obtain ⟨as, r1⟩ := Dp.reads I d vx v a1 rx
        obtain ⟨bs, r2⟩ := Dp.reads I (.tuple ds) _ u (.tup (by rw [ok.K]; exact h1) b1) ry
        exact SeqAt.notIn_tuple_reads r2 r1 b2 a2 (room_sh hs.1 ok.hu65) ⟨.bl _, H, I, rfl, hq _ _ (.refl R) rep_bl⟩
      · cases hf
    · cases hf
  all_goals cases hf
theorem reps_atI {xs : List PV} {vs : List V} {i : Int} {p : PV} (h : Reps g H N xs vs) (e : atI xs i = some p) : ∃ v, atI vs i = some v ∧ Rep g H N p v := by
  unfold atI at e ⊢
  rw [← h.length]
  cases hj : ixN xs.length i with
  | none => rw [hj] at e; cases e
  | some j =>
    rw [hj] at e
    obtain ⟨v, e1, e2⟩ := h.get (i := j) e
    exact ⟨v, e1, e2⟩
theorem is_ix (hK : X.K = g.K) : IxR X (r2 g pIx) := by
  intro value slice pins s σ H vx vy v u Q I rx ry ⟨P, ms, cs, x, y, z, R, hx, hy, hf, hq⟩ hs
  cases x <;> cases y <;> simp only [pIx] at hf
  case tup.int xs i =>
    simp only [RepB, Rep] at hx hy
    subst hy
    obtain ⟨a, vs, rfl, h1, h2⟩ := hx
    obtain ⟨w, e1, e2⟩ := reps_atI h2 hf
    exact ix_tup value slice pins s σ H _ _ v u Q I rx ry ⟨a, vs, i, w, rfl, rfl, by rw [hK]; exact h1, e1, hq _ _ (.refl R) e2⟩ hs
  case lst.int xs i =>
    simp only [RepB, Rep] at hx hy
    subst hy
    obtain ⟨a, vs, rfl, h1, h2⟩ := hx
    obtain ⟨w, e1, e2⟩ := reps_atI h2 hf
    exact ix_list value slice pins s σ H _ _ v u Q I rx ry ⟨a, vs, i, w, rfl, rfl, .of h1, e1, hq _ _ (.refl R) e2⟩ hs
  case str.int zz i =>
    split at hf
    · rename_i c
      simp only [Option.map_eq_some_iff] at hf
      obtain ⟨cc, e1, rfl⟩ := hf
      simp only [RepB, Rep] at hx hy
      subst hx hy
      exact ix_str value slice pins s σ H _ _ v u Q I rx ry ⟨zz, i, cc, rfl, rfl, sizeL c, e1, hq _ _ (.refl R) rep_str⟩ hs
    · cases hf
  all_goals cases hf
end
end Ev

set_option Elab.async false
set_option linter.all false
set_option maxRecDepth 100000
set_option maxHeartbeats 4000000
/-! Ev: expressions that may be a changing object by reference; stores. -/
namespace Ev
open PySem PySem.Spec PyProof.Rows L2

abbrev EV := Sg → Cs → Res SV
def RpV1 (g : Gx) : Hp → (Addr → Prop) → List Addr → SV → V → Prop := fun H N ms s v => match s with
  | .val p => Rep g H N p v
  | .cel i => ∃ a, ms[i]? = some a ∧ v = .ref a
theorem rpV1_S {g : Gx} {H : Hp} {P : Addr → Prop} {ms : List Addr} {cs : Cs} {s : SV} {v : V} (h : RpV1 g H (Exl P ms cs) ms s v) : RepS g H P ms cs s v := by
  cases s <;> exact h
def rdV (g : Gx) (f : EV) (W : WX) : TE := fun σ H Q => ∃ P ms cs sg, At g P ms cs sg σ H ∧ Post g (RpV1 g) P ms cs H (f sg cs) Q fun c d H' => W c d σ H'
abbrev SVj (g : Gx) (X : Cx) (W : WX) (e : Expr) (f : EV) : Prop := PE X e (rdV g f W)
def vVar (i : Nat) : EV := fun sg cs => match sg[i]? with
  | some (some s) => .ok s cs
  | _ => .stuck
def vE (f : EF) : EV := fun sg cs => (f sg cs).bind fun x c => .ok (.val x) c
def vNew (f : AF) : EV := fun sg cs => (f sg cs).bind fun xs c => .ok (.cel c.length) (c ++ [.lst xs])
section
variable {g : Gx} {X : Cx} {W : WX} {k : Nat} {e a b c : Expr} {fe fa fb fc : EV} {pos : Pos}
theorem sv_var {i : Nat} {x : Str} (hN : X.N[i]? = some x) (hv : Vis X.env.scope x) (hd : (x == ("__debug__" : Str)) = false := by decide) (hcd : (x == ("__classdict__" : Str)) = false := by decide) : SVj g X W (.Name x pos) (vVar i) :=
  (pe_var hN hv hd hcd).imp fun σ H Q ⟨P, ms, cs, sg, A, h⟩ => by
    unfold vVar at h
    split at h
    · rename_i s hs
      obtain ⟨y, e1, e2⟩ := A.sl.at_ _ _ hs
      refine ⟨y, e1, h ms H y (.refl A.rel) ?_⟩
      cases s <;> exact e2
    · exact h.elim
theorem sv_e {f : EF} (h : SE g X W e f) : SVj g X W e (vE f) := h.imp fun σ H Q ⟨P, ms, cs, sg, A, h⟩ => by
  refine ⟨P, ms, cs, sg, A, ?_⟩
  unfold vE at h
  revert h
  cases f sg cs with
  | stuck => exact id
  | exc e cs' => exact fun h => h
  | ok v c => exact fun h ms' H' vv B q => h ms' H' vv B q
theorem sv_new {f : AF} (h : SFr g X W e f) : SVj g X W e (vNew f) := h.imp fun σ H Q ⟨P, ms, cs, sg, A, h⟩ => by
  refine ⟨P, ms, cs, sg, A, ?_⟩
  unfold vNew at h
  revert h
  cases f sg cs with
  | stuck => exact id
  | exc e cs' => exact fun h => h
  | ok v c =>
    intro h ms' H' p vs hp B hl hr
    refine h _ H' _ (Aft.cell A.rel hp B hl hr) ⟨p, ?_, rfl⟩
    rw [← B.rel.len]; simp
theorem rdV_back {f : EF} {σ : L2.St} {H : Hp} {Q : VK} (h : rdV g (vE f) W σ H Q) : rdE g f W σ H Q := by
  obtain ⟨P, ms, cs, sg, A, h⟩ := h
  refine ⟨P, ms, cs, sg, A, ?_⟩
  unfold vE at h
  revert h
  cases f sg cs with
  | stuck => exact id
  | exc e cs' => exact fun h => h
  | ok v c => exact fun h ms' H' vv B q => h ms' H' vv B q
/-! ### two things, maybe living -/
def e2s (f : PV → PV → Option PV) (a b : EV) : EF := fun sg cs => (a sg cs).bind fun x cs1 => (b sg cs1).bind fun y cs2 => match derefS cs2 x, derefS cs2 y with
  | some p, some q => .lift (f p q) cs2
  | _, _ => .stuck
theorem rdE_2s {f : PV → PV → Option PV} {σ : L2.St} {H : Hp} {Q : VK} (h : rdE g (e2s f fa fb) W σ H Q) : tOp (r2 g f) (rdV g fa W) (rdV g fb W) σ H Q := by
  obtain ⟨P, ms, cs, sg, A, h⟩ := h
  refine ⟨P, ms, cs, sg, A, ?_⟩
  unfold e2s at h
  revert h
  cases fa sg cs with
  | stuck => exact id
  | exc e cs' => exact fun h => h
  | ok v cs1 =>
    intro h ms1 H1 vv A1 q1
    refine ⟨P, ms1, cs1, sg, A.aft A1, ?_⟩
    simp only [Res.bind] at h
    revert h
    cases fb sg cs1 with
    | stuck => exact id
    | exc e cs' => exact fun h ms2 H2 c d A2 q2 => h ms2 H2 c d (A1.trans A2 A.rel) q2
    | ok w cs2 =>
      intro h ms2 H2 ww A2 q2
      dsimp only at h
      split at h
      · rename_i p q hp hq
        cases hz : f p q with
        | none => rw [hz] at h; exact h.elim
        | some z =>
          rw [hz] at h
          exact ⟨P, ms2, cs2, p, q, z, A2.rel, ((rpV1_S q1).aft (A.aft A1).rel A2).deref A2.rel hp, (rpV1_S q2).deref A2.rel hq, hz, fun H' vz A3 r3 => h ms2 H' vz ((A1.trans A2 A.rel).trans A3 A.rel) r3⟩
      · exact h.elim
theorem se_opS {op : Operator} {f : PV → PV → Option PV} (ho : OpR X (binaryOp op) (r2 g f)) (ha : SVj g X W a fa) (hb : SVj g X W b fb) : SE g X W (.BinOp a op b pos) (e2s f fa fb) :=
  (pe_op ho ha hb).imp fun _ _ _ => rdE_2s
theorem se_cmpS {op : CmpOp} {f : PV → PV → Option PV} (ho : OpR X (compareOp op) (r2 g f)) (ha : SVj g X W a fa) (hb : SVj g X W b fb) (hm : behindInMarks op b = false) : SE g X W (.Compare a [op] [b] pos) (e2s f fa fb) :=
  (pe_cmpR ho ha hb hm).imp fun _ _ _ => rdE_2s
theorem se_ixS {f : PV → PV → Option PV} (ho : IxR X (r2 g f)) (ha : SVj g X W a fa) (hb : SVj g X W b fb) (hs : PlainIx b) : SE g X W (.Subscript a b pos) (e2s f fa fb) :=
  (pe_ix ho ha hb hs).imp fun _ _ _ => rdE_2s
theorem st_cmpS {op : CmpOp} {f : PV → PV → Option PV} (ho : OpR X (compareOp op) (r2 g f)) (ha : SVj g X W a fa) (hb : SVj g X W b fb) (hm : behindInMarks op b = false) : ST g X W (.Compare a [op] [b] pos) (tB (e2s f fa fb)) :=
  (pt_cmpR ho ha hb hm).imp fun σ H Q h => by
    obtain ⟨P, ms, cs, sg, A, h⟩ := rdT_B h
    exact rdE_2s ⟨P, ms, cs, sg, A, h⟩
def f2s (f : PV → PV → Option (List PV)) (a b : EV) : AF := fun sg cs => (a sg cs).bind fun x cs1 => (b sg cs1).bind fun y cs2 => match derefS cs2 x, derefS cs2 y with
  | some p, some q => .lift (f p q) cs2
  | _, _ => .stuck
theorem rdF_2s {f : PV → PV → Option (List PV)} {σ : L2.St} {H : Hp} {Q : VK} (h : rdF g (f2s f fa fb) W σ H Q) : tOp (r2F g f) (rdV g fa W) (rdV g fb W) σ H Q := by
  obtain ⟨P, ms, cs, sg, A, h⟩ := h
  refine ⟨P, ms, cs, sg, A, ?_⟩
  unfold f2s at h
  revert h
  cases fa sg cs with
  | stuck => exact id
  | exc e cs' => exact fun h => h
  | ok v cs1 =>
    intro h ms1 H1 vv A1 q1
    refine ⟨P, ms1, cs1, sg, A.aft A1, ?_⟩
    simp only [Res.bind] at h
    revert h
    cases fb sg cs1 with
    | stuck => exact id
    | exc e cs' => exact fun h ms2 H2 c d A2 q2 => h ms2 H2 c d (A1.trans A2 A.rel) q2
    | ok w cs2 =>
      intro h ms2 H2 ww A2 q2
      dsimp only at h
      split at h
      · rename_i p q hp hq
        cases hz : f p q with
        | none => rw [hz] at h; exact h.elim
        | some z =>
          rw [hz] at h
          refine ⟨P, ms2, cs2, p, q, z, A2.rel, ((rpV1_S q1).aft (A.aft A1).rel A2).deref A2.rel hp, (rpV1_S q2).deref A2.rel hq, hz, fun r vs hr hrs => h ms2 _ r vs ?_ (((A1.trans A2 A.rel)).trans (Aft.fresh A2.rel hr) A.rel) upd_same (reps_pls hr hrs)⟩
          exact none_back (A1.trans A2 A.rel) hr
      · exact h.elim
theorem sf_opS {op : Operator} {f : PV → PV → Option (List PV)} (ho : OpR X (binaryOp op) (r2F g f)) (ha : SVj g X W a fa) (hb : SVj g X W b fb) : SFr g X W (.BinOp a op b pos) (f2s f fa fb) :=
  (pe_op ho ha hb).imp fun _ _ _ => rdF_2s

/-! ### arguments, maybe living -/
def zCons (f : EV) (r : SF) : SF := fun sg cs => (f sg cs).bind fun x cs1 => (r sg cs1).bind fun xs cs2 => .ok (x :: xs) cs2
theorem repSs_cons {P : Addr → Prop} {ms : List Addr} {cs : Cs} {H : Hp} {s : SV} {v : V} {ss : List SV} {vs : List V} (h : RepS g H P ms cs s v) (k : RepSs g H (Exl P ms cs) ms ss vs) : RepSs g H (Exl P ms cs) ms (s :: ss) (v :: vs) := by
  cases s with
  | val p => simp only [RepSs]; exact ⟨v, vs, rfl, h, k⟩
  | cel i => obtain ⟨a, h1, h2⟩ := h; simp only [RepSs]; exact ⟨a, vs, by rw [h2], h1, k⟩
theorem sz_cons {es : List Expr} {fs : SF} (ha : SVj g X W e fe) (hr : SSA g X W es fs) (hs : starEach (e :: es) X.env = (false, eval e X.env) :: starEach es X.env := by rfl) : SSA g X W (e :: es) (zCons fe fs) :=
  (pa_cons ha hr hs).imp fun σ H Q ⟨P, ms, cs, sg, A, h⟩ => by
    refine ⟨P, ms, cs, sg, A, ?_⟩
    unfold zCons at h
    revert h
    cases fe sg cs with
    | stuck => exact id
    | exc e cs' => exact fun h => h
    | ok v cs1 =>
      intro h ms1 H1 vv A1 q1
      refine ⟨P, ms1, cs1, sg, A.aft A1, ?_⟩
      simp only [Res.bind] at h
      revert h
      cases fs sg cs1 with
      | stuck => exact id
      | exc e cs' => exact fun h ms2 H2 c d A2 q2 => h ms2 H2 c d (A1.trans A2 A.rel) q2
      | ok w cs2 =>
        intro h ms2 H2 ww A2 q2
        exact h ms2 H2 _ (A1.trans A2 A.rel) (repSs_cons ((rpV1_S q1).aft (A.aft A1).rel A2) q2)
theorem repSs_deref {P : Addr → Prop} {ms : List Addr} {cs : Cs} {H : Hp} (R : Rel g H P ms cs) : ∀ {ss : List SV} {vs : List V} {ps : List PV}, RepSs g H (Exl P ms cs) ms ss vs → derefs cs ss = some ps → RepBs g H (Exl P ms cs) ps vs
  | [], vs, ps, h, e => by simp only [derefs] at e; cases e; simpa only [RepSs, RepBs] using h
  | s :: ss, vs, ps, h, e => by
    simp only [derefs] at e
    have key : ∃ v r, vs = v :: r ∧ RepS g H P ms cs s v ∧ RepSs g H (Exl P ms cs) ms ss r := by
      cases s with
      | val p => simp only [RepSs] at h; exact h
      | cel i => simp only [RepSs] at h; obtain ⟨a, r, h1, h2, h3⟩ := h; exact ⟨_, r, h1, ⟨a, h2, rfl⟩, h3⟩
    obtain ⟨v, r, rfl, h1, h2⟩ := key
    cases hd : derefS cs s with
    | none => rw [hd] at e; cases e
    | some p =>
      rw [hd] at e
      simp only [Option.map_eq_some_iff] at e
      obtain ⟨ps', e1, rfl⟩ := e
      exact ⟨v, r, rfl, h1.deref R hd, repSs_deref R h2 e1⟩
def eCallS (f : List PV → Option PV) (as : SF) : EF := fun sg cs => (as sg cs).bind fun xs cs1 => match derefs cs1 xs with
  | some ps => .lift (f ps) cs1
  | none => .stuck
theorem rdE_CS {f : List PV → Option PV} {fs : SF} {σ : L2.St} {H : Hp} {Q : VK} (h : rdE g (eCallS f fs) W σ H Q) : rdSA g fs W σ H fun vs H1 => rC g f vs H1 Q := by
  obtain ⟨P, ms, cs, sg, A, h⟩ := h
  refine ⟨P, ms, cs, sg, A, ?_⟩
  unfold eCallS at h
  revert h
  cases fs sg cs with
  | stuck => exact id
  | exc e cs' => exact fun h => h
  | ok v cs1 =>
    intro h ms1 H1 vv A1 q1
    simp only [Res.bind] at h
    split at h
    · rename_i ps hps
      cases hz : f ps with
      | none => rw [hz] at h; exact h.elim
      | some z =>
        rw [hz] at h
        exact ⟨P, ms1, cs1, ps, z, A1.rel, repSs_deref A1.rel q1 hps, hz, fun H'' vz A3 r3 => h ms1 H'' vz (A1.trans A3 A.rel) r3⟩
    · exact h.elim
def fCallS (f : List PV → Option (List PV)) (as : SF) : AF := fun sg cs => (as sg cs).bind fun xs cs1 => match derefs cs1 xs with
  | some ps => .lift (f ps) cs1
  | none => .stuck
theorem rdF_CS {f : List PV → Option (List PV)} {fs : SF} {σ : L2.St} {H : Hp} {Q : VK} (h : rdF g (fCallS f fs) W σ H Q) : rdSA g fs W σ H fun vs H1 => rCF g f vs H1 Q := by
  obtain ⟨P, ms, cs, sg, A, h⟩ := h
  refine ⟨P, ms, cs, sg, A, ?_⟩
  unfold fCallS at h
  revert h
  cases fs sg cs with
  | stuck => exact id
  | exc e cs' => exact fun h => h
  | ok v cs1 =>
    intro h ms1 H1 vv A1 q1
    simp only [Res.bind] at h
    split at h
    · rename_i ps hps
      cases hz : f ps with
      | none => rw [hz] at h; exact h.elim
      | some z =>
        rw [hz] at h
        exact ⟨P, ms1, cs1, ps, z, A1.rel, repSs_deref A1.rel q1 hps, hz, fun p ws hp hr => h ms1 _ p ws (none_back A1 hp) (A1.trans (Aft.fresh A1.rel hp) A.rel) upd_same (reps_pls hp hr)⟩
    · exact h.elim
theorem se_callBS {f : List PV → Option PV} {es : List Expr} {fs : SF} {x : Str} {id : String} {p : Pos} (hc : CallR X (.builtin id) (rC g f)) (hg : Gl X x) (hm : X.mg x = none) (hv : bootBuiltins x = some (.builtin id)) (ha : SSA g X W (e :: es) fs) (hn : x ≠ "__name__" := by decide) (hdb : (x == ("__debug__" : Str)) = false := by decide)
    (he : starEach (e :: es) X.env = (false, eval e X.env) :: starEach es X.env := by rfl) (hpl : (backTo pos (starEach es X.env)).any (·.1) = false := by rfl) : SE g X W (.Call (.Name x p) (e :: es) [] pos) (eCallS f fs) :=
  (pe_callB hc hg hm hv ha hn hdb he hpl).imp fun _ _ _ => rdE_CS
theorem se_callTyS {f : List PV → Option PV} {es : List Expr} {fs : SF} {x : Str} {T : String} {p : Pos} (hc : CallR X (.type T) (rC g f)) (hg : Gl X x) (hm : X.mg x = none) (hv : bootBuiltins x = some (.type T)) (ha : SSA g X W (e :: es) fs) (hn : x ≠ "__name__" := by decide) (hdb : (x == ("__debug__" : Str)) = false := by decide)
    (he : starEach (e :: es) X.env = (false, eval e X.env) :: starEach es X.env := by rfl) (hpl : (backTo pos (starEach es X.env)).any (·.1) = false := by rfl) : SE g X W (.Call (.Name x p) (e :: es) [] pos) (eCallS f fs) :=
  (pe_callTy hc hg hm hv ha hn hdb he hpl).imp fun _ _ _ => rdE_CS
theorem sf_callBS {f : List PV → Option (List PV)} {es : List Expr} {fs : SF} {x : Str} {id : String} {p : Pos} (hc : CallR X (.builtin id) (rCF g f)) (hg : Gl X x) (hm : X.mg x = none) (hv : bootBuiltins x = some (.builtin id)) (ha : SSA g X W (e :: es) fs) (hn : x ≠ "__name__" := by decide) (hdb : (x == ("__debug__" : Str)) = false := by decide)
    (he : starEach (e :: es) X.env = (false, eval e X.env) :: starEach es X.env := by rfl) (hpl : (backTo pos (starEach es X.env)).any (·.1) = false := by rfl) : SFr g X W (.Call (.Name x p) (e :: es) [] pos) (fCallS f fs) :=
  (pe_callB hc hg hm hv ha hn hdb he hpl).imp fun _ _ _ => rdF_CS
theorem sf_callTyS {f : List PV → Option (List PV)} {es : List Expr} {fs : SF} {x : Str} {T : String} {p : Pos} (hc : CallR X (.type T) (rCF g f)) (hg : Gl X x) (hm : X.mg x = none) (hv : bootBuiltins x = some (.type T)) (ha : SSA g X W (e :: es) fs) (hn : x ≠ "__name__" := by decide) (hdb : (x == ("__debug__" : Str)) = false := by decide)
    (he : starEach (e :: es) X.env = (false, eval e X.env) :: starEach es X.env := by rfl) (hpl : (backTo pos (starEach es X.env)).any (·.1) = false := by rfl) : SFr g X W (.Call (.Name x p) (e :: es) [] pos) (fCallS f fs) :=
  (pe_callTy hc hg hm hv ha hn hdb he hpl).imp fun _ _ _ => rdF_CS

/-! ### a changing object is changed no more -/
def frz (s : SV) (cs : Cs) : Option (PV × Cs) := match s with
  | .val p => some (p, cs)
  | .cel j => match cs[j]? with
    | some (.lst xs) => some (.lst xs, cs.set j .dead)
    | some (.dK kvs) => some (.dK kvs, cs.set j .dead)
    | _ => none
def frzs : List SV → Cs → Option (List PV × Cs)
  | [], cs => some ([], cs)
  | s :: r, cs => match frz s cs with
    | some (p, cs1) => (match frzs r cs1 with
      | some (ps, cs2) => some (p :: ps, cs2)
      | none => none)
    | none => none
section
variable {P : Addr → Prop} {ms : List Addr} {cs cs1 : Cs} {H : Hp} {j : Nat} {c0 : Cell}
theorem Aft.kill (R : Rel g H P ms cs) (j : Nat) : Aft g P ms cs H P ms (cs.set j .dead) H := by
  have at' : ∀ {i : Nat} {c : Cell}, (cs.set j .dead)[i]? = some c → c = .dead ∨ cs[i]? = some c := fun {i c} h => by
    by_cases hi : j = i
    · subst hi
      rw [List.getElem?_set] at h
      simp only [if_true] at h
      split at h
      · exact .inl (Option.some.inj h).symm
      · cases h
    · rw [List.getElem?_set_ne hi] at h; exact .inr h
  have less : ∀ b, Exl P ms (cs.set j .dead) b → Exl P ms cs b := fun b hb => hb.imp id (fun ⟨i, c, h1, h2, h3⟩ => ⟨i, c, h1, (at' h2).resolve_left h3, h3⟩)
  refine ⟨fun _ _ h => h, fun i h => ?_, by simp, fun i a h hl => (by rw [List.getElem?_eq_none hl] at h; cases h), fun b o h _ _ => h, fun b h => h, fun a h => .inl h,
    ⟨by simp [R.len], R.inj, fun i a c h1 h2 => ?_, R.priv, R.msin, R.apart, R.tabs⟩⟩
  · by_cases hi : j = i
    · subst hi
      have := (List.getElem?_eq_some_iff.mp h).1
      rw [List.getElem?_set_self this]
    · rw [List.getElem?_set_ne hi]; exact h
  · rcases at' h2 with rfl | h2
    · trivial
    · exact (R.cells i a c h1 h2).less less
theorem frz_ok {s : SV} {p : PV} {v : V} (R : Rel g H P ms cs) (h : RepS g H P ms cs s v) (e : frz s cs = some (p, cs1)) : Aft g P ms cs H P ms cs1 H ∧ Rep g H (Exl P ms cs1) p v := by
  cases s with
  | val q => cases e; exact ⟨.refl R, h⟩
  | cel j =>
    obtain ⟨a, ha, rfl⟩ := h
    have K := Aft.kill R j
    have na : ¬ Exl P ms (cs.set j .dead) a := fun z => by
      rcases z with z | ⟨i, c, h1, h2, h3⟩
      · exact R.apart j a ha z
      · have := R.inj i j a h1 ha
        subst this
        rw [List.getElem?_set] at h2
        simp only [if_true] at h2
        split at h2
        · exact h3 (Option.some.inj h2).symm
        · cases h2
    unfold frz at e
    dsimp only at e
    split at e
    · rename_i xs hc
      cases e
      obtain ⟨vs, h1, h2⟩ := R.cells j a _ ha hc
      refine ⟨K, ?_⟩
      simp only [Rep]
      exact ⟨a, vs, rfl, h1, na, Reps.mono (K.car R) _ _ h2⟩
    · rename_i xs hc
      cases e
      obtain ⟨vs, h1, h2⟩ := R.cells j a _ ha hc
      refine ⟨K, ?_⟩
      simp only [Rep]
      exact ⟨a, vs, rfl, h1, na, RepK.mono (K.car R) _ _ h2⟩
    · cases e
theorem frzs_ok : ∀ {ss : List SV} {ps : List PV} {vs : List V} {cs cs1 : Cs}, Rel g H P ms cs → RepSs g H (Exl P ms cs) ms ss vs → frzs ss cs = some (ps, cs1) → Aft g P ms cs H P ms cs1 H ∧ Reps g H (Exl P ms cs1) ps vs
  | [], ps, vs, cs, cs1, R, h, e => by simp only [frzs] at e; cases e; exact ⟨.refl R, by simpa only [RepSs, Reps] using h⟩
  | s :: ss, ps, vs, cs, cs1, R, h, e => by
    simp only [frzs] at e
    have key : ∃ v r, vs = v :: r ∧ RepS g H P ms cs s v ∧ RepSs g H (Exl P ms cs) ms ss r := by
      cases s with
      | val p => simp only [RepSs] at h; exact h
      | cel i => simp only [RepSs] at h; obtain ⟨a, r, h1, h2, h3⟩ := h; exact ⟨_, r, h1, ⟨a, h2, rfl⟩, h3⟩
    obtain ⟨v, r, rfl, h1, h2⟩ := key
    split at e
    · rename_i p cs' hp
      obtain ⟨A1, r1⟩ := frz_ok R h1 hp
      split at e
      · rename_i ps' cs'' hps
        cases e
        have h2' : ∀ {ss : List SV} {r : List V}, RepSs g H (Exl P ms cs) ms ss r → RepSs g H (Exl P ms cs') ms ss r := by
          intro ss
          induction ss with
          | nil => intro r h; simpa only [RepSs] using h
          | cons s ss ih =>
            intro r h
            cases s with
            | val p => simp only [RepSs] at h ⊢; obtain ⟨v, r', e1, e2, e3⟩ := h; exact ⟨v, r', e1, e2.aft R A1, ih e3⟩
            | cel p => simp only [RepSs] at h ⊢; obtain ⟨v, r', e1, e2, e3⟩ := h; exact ⟨v, r', e1, e2, ih e3⟩
        obtain ⟨A2, r2⟩ := frzs_ok A1.rel (h2' h2) hps
        exact ⟨A1.trans A2 R, .cons (r1.aft A1.rel A2) r2⟩
      · cases e
    · cases e
end
/-- the object itself, changed no more -/
def eFrz (v : EV) : EF := fun sg cs => (v sg cs).bind fun s cs1 => match frz s cs1 with
  | some (p, cs2) => .ok p cs2
  | none => .stuck
theorem se_frz (h : SVj g X W e fe) : SE g X W e (eFrz fe) := h.imp fun σ H Q ⟨P, ms, cs, sg, A, h⟩ => by
  refine ⟨P, ms, cs, sg, A, ?_⟩
  unfold eFrz at h
  revert h
  cases fe sg cs with
  | stuck => exact id
  | exc e cs' => exact fun h => h
  | ok v c =>
    intro h ms' H' vv B q
    simp only [Res.bind] at h
    split at h
    · rename_i p cs2 hp
      obtain ⟨A2, r⟩ := frz_ok B.rel (rpV1_S q) hp
      exact h ms' H' vv (B.trans A2 A.rel) r
    · exact h.elim
def eTupS (as : SF) : EF := fun sg cs => (as sg cs).bind fun xs cs1 => match frzs xs cs1 with
  | some (ps, cs2) => if ps.length ≤ 16777216 then .ok (.tup ps) cs2 else .stuck
  | none => .stuck
theorem se_tupS {es : List Expr} {fs : SF} {x1 : Nat} (h : SSA g X W es fs) : SE g X W (.Tuple es x1 pos) (eTupS fs) := (pe_tup h).imp fun σ H Q ⟨P, ms, cs, sg, A, h⟩ => by
  refine ⟨P, ms, cs, sg, A, ?_⟩
  unfold eTupS at h
  revert h
  cases fs sg cs with
  | stuck => exact id
  | exc e cs' => exact fun h => h
  | ok v c =>
    intro h ms' H' vv B q
    simp only [Res.bind] at h
    split at h
    · rename_i ps cs2 hp
      obtain ⟨A2, r⟩ := frzs_ok B.rel q hp
      split at h
      · rename_i hl
        exact ⟨by rw [← r.length]; exact sizeL hl, fun p hp => h ms' _ _ ((B.trans A2 A.rel).trans (.new_ hp A2.rel) A.rel) (rep_tup A2.rel r hp)⟩
      · exact h.elim
    · exact h.elim

/-! ### stores -/
abbrev GV := SV → Sg → Cs → Option (Sg × Cs)
structure SGv (g : Gx) (X : Cx) (tg : Expr) (f : GV) : Prop where
  ex : ∃ t : TG, PG X tg t ∧ ∀ (P : Addr → Prop) (ms : List Addr) (cs cs' : Cs) (sg sg' : Sg) (σ : L2.St) (H : Hp) (s : SV) (x : V) (Q : L2.St → Hp → Prop), At g P ms cs sg σ H → RepS g H P ms cs s x → f s sg cs = some (sg', cs') →
    (∀ ms' σ' H', Aft g P ms cs H P ms' cs' H' → Slots g H' P ms' cs' sg' σ' → Q σ' H') → t x σ H Q
structure SGvs (g : Gx) (X : Cx) (tg : List Expr) (f : List PV → Sg → Cs → Option (Sg × Cs)) : Prop where
  ex : ∃ t : TGs, PGs X tg t ∧ ∀ (P : Addr → Prop) (ms : List Addr) (cs cs' : Cs) (sg sg' : Sg) (σ : L2.St) (H : Hp) (s : List PV) (x : List V) (Q : L2.St → Hp → Prop), At g P ms cs sg σ H → Reps g H (Exl P ms cs) s x → f s sg cs = some (sg', cs') →
    (∀ ms' σ' H', Aft g P ms cs H P ms' cs' H' → Slots g H' P ms' cs' sg' σ' → Q σ' H') → t x σ H Q
def gvN (i : Nat) : GV := fun s sg cs => some (sg.set i (some s), cs)
def gvNil : List PV → Sg → Cs → Option (Sg × Cs) := fun vs sg cs => match vs with
  | [] => some (sg, cs) | _ => none
def gvCons (f : GV) (r : List PV → Sg → Cs → Option (Sg × Cs)) : List PV → Sg → Cs → Option (Sg × Cs) := fun vs sg cs => match vs with
  | v :: vs => (match f (.val v) sg cs with | some (sg1, cs1) => r vs sg1 cs1 | none => none)
  | [] => none
def gvT (n : Nat) (f : List PV → Sg → Cs → Option (Sg × Cs)) : GV := fun v sg cs => match v with
  | .val (.tup xs) => if xs.length = n then f xs sg cs else none
  | _ => none
def gvSub (o : EV) (i : EF) : GV := fun s sg cs => match s with
  | .val p => (match o sg cs with
    | .ok (.cel j) cs1 => (match i sg cs1 with
      | .ok (.int n) cs2 => (match cs2[j]? with
        | some (.lst xs) => (match ixN xs.length n with
          | some k => some (sg, cs2.set j (.lst (xs.set k p)))
          | none => none)
        | _ => none)
      | _ => none)
    | _ => none)
  | _ => none
theorem sgv_name {i : Nat} {x : Str} (hN : X.N.Nodup) (hi : X.N[i]? = some x) (hx : Loc X.env.scope x) (hf : X.fn x = true ∨ X.env.scope.names.lookup x = some .local := by first | exact .inl rfl | exact .inr rfl | assumption) : SGv g X (.Name x pos) (gvN i) :=
  ⟨_, pg_name hN hi hx hf, fun P ms cs cs' sg sg' σ H s y Q A r e q => by
    cases e
    exact q ms _ H (.refl A.rel) (A.sl.set r)⟩
theorem sgvs_nil : SGvs g X [] gvNil := ⟨_, pgs_nil, fun P ms cs cs' sg sg' σ H v y Q A r e q => by
    cases v with
    | nil => simp only [Reps] at r; cases e; exact ⟨r, q ms σ H (.refl A.rel) A.sl⟩
    | cons a b => cases e⟩
theorem sgvs_cons {es : List Expr} {f : GV} {r : List PV → Sg → Cs → Option (Sg × Cs)} (h : SGv g X e f) (k : SGvs g X es r) (hs : (assignEach (e :: es) X.env).map (·.2) = assign e X.env :: (assignEach es X.env).map (·.2) := by rfl) : SGvs g X (e :: es) (gvCons f r) := by
  obtain ⟨t, h1, h2⟩ := h
  obtain ⟨u, k1, k2⟩ := k
  refine ⟨_, pgs_cons h1 k1 hs, fun P ms cs cs' sg sg' σ H v y Q A rr e q => ?_⟩
  cases v with
  | nil => cases e
  | cons a b =>
    simp only [Reps] at rr
    obtain ⟨w, ws, e1, r1, r2⟩ := rr
    refine ⟨w, ws, e1, ?_⟩
    simp only [gvCons] at e
    split at e
    · rename_i sg1 cs1 hf
      refine h2 P ms cs cs1 sg sg1 σ H (.val a) w _ A r1 hf fun ms1 σ1 H1 A1 S1 => ?_
      exact k2 P ms1 cs1 cs' sg1 sg' σ1 H1 b ws Q ⟨A1.rel, S1⟩ (r2.aft A.rel A1) e fun ms2 σ2 H2 A2 S2 => q ms2 σ2 H2 (A1.trans A2 A.rel) S2
    · cases e
theorem sgv_tup {es : List Expr} {r : List PV → Sg → Cs → Option (Sg × Cs)} {n x1 : Nat} (hc : X.calm = true) (hK : X.K = g.K) (h : SGvs g X es r) (hn : (assignEach es X.env).length = n := by rfl) (hst : (assignEach es X.env).findIdx? (·.1) = none := by rfl) : SGv g X (.Tuple es x1 pos) (gvT n r) := by
  obtain ⟨u, k1, k2⟩ := h
  refine ⟨_, pg_tup hc k1 hn hst, fun P ms cs cs' sg sg' σ H v y Q A rr e q => ?_⟩
  cases v with
  | cel j => cases e
  | val v =>
    cases v with
    | tup xs =>
      simp only [gvT] at e
      split at e
      · rename_i hl
        have rr : Rep g H (Exl P ms cs) (.tup xs) y := rr
        simp only [Rep] at rr
        obtain ⟨a, vs, e1, h1, h2⟩ := rr
        refine ⟨a, vs, e1, by rw [hK]; exact h1, by rw [← h2.length]; exact hl, ?_⟩
        exact k2 P ms cs cs' sg sg' σ H xs vs Q A h2 e q
      · cases e
    | _ => cases e
/-- a list that lives is written -/
theorem Aft.write {P : Addr → Prop} {ms : List Addr} {cs : Cs} {H : Hp} {j : Nat} {a : Addr} {xs ys : List PV} {vs ws : List V} (R : Rel g H P ms cs) (ha : ms[j]? = some a) (hc : cs[j]? = some (.lst xs)) (hl : H a = some (.lst vs)) (hr : Reps g H (Exl P ms cs) ys ws) :
    Aft g P ms cs H P ms (cs.set j (.lst ys)) (upd H a (.lst ws)) := by
  have hlt : j < cs.length := (List.getElem?_eq_some_iff.mp hc).1
  have la : Live ms cs a := ⟨j, _, ha, hc, fun z => nomatch z⟩
  have at' : ∀ {i : Nat} {c : Cell}, (cs.set j (.lst ys))[i]? = some c → (i = j ∧ c = .lst ys) ∨ (i ≠ j ∧ cs[i]? = some c) := fun {i c} h => by
    by_cases hi : j = i
    · subst hi
      rw [List.getElem?_set_self hlt] at h
      exact .inl ⟨rfl, (Option.some.inj h).symm⟩
    · rw [List.getElem?_set_ne hi] at h; exact .inr ⟨Ne.symm hi, h⟩
  have lv : ∀ b, Live ms (cs.set j (.lst ys)) b → Live ms cs b := fun b ⟨i, c, h1, h2, h3⟩ => by
    rcases at' h2 with ⟨rfl, _⟩ | ⟨_, h2⟩
    · exact ⟨i, _, h1, hc, fun z => nomatch z⟩
    · exact ⟨i, c, h1, h2, h3⟩
  have less : ∀ b, Exl P ms (cs.set j (.lst ys)) b → Exl P ms cs b := fun b hb => hb.imp id (lv b)
  have c1 := car_upd (ws := ws) (N := Exl P ms cs) hl (.inr la)
  have cr : Car H (Exl P ms cs) (upd H a (.lst ws)) (Exl P ms (cs.set j (.lst ys))) := ⟨c1.tup, c1.oth, fun b hb h => less b h, c1.there⟩
  refine ⟨fun _ _ h => h, fun i h => ?_, by simp, fun i b h hl => (by rw [List.getElem?_eq_none hl] at h; cases h), fun b o h hn ht => ?_, fun b h => cr.there b h, fun b h => .inl h,
    ⟨by simp [R.len], R.inj, fun i b c h1 h2 => ?_, fun b h => cr.there b (R.priv b h), fun i b h => cr.there b (R.msin i b h), R.apart, tabs_upd hl R.tabs⟩⟩
  · have : j ≠ i := fun e => by subst e; rw [hc] at h; cases h
    rw [List.getElem?_set_ne this]; exact h
  · have : b ≠ a := fun e => hn (e ▸ la)
    rw [upd_ne this]; exact h
  · rcases at' h2 with ⟨rfl, rfl⟩ | ⟨hi, h2⟩
    · have : b = a := Option.some.inj (h1.symm.trans ha)
      subst this
      exact ⟨ws, upd_same, Reps.mono cr _ _ hr⟩
    · have hb : b ≠ a := fun e => hi (R.inj i j b h1 (e ▸ ha))
      have hk := R.cells i b c h1 h2
      cases c with
      | lst zs => obtain ⟨us, e1, e2⟩ := hk; exact ⟨us, by rw [upd_ne hb]; exact e1, Reps.mono cr _ _ e2⟩
      | dK zs => obtain ⟨us, e1, e2⟩ := hk; exact ⟨us, by rw [upd_ne hb]; exact e1, RepK.mono cr _ _ e2⟩
      | dead => trivial
theorem sgv_sub {o i : Expr} {fo : EV} {fi : EF} (ho : SVj g X W0 o fo) (hi : SE g X W0 i fi)
    (ha : ∀ v, assign (.Subscript o i pos) X.env v = (do
      let ov ← holding [v] (eval o X.env)
      let iv ← holding [v, ov] (eval i X.env)
      standAt pos
      holding [v, ov, iv] (setItem ov iv v)
      release [v, ov, iv] []) := by intro _; rfl) : SGv g X (.Subscript o i pos) (gvSub fo fi) := by
  refine ⟨_, pg_sub ho hi set_list ha, fun P ms cs cs' sg sg' σ H s y Q A r e q => ?_⟩
  cases s with
  | cel j => cases e
  | val p =>
    simp only [gvSub] at e
    refine ⟨P, ms, cs, sg, A, ?_⟩
    revert e
    cases fo sg cs with
    | stuck => exact fun e => by cases e
    | exc _ _ => exact fun e => by cases e
    | ok s1 cs1 =>
      cases s1 with
      | val _ => exact fun e => by cases e
      | cel j =>
        intro e ms1 H1 ov A1 q1
        obtain ⟨a, ha, rfl⟩ := q1
        refine ⟨P, ms1, cs1, sg, A.aft A1, ?_⟩
        dsimp only at e
        revert e
        cases fi sg cs1 with
        | stuck => exact fun e => by cases e
        | exc _ _ => exact fun e => by cases e
        | ok n cs2 =>
          cases n with
          | int n =>
            intro e ms2 H2 iv A2 q2
            have q2 : Rep g H2 (Exl P ms2 cs2) (.int n) iv := q2
            simp only [Rep] at q2
            subst q2
            dsimp only at e
            split at e
            · rename_i xs hc
              split at e
              · rename_i k hk
                cases e
                have A12 := A1.trans A2 A.rel
                have ha2 := A2.pre _ _ ha
                obtain ⟨vs, h1, h2⟩ := A2.rel.cells j a _ ha2 hc
                have ry : Rep g H2 (Exl P ms2 cs2) p y := Rep.aft A.rel A12 r
                have Aw := Aft.write A2.rel ha2 hc h1 (h2.set k ry)
                refine ⟨a, vs, n, k, rfl, rfl, h1, by rw [← h2.length]; exact hk, q ms2 σ _ (A12.trans Aw A.rel) ?_⟩
                exact (A.sl.aft A.rel A12).aft A2.rel Aw
              · cases e
            · cases e
          | _ => exact fun e => by cases e
def sAsg (v : EV) (gt : GV) : BF := fun sg cs => (v sg cs).st sg fun s cs1 => match gt s sg cs1 with
  | some (sg', cs') => .nx sg' cs'
  | none => .stuck
theorem asg_read {fv : EV} {gt : GV} {t : TG} {D : Ends} {σ : L2.St} {H : Hp} (h2 : ∀ (P : Addr → Prop) (ms : List Addr) (cs cs' : Cs) (sg sg' : Sg) (σ : L2.St) (H : Hp) (s : SV) (x : V) (Q : L2.St → Hp → Prop), At g P ms cs sg σ H → RepS g H P ms cs s x → gt s sg cs = some (sg', cs') →
    (∀ ms' σ' H', Aft g P ms cs H P ms' cs' H' → Slots g H' P ms' cs' sg' σ' → Q σ' H') → t x σ H Q) (h : rdS g (sAsg fv gt) W D σ H) : tAsg (rdV g fv W) t D σ H := by
  obtain ⟨P, ms, cs, sg, A, h⟩ := h
  refine ⟨P, ms, cs, sg, A, ?_⟩
  unfold sAsg at h
  revert h
  cases fv sg cs with
  | stuck => exact fun h => h
  | exc e c => exact fun h ms' H' c' d B q => h ms' H' σ c' d B (A.sl.aft A.rel B) q
  | ok s cs1 =>
    intro h ms1 H1 vv A1 q1
    simp only [Res.st] at h
    split at h
    · rename_i sg' cs' hg
      exact h2 P ms1 cs1 cs' sg sg' σ H1 s vv _ (A.aft A1) (rpV1_S q1) hg fun ms2 σ2 H2 A2 S2 => h ms2 H2 σ2 (A1.trans A2 A.rel) S2
    · exact h.elim
theorem ss_asg {tg : Expr} {gt : GV} (he : SVj g X W e fe) (hg : SGv g X tg gt) (hs : swapsWithSole [tg] e pos.line X.env = pure false := by rfl) (hw : swappedStores [tg] e X.env = pure none := by rfl)
    (h1 : (assignEach [tg] X.env).map (·.2) = [assign tg X.env] := by rfl) : SS g X W (.Assign [tg] e pos) (sAsg fe gt) := by
  obtain ⟨t, g1, g2⟩ := hg
  exact PS.imp (ps_asg he g1 hs hw h1) fun D σ H h => asg_read g2 h
theorem ss_setV {i : Nat} {x : Str} {pos' : Pos} (hN : X.N.Nodup) (hi : X.N[i]? = some x) (hx : Loc X.env.scope x) (he : SVj g X W e fe) (hs : swapsWith e (some (.Name x pos')) pos.line X.env = pure false := by rfl) (hf : X.fn x = true ∨ X.env.scope.names.lookup x = some .local := by first | exact .inl rfl | exact .inr rfl | assumption) :
    SS g X W (.Assign [.Name x pos'] e pos) (sAsg fe (gvN i)) :=
  PS.imp (ps_set hN hi hx he hs hf) fun D σ H h => asg_read (fun P ms cs cs' sg sg' σ H s x Q A r e q => by cases e; exact q ms _ H (.refl A.rel) (A.sl.set r)) h
/-- a, b = (e1, e2) with plain names -/
def sPar (i j : Nat) (as : SF) : BF := fun sg cs => (as sg cs).st sg fun xs cs1 => match xs with
  | [x, y] => .nx ((sg.set i (some x)).set j (some y)) cs1
  | _ => .stuck
theorem repSs_two {P : Addr → Prop} {ms : List Addr} {cs : Cs} {H : Hp} {ss : List SV} {vs : List V} {s : SV} (h : RepSs g H (Exl P ms cs) ms (s :: ss) vs) : ∃ v r, vs = v :: r ∧ RepS g H P ms cs s v ∧ RepSs g H (Exl P ms cs) ms ss r := by
  cases s with
  | val p => simp only [RepSs] at h; exact h
  | cel i => simp only [RepSs] at h; obtain ⟨a, r, h1, h2, h3⟩ := h; exact ⟨_, r, h1, ⟨a, h2, rfl⟩, h3⟩
theorem ss_par {i j : Nat} {x y : Str} {a b : Expr} {fs : SF} {px py pt : Pos} {kt k2 pt2} (hc : X.calm = true) (hN : X.N.Nodup) (hi : X.N[i]? = some x) (hj : X.N[j]? = some y) (hij : i ≠ j)
    (hx : X.env.scope.names.lookup x = some .local) (hy : X.env.scope.names.lookup y = some .local) (ha : SSA g X W [a, b] fs)
    (hw : swappedStores [.Tuple [.Name x px, .Name y py] kt pt] (.Tuple [a, b] k2 pt2) X.env = pure (some [x, y]))
    (hs : swapsWithSole [.Tuple [.Name x px, .Name y py] kt pt] (.Tuple [a, b] k2 pt2) pos.line X.env = pure false := by rfl) :
    SS g X W (.Assign [.Tuple [.Name x px, .Name y py] kt pt] (.Tuple [a, b] k2 pt2) pos) (sPar i j fs) :=
  PS.imp (ps_par hc hN hi hj hij hx hy ha hw hs) fun D σ H ⟨P, ms, cs, sg, A, h⟩ => by
    refine ⟨P, ms, cs, sg, A, ?_⟩
    unfold sPar at h
    revert h
    cases fs sg cs with
    | stuck => exact fun h => h
    | exc e c => exact fun h ms' H' c' d B q => h ms' H' σ c' d B (A.sl.aft A.rel B) q
    | ok ss cs1 =>
      intro h ms1 H1 vs A1 q1
      simp only [Res.st] at h
      split at h
      · rename_i s1 s2
        obtain ⟨v, r, rfl, r1, q2⟩ := repSs_two q1
        obtain ⟨w, r', rfl, r2, q3⟩ := repSs_two q2
        simp only [RepSs] at q3
        subst q3
        exact ⟨v, w, rfl, h ms1 H1 _ A1 (((A.sl.aft A.rel A1).set r1).set r2)⟩
      · exact h.elim
/-- a, b, c = (e1, e2, e3) with plain names -/
def sPar3 (i j l : Nat) (as : SF) : BF := fun sg cs => (as sg cs).st sg fun xs cs1 => match xs with
  | [x, y, z] => .nx (((sg.set i (some x)).set j (some y)).set l (some z)) cs1
  | _ => .stuck
theorem ss_par3 {i j l : Nat} {x y z : Str} {a b c : Expr} {fs : SF} {px py pz pt : Pos} {kt k2 pt2} (hc : X.calm = true) (hN : X.N.Nodup) (hi : X.N[i]? = some x) (hj : X.N[j]? = some y) (hl : X.N[l]? = some z) (hij : i ≠ j) (hil : i ≠ l) (hjl : j ≠ l)
    (hx : X.env.scope.names.lookup x = some .local) (hy : X.env.scope.names.lookup y = some .local) (hz : X.env.scope.names.lookup z = some .local) (ha : SSA g X W [a, b, c] fs)
    (hw : swappedStores [.Tuple [.Name x px, .Name y py, .Name z pz] kt pt] (.Tuple [a, b, c] k2 pt2) X.env = pure (some [x, y, z]))
    (hs : swapsWithSole [.Tuple [.Name x px, .Name y py, .Name z pz] kt pt] (.Tuple [a, b, c] k2 pt2) pos.line X.env = pure false := by rfl) :
    SS g X W (.Assign [.Tuple [.Name x px, .Name y py, .Name z pz] kt pt] (.Tuple [a, b, c] k2 pt2) pos) (sPar3 i j l fs) :=
  PS.imp (ps_par3 hc hN hi hj hl hij hil hjl hx hy hz ha hw hs) fun D σ H ⟨P, ms, cs, sg, A, h⟩ => by
    refine ⟨P, ms, cs, sg, A, ?_⟩
    unfold sPar3 at h
    revert h
    cases fs sg cs with
    | stuck => exact fun h => h
    | exc e c => exact fun h ms' H' c' d B q => h ms' H' σ c' d B (A.sl.aft A.rel B) q
    | ok ss cs1 =>
      intro h ms1 H1 vs A1 q1
      simp only [Res.st] at h
      split at h
      · rename_i s1 s2 s3
        obtain ⟨u, r, rfl, r1, q2⟩ := repSs_two q1
        obtain ⟨v, r', rfl, r2, q3⟩ := repSs_two q2
        obtain ⟨w, r'', rfl, r3, q4⟩ := repSs_two q3
        simp only [RepSs] at q4
        subst q4
        exact ⟨u, v, w, rfl, h ms1 H1 _ A1 ((((A.sl.aft A.rel A1).set r1).set r2).set r3)⟩
      · exact h.elim
/-- xs.append(e) as a statement -/
def sApp (o : EV) (f : EF) : BF := fun sg cs => (o sg cs).st sg fun s cs1 => match s with
  | .cel j => (match cs1[j]? with
    | some (.lst _) => (f sg cs1).st sg fun x cs2 => (match cs2[j]? with
      | some (.lst xs) => if xs.length < 16777216 then .nx sg (cs2.set j (.lst (xs ++ [x]))) else .stuck
      | _ => .stuck)
    | _ => .stuck)
  | _ => .stuck
theorem app_read {fo : EV} {f : EF} {D : Ends} {σ : L2.St} {H : Hp} (h : rdS g (sApp fo f) W D σ H) : tDrop (tBM X.K "list" rAppend (rdV g fo W) (tCons (rdE g f W) tNil)) D σ H := by
  obtain ⟨P, ms, cs, sg, A, h⟩ := h
  refine ⟨P, ms, cs, sg, A, ?_⟩
  unfold sApp at h
  revert h
  cases fo sg cs with
  | stuck => exact fun h => h
  | exc e c => exact fun h ms' H' c' d B q => h ms' H' σ c' d B (A.sl.aft A.rel B) q
  | ok s cs1 =>
    intro h ms1 H1 vv A1 q1
    simp only [Res.st] at h
    split at h
    · rename_i j
      split at h
      · rename_i xs0 hc0
        obtain ⟨a, ha, rfl⟩ := q1
        obtain ⟨vs0, hl0, _⟩ := A1.rel.cells j a _ ha hc0
        refine ⟨.inl ⟨rfl, vs0, .of hl0⟩, P, ms1, cs1, sg, A.aft A1, ?_⟩
        revert h
        cases f sg cs1 with
        | stuck => exact fun h => h
        | exc e c => exact fun h ms' H' c' d B q => h ms' H' σ c' d (A1.trans B A.rel) ((A.sl.aft A.rel A1).aft A1.rel B) q
        | ok x cs2 =>
          intro h ms2 H2 xx A2 q2
          dsimp only at h
          split at h
          · rename_i xs hc
            split at h
            · rename_i hlen
              have ha2 := A2.pre _ _ ha
              obtain ⟨vs, hl, hr⟩ := A2.rel.cells j a _ ha2 hc
              have Aw := Aft.write A2.rel ha2 hc hl (hr.append (.one q2))
              refine ⟨a, vs, xx, rfl, rfl, hl, by rw [← hr.length, sizeLine_eq]; exact hlen, ?_⟩
              exact h ms2 _ σ ((A1.trans A2 A.rel).trans Aw A.rel) (((A.sl.aft A.rel A1).aft A1.rel A2).aft A2.rel Aw)
            · exact h.elim
          · exact h.elim
      · exact h.elim
    · exact h.elim
theorem ss_app {o : Expr} {fo : EV} {f : EF} {apos cpos : Pos} (ho : SVj g X W o fo) (he : SE g X W e f)
    (hbase : attributeBase o "append" X.env (eval o X.env) = eval o X.env := by rfl)
    (hfew : ((backTo cpos (starEach [e] X.env)).all (fun x => !x.1) && (backToKw cpos (keywordEach [] X.env)).all (fun x => x.1.isSome)
      && decide ([e].length + ([] : List Keyword).length + (if ([] : List Keyword).isEmpty then 0 else 1) < 30)) = true := by rfl)
    (hline : (apos.endLine == cpos.line) = true := by rfl) (hs : starEach [e] X.env = (false, eval e X.env) :: starEach [] X.env := by rfl) (hplain : (backTo cpos (starEach [] X.env)).any (·.1) = false := by rfl) :
    SS g X W (.Expr (.Call (.Attribute o "append" apos) [e] [] cpos) pos) (sApp fo f) :=
  PS.imp (ps_expr (pe_bm PySem.F.plainAttrs_list PySem.F.slot_list_append PySem.F.type_list_append mt_append ho (pa_cons he pa_nil hs) hbase hfew hline hs hplain)) fun D σ H => app_read
end
end Ev

set_option Elab.async false
set_option linter.all false
set_option maxRecDepth 100000
set_option maxHeartbeats 4000000
/-! Ev: iterators over lists and tuples: plain, enumerate, zip. -/
namespace Ev
open PySem PySem.Spec PyProof.Rows L2

inductive Kd where
  | L | T
def SqQ (k : Kd) (K : PySem.W.Frag) (H : Hp) (a : Addr) (xs : List V) : Prop := match k with
  | .L => SqL K H a xs | .T => SqT K H a xs
def ItrQ (k : Kd) (h : Heap) (it a : Addr) (i : Nat) : Prop := match k with
  | .L => h.IsListIter it a i | .T => h.IsTupleIter it a i
def IsQ (k : Kd) (h : Heap) (a : Addr) (its : Array Value) : Prop := match k with
  | .L => h.IsList a its | .T => h.IsTuple a its
def ObQ (k : Kd) (a : Addr) : Obj := match k with
  | .L => { cls := .type "list_iterator", data := .fields #[.ref a, .int 0 0] }
  | .T => { cls := .type "tuple_iterator", data := .fields #[.ref a, .int 0 0] }
theorem SqQ.inj {X : Cx} {pins : List (Addr × Obj)} {σ : L2.St} {H : Hp} {s : Shared} {k : Kd} {a : Addr} {xs ys : List V} (I : Inv X pins σ H s) (h : SqQ k X.K H a xs) (h' : SqQ k X.K H a ys) : xs = ys := by
  cases k
  · exact I.list_inj h h'
  · exact I.tuple_inj h h'
theorem SqQ.its {X : Cx} {pins : List (Addr × Obj)} {σ : L2.St} {H : Hp} {s : Shared} {k : Kd} {a : Addr} {xs : List V} (I : Inv X pins σ H s) (h : SqQ k X.K H a xs) : ∃ its, Vals xs its ∧ IsQ k s.heap a its.toArray ∧ a < s.heap.objs.size := by
  cases k
  · obtain ⟨its, rv, p, _⟩ := I.list h
    exact ⟨its, rv, p.isList, p.lt⟩
  · obtain ⟨its, rv, p, _⟩ := I.tuple h
    obtain ⟨o, ho, _⟩ := id p
    exact ⟨its, rv, p, Heap.lt_size ho⟩
theorem begins_Q (k : Kd) (a : Addr) (its : Array Value) : Begins (.ref a) (ObQ k a) fun h => IsQ k h a its := by
  cases k
  · exact begins_list a its
  · exact begins_tuple a its
theorem draws_Q {prog : Program} {w : World} {A : Around} (hh : A.handled = none) (k : Kd) (it a : Addr) (hne : a ≠ it) (its : Array Value) :
    Draws prog w A it [it, a] its.size (fun i v => its[i]? = some v) (fun i h => ItrQ k h it a i ∧ IsQ k h a its) := by
  cases k
  · exact .list hh it a hne its
  · exact .tuple hh it a hne its
theorem ItrQ.obj {k : Kd} {h : Heap} {it a : Addr} {i : Nat} (x : ItrQ k h it a i) : ∃ o, h.get? it = some o ∧ ∀ v, o.data ≠ .cell v := by
  cases k
  · obtain ⟨o, e, c, d⟩ := x
    exact ⟨o, e, fun v z => by rw [d] at z; cases z⟩
  · obtain ⟨o, e, c, d⟩ := x
    exact ⟨o, e, fun v z => by rw [d] at z; cases z⟩
theorem ItrQ.at {k : Kd} {h h' : Heap} {it a : Addr} {i : Nat} (x : ItrQ k h it a i) (e : ∀ o, h.get? it = some o → h'.get? it = some o) : ItrQ k h' it a i := by
  cases k
  · obtain ⟨o, e1, c, d⟩ := x
    exact ⟨o, e _ e1, c, d⟩
  · obtain ⟨o, e1, c, d⟩ := x
    exact ⟨o, e _ e1, c, d⟩
theorem ItrQ.lt {k : Kd} {h : Heap} {it a : Addr} {i : Nat} (x : ItrQ k h it a i) : it < h.objs.size := by
  obtain ⟨o, e, _⟩ := x.obj
  exact Heap.lt_size e
theorem itrQ_new {k : Kd} {h : Heap} {it a : Addr} (e : h.get? it = some (ObQ k a)) : ItrQ k h it a 0 := by
  cases k
  · exact ⟨_, e, rfl, rfl⟩
  · exact ⟨_, e, rfl, rfl⟩
/-- the sequence at a as it stands at each turn -/
def It1 (K : PySem.W.Frag) (k : Kd) (a : Addr) : It :=
  ⟨fun i H => ∃ xs x, SqQ k K H a xs ∧ xs[i]? = some x, fun i H x H' => H' = H ∧ ∀ xs, SqQ k K H a xs → xs[i]? = some x, fun i H => ∃ xs, SqQ k K H a xs ∧ xs.length ≤ i⟩
def ItE (K : PySem.W.Frag) (k : Kd) (a : Addr) : It :=
  ⟨fun i H => ∃ (xs : List V) (x : V), SqQ k K H a xs ∧ xs[i]? = some x, fun i H v H' => ∃ T x, v = .ref T ∧ H T = none ∧ H' = upd H T (.tup [.int (i : Nat), x]) ∧ ∀ xs, SqQ k K H a xs → xs[i]? = some x, fun i H => ∃ xs : List V, SqQ k K H a xs ∧ xs.length ≤ i⟩
def ItZ (K : PySem.W.Frag) (k1 k2 : Kd) (a b : Addr) : It :=
  ⟨fun i H => ∃ (xs ys : List V) (x y : V), SqQ k1 K H a xs ∧ SqQ k2 K H b ys ∧ xs[i]? = some x ∧ ys[i]? = some y,
    fun i H v H' => ∃ T x y, v = .ref T ∧ H T = none ∧ H' = upd H T (.tup [x, y]) ∧ (∀ xs, SqQ k1 K H a xs → xs[i]? = some x) ∧ ∀ ys, SqQ k2 K H b ys → ys[i]? = some y,
    fun i H => ∃ xs ys : List V, SqQ k1 K H a xs ∧ SqQ k2 K H b ys ∧ (i = xs.length ∨ i = ys.length) ∧ i ≤ xs.length ∧ i ≤ ys.length⟩
def iSeqQ (K : PySem.W.Frag) (tl : TE) : TI := fun σ H R => tl σ H fun x H1 => ∃ k a, x = .ref a ∧ (∃ xs, SqQ k K H1 a xs) ∧ R (It1 K k a) H1
theorem pi_seqQ {X : Cx} {tg l : Expr} {tl : TE} (hl : PE X l tl) : PI X tg l (iSeqQ X.K tl) := by
  refine ⟨fun pins s σ H R I h => ?_⟩
  refine thn (hl.run pins s σ H _ I h) fun v s1 ⟨x, H1, I1, r1, q1⟩ => ?_
  obtain ⟨k, a, e, ⟨xs, hq⟩, q⟩ := q1
  subst e
  cases r1
  cases k
  · obtain ⟨its, rv, p, hz⟩ := I1.list hq
    refine wpAny_pyIter_list p.isList ?_
    refine ⟨s1.heap.objs.size, [s1.heap.objs.size], _, _, H1, rfl, I1.kept (t' := s1.toks) fun b o e => Heap.get?_push_of_some _ e, turn_list a _, ⟨_, Heap.get?_push_size _ rfl, rfl, rfl⟩, fun b hb => ?_, q⟩
    have e : b = s1.heap.objs.size := by simpa using hb
    subst e
    exact I1.fpOk (Nat.le_refl _) (I1.hok.fresh (Nat.le_refl _))
  · obtain ⟨its, rv, p, hz⟩ := I1.tuple hq
    refine wpAny_pyIter_tuple (show s1.heap.IsTuple a its.toArray from p) ?_
    refine ⟨s1.heap.objs.size, [s1.heap.objs.size], _, _, H1, rfl, I1.kept (t' := s1.toks) fun b o e => Heap.get?_push_of_some _ e, turn_tuple a _, ⟨_, Heap.get?_push_size _ rfl, rfl, rfl⟩, fun b hb => ?_, q⟩
    have e : b = s1.heap.objs.size := by simpa using hb
    subst e
    exact I1.fpOk (Nat.le_refl _) (I1.hok.fresh (Nat.le_refl _))
/-! ### enumerate -/
theorem turn_enumQ {P : Program} {w : World} {K : PySem.W.Frag} {elts : List Expr} {kk : Nat} {tpos : Pos} (k : Kd) (a e it : Addr) (hne : e ≠ it) (hae : a ≠ e) (hai : a ≠ it) :
    Turn P w K (.Tuple elts kk tpos) (ItE K k a) [e, it] e (fun i h => (∃ old, IsEnum h e it ((i : Nat) : Int) old) ∧ ItrQ k h it a i) where
  mem := by simp
  obj := fun i h st b hb => by
    obtain ⟨⟨old, he⟩, hi⟩ := st
    have e' : b = e ∨ b = it := by simpa using hb
    rcases e' with z | z
    · rw [z]; exact ⟨_, he, fun v q => nomatch q⟩
    · rw [z]; exact hi.obj
  keep := fun i h h' st kp => let ⟨⟨old, he⟩, hi⟩ := st; ⟨⟨old, kp e (by simp) _ he⟩, hi.at fun o q => kp it (by simp) o q⟩
  item := by
    intro X hP hw hK hc i pins s σ H E I hf st hg
    subst hP hw hK
    obtain ⟨⟨old, he⟩, hit⟩ := st
    obtain ⟨xs, x, hq, hx⟩ := hg
    obtain ⟨its, rv, p, hal⟩ := hq.its I
    obtain ⟨u, hu, ru⟩ := rv.get hx
    have hel : e < s.heap.objs.size := Heap.lt_size he
    have hil : it < s.heap.objs.size := hit.lt
    have hlt : i < its.toArray.size := by have := (List.getElem?_eq_some_iff.mp hu).1; simpa using this
    have D := draws_Q (prog := X.prog) (w := X.w) (A := X.A.in1) (show X.A.in1.handled = none from I.ok.hd hc) k it a hai its.toArray
    refine wpAny_pyNext_enum_itemD D he ⟨hit, p⟩ hlt hne (by simp [hne, Ne.symm hae]) fun x' h' tk Px ho st' hT hsz hk => ?_
    have ex : x' = u := by
      have e1 : its.toArray[i]? = some u := by simpa using hu
      rw [e1] at Px
      exact (Option.some.inj Px).symm
    subst ex
    refine ⟨_, rfl, wpAny_letOwnedTupleGo_enum (s := { s with heap := h', toks := tk + 1 }) ho fun h'' he' sb => ?_⟩
    have hT2 : h''.get? s.heap.objs.size = some { cls := .type "tuple", data := .seq #[.int i tk, x'] } := (sb.2 _ (Nat.ne_of_gt hel)).trans hT
    have new : ObjOk X.prog X.w (upd H s.heap.objs.size (.tup [.int (i : Nat), x])) h'' s.heap.objs.size (.tup [.int (i : Nat), x]) :=
      ⟨by show 2 ≤ sizeLine; decide, [.int i tk, x'], .cons ⟨_, rfl⟩ (.cons ru .nil), ⟨_, hT2, rfl, _, rfl⟩⟩
    have I1 : Inv X pins σ (upd H s.heap.objs.size (.tup [.int (i : Nat), x])) { s with heap := h'', toks := tk + 1 } :=
      I.turnedNew (ch := [e, it]) (fun b ob hb q => (sb.2 b (fun z => hb (by simp [z]))).trans (hk b ob (fun z => hb (by simp [z])) (fun z => hb (by simp [z])) q)) hf (Nat.le_refl _) new
    refine ⟨.ref s.heap.objs.size, _, I1, rfl, ⟨_, x, rfl, I.hok.fresh (Nat.le_refl _), rfl, fun ys hy => by rw [SqQ.inj I hy hq]; exact hx⟩, ⟨⟨x', ?_⟩, st'.1.at fun o q => (sb.2 it (Ne.symm hne)).trans q⟩, fun b hb => ?_⟩
    · have e1 : ((i + 1 : Nat) : Int) = (i : Int) + 1 := by omega
      rw [e1]; exact he'
    · have hb' : b < s.heap.objs.size := by
        have e' : b = e ∨ b = it := by simpa using hb
        rcases e' with z | z
        · rw [z]; exact hel
        · rw [z]; exact hil
      rw [upd_ne (Nat.ne_of_lt hb')]
      exact (hf b hb).1
  done := by
    intro X hP hw hK hc i pins s σ H E I hf st hg
    subst hP hw hK
    obtain ⟨⟨old, he⟩, hit⟩ := st
    obtain ⟨xs, hq, hx⟩ := hg
    obtain ⟨f0, f1, f2, f3, f4, f5⟩ := hf it (by simp)
    cases k
    · obtain ⟨its, rv, p, hz⟩ := I.list hq
      have hl := rv.length
      exact wpAny_pyNext_enum_end (I.ok.hd hc) he hit p.isList (by simp; omega) fun h' eb => ⟨rfl, I.turned (t' := s.toks) (fun b o hb q => eb b o hb q) f0 f1 f3 f4 f5⟩
    · obtain ⟨its, rv, p, hz⟩ := I.tuple hq
      have hl := rv.length
      have hT : s.TypeIs (.ref e) "enumerate" := ⟨_, he, rfl⟩
      unfold pyNext
      refine wpAny_bind (wpAny_attempt (wpAny_callSpecial?_slot (name := Str.ofString "__next__") hT F.slot_enumerate_next
        (wpAny_call_entry F.slot_enumerate_next hT F.entry_enumerate_next ?_ (F.args_enumerate_next_1 _))))
      show wpAny _ _ (field (.ref e) 2 >>= _) _ _ _
      refine wpAny_bind (wpAny_field he rfl (x := .ref it) rfl ?_)
      refine wpAny_bind (wpAny_nextOf_tuple_end (show X.A.in1.handled = none from I.ok.hd hc) hit (show s.heap.IsTuple a its.toArray from p) (by simp; omega) fun h' x he' hx' => ?_)
      obtain ⟨o, ho, hc⟩ := hx'
      refine wpAny_bind (wpAny_isInstance (T := "StopIteration") (b := true) ⟨o, ho, hc⟩ isSubtype_stop ?_)
      exact wpAny_pure ⟨rfl, I.turned (t' := s.toks) (fun b o hb q => he' b o hb q) f0 f1 f3 f4 f5⟩
  self := fun A i s Q E st h => let ⟨⟨_, he⟩, _⟩ := st; wpAny_pyIter_enum he h
set_option maxHeartbeats 1000000 in
theorem meets_enumerate_new1 {v : Value} {o : Obj} {H : Heap → Prop} (B : Begins v o H) :
    Meets (Builtin.«enumerate.__new__» ⟨[.type "enumerate", v], []⟩) (fun _ R s => H s.heap ∧
      R (.ok (.ret (.ref (s.heap.push o).objs.size))) { s with heap := (s.heap.push o).push { cls := .type "enumerate", data := .fields #[.none, .bool false, .ref s.heap.objs.size, rawInt 0, .none, .none] } }) :=
  .of_wp fun prog w A R s h => by
    obtain ⟨hp, g, d, tk, os⟩ := s; obtain ⟨h1, h⟩ := h
    have hsub := sub_enumerate
    have q1 : ∀ {A' : Around} {E : Value → Shared → Prop} {Q : Value → Shared → Prop}, Q (.ref hp.objs.size) ⟨hp.push o, g, d, tk, os⟩ → wpAny (model prog w) A' (pyIter v) Q E ⟨hp, g, d, tk, os⟩ :=
      fun q => B.iter prog w _ _ ⟨hp, g, d, tk, os⟩ _ h1 q
    wp_walk using q1
    refine wpAny_stack_any fun st => wpAny_pure ?_
    split
    · rename_i c _ _ _ _ _
      cases (c == Value.type "enumerate")
      · wp_walk using q1
        exact ⟨_, rfl, h⟩
      · wp_walk using q1
        exact ⟨_, rfl, h⟩
    · wp_walk using q1
      exact ⟨_, rfl, h⟩
section
variable {prog : Program} {w : World} {A : Around} {E : Value → Shared → Prop} {s : Shared}
theorem call_enum1 {v : Value} {o : Obj} {H : Heap → Prop} {Q : Value → Shared → Prop} (B : Begins v o H) (h1 : H s.heap)
    (h : ∀ h', IsEnum h' (s.heap.objs.size + 1) s.heap.objs.size 0 .none → h'.get? s.heap.objs.size = some o → h'.objs.size = s.heap.objs.size + 2 →
      (∀ b o, s.heap.get? b = some o → h'.get? b = some o) → Q (.ref (s.heap.objs.size + 1)) { s with heap := h' }) :
    wpAny (model prog w) A (call (.type "enumerate") [v]) Q E s := by
  refine callType_new F.called_enumerate (by decide) (F.typeCall_enumerate_1 _) (F.newCall_enumerate_1 _) (fun obj => F.args_object_init_2 obj _) F.entry_enumerate_new
    (meets_enumerate_new1 B) ⟨h1, ?_⟩
  have hz : (s.heap.push o).objs.size = s.heap.objs.size + 1 := Heap.size_push ..
  show _ ∧ _
  rw [hz]
  have he : IsEnum ((s.heap.push o).push { cls := .type "enumerate", data := .fields #[.none, .bool false, .ref s.heap.objs.size, rawInt 0, .none, .none] }) (s.heap.objs.size + 1) s.heap.objs.size 0 .none := by
    have := Heap.get?_push_size (s.heap.push o) (o := { cls := .type "enumerate", data := .fields #[.none, .bool false, .ref s.heap.objs.size, rawInt 0, .none, .none] }) rfl
    rw [hz] at this; exact this
  refine ⟨⟨_, he, rfl⟩, h _ he (Heap.get?_push_of_some _ (Heap.get?_push_size _ B.free)) (by rw [Heap.size_push, hz]) fun b o x => Heap.get?_push_of_some _ (Heap.get?_push_of_some _ x)⟩
end
def iEnumQ (K : PySem.W.Frag) (ta : TA) : TI := fun σ H R => ta σ H fun vs H1 => ∃ k a xs, vs = [.ref a] ∧ SqQ k K H1 a xs ∧ R (ItE K k a) H1
theorem pi_enumQ {X : Cx} {e : Expr} {ta : TA} {p pos tpos : Pos} {elts : List Expr} {kk : Nat} (hg : Gl X "enumerate") (hm : X.mg "enumerate" = none) (ha : PA X [e] ta) (hs : starEach [e] X.env = [(false, eval e X.env)] := by rfl) :
    PI X (.Tuple elts kk tpos) (.Call (.Name "enumerate" p) [e] [] pos) (iEnumQ X.K ta) := by
  refine ⟨fun pins s σ H R I h => ?_⟩
  refine Call_ (ld_blt I hg hm boot_enumerate (PyProof.Rows.callWith_type1 (thn (ha.run pos pins s σ H _ I h) fun us s1 ⟨vs, H1, I1, r1, q1⟩ => ?_) hs rfl))
  obtain ⟨k, a, xs, ex, hq, q⟩ := q1
  subst ex
  cases r1 with
  | cons r rr =>
    cases rr
    cases r
    obtain ⟨its, rv, p', hal⟩ := hq.its I1
    refine call_enum1 (begins_Q k a its.toArray) p' fun h' he hit hsz hk => wpAny_pyIter_enum he ?_
    have I2 : Inv X pins σ H1 { s1 with heap := h' } := I1.kept (t' := s1.toks) hk
    refine ⟨s1.heap.objs.size + 1, [s1.heap.objs.size + 1, s1.heap.objs.size], _, _, H1, rfl, I2, turn_enumQ k a (s1.heap.objs.size + 1) s1.heap.objs.size (Nat.succ_ne_self _) (Nat.ne_of_lt (Nat.lt_succ_of_lt hal)) (Nat.ne_of_lt hal), ⟨⟨.none, he⟩, itrQ_new hit⟩, fun b hb => ?_, q⟩
    have e' : b = s1.heap.objs.size + 1 ∨ b = s1.heap.objs.size := by simpa using hb
    have hle : s1.heap.objs.size ≤ b := by
      rcases e' with z | z
      · rw [z]; exact Nat.le_add_right _ _
      · rw [z]; exact Nat.le_refl _
    exact I1.fpOk hle (I1.hok.fresh hle)
/-! ### zip -/
theorem turn_zipQ {P : Program} {w : World} {K : PySem.W.Frag} {elts : List Expr} {kk : Nat} {tpos : Pos} (k1 k2 : Kd) {a b z TI TO i1 i2 : Addr} (S : ZipSep2 z TI TO i1 i2 [i1, a] [i2, b]) (na : a ≠ i1) (nb : b ≠ i2) :
    Turn P w K (.Tuple elts kk tpos) (ItZ K k1 k2 a b) [z, TI, TO, i1, i2] z (fun i h => IsZip h z TI TO .none ∧ IsTupOf2 h TI (.ref i1) (.ref i2) ∧ (∃ x y, IsTupOf2 h TO x y) ∧ ItrQ k1 h i1 a i ∧ ItrQ k2 h i2 b i) where
  mem := by simp
  obj := fun i h st c hc => by
    obtain ⟨hz, hTI, ⟨x, y, hTO⟩, h1, h2⟩ := st
    have e' : c = z ∨ c = TI ∨ c = TO ∨ c = i1 ∨ c = i2 := by simpa using hc
    rcases e' with q | q | q | q | q
    · rw [q]; exact ⟨_, hz, fun v q => nomatch q⟩
    · rw [q]; exact ⟨_, hTI, fun v q => nomatch q⟩
    · rw [q]; exact ⟨_, hTO, fun v q => nomatch q⟩
    · rw [q]; exact h1.obj
    · rw [q]; exact h2.obj
  keep := fun i h h' st k => by
    obtain ⟨hz, hTI, ⟨x, y, hTO⟩, h1, h2⟩ := st
    exact ⟨k z (by simp) _ hz, k TI (by simp) _ hTI, ⟨x, y, k TO (by simp) _ hTO⟩, h1.at fun o q => k i1 (by simp) o q, h2.at fun o q => k i2 (by simp) o q⟩
  item := by
    intro X hP hw hK hc i pins s σ H E I hf st hg
    subst hP hw hK
    obtain ⟨hz, hTI, ⟨x0, y0, hTO⟩, h1, h2⟩ := st
    obtain ⟨xs, ys, x, y, hqx, hqy, hx, hy⟩ := hg
    obtain ⟨its, rv, p, _⟩ := hqx.its I
    obtain ⟨its2, rv2, p2, _⟩ := hqy.its I
    obtain ⟨u, hu, ru⟩ := rv.get hx
    obtain ⟨u2, hu2, ru2⟩ := rv2.get hy
    have hzl : z < s.heap.objs.size := Heap.lt_size hz
    have D1 := draws_Q (prog := X.prog) (w := X.w) (A := X.A.in1) (show X.A.in1.handled = none from I.ok.hd hc) k1 i1 a na its.toArray
    have D2 := draws_Q (prog := X.prog) (w := X.w) (A := X.A.in1) (show X.A.in1.handled = none from I.ok.hd hc) k2 i2 b nb its2.toArray
    have lt1 : i < its.toArray.size := by have := (List.getElem?_eq_some_iff.mp hu).1; simpa using this
    have lt2 : i < its2.toArray.size := by have := (List.getElem?_eq_some_iff.mp hu2).1; simpa using this
    refine wpAny_pyNext_zipD2_item S D1 D2 hz hTI hTO ⟨h1, p⟩ ⟨h2, p2⟩ lt1 lt2 fun x1 x2 h' tk Px Py z' TO' st1 st2 hT hsz hk => ?_
    have ex : x1 = u := by
      have e1 : its.toArray[i]? = some u := by simpa using hu
      rw [e1] at Px
      exact (Option.some.inj Px).symm
    have ey : x2 = u2 := by
      have e1 : its2.toArray[i]? = some u2 := by simpa using hu2
      rw [e1] at Py
      exact (Option.some.inj Py).symm
    subst ex ey
    refine ⟨_, rfl, wpAny_letOwnedTupleGo_zip (s := { s with heap := h', toks := tk }) z' fun h'' z'' sb => ?_⟩
    have hT2 : h''.get? s.heap.objs.size = some { cls := .type "tuple", data := .seq #[x1, x2] } := (sb.2 _ (Nat.ne_of_gt hzl)).trans hT
    have new : ObjOk X.prog X.w (upd H s.heap.objs.size (.tup [x, y])) h'' s.heap.objs.size (.tup [x, y]) :=
      ⟨by show 2 ≤ sizeLine; decide, [x1, x2], .cons ru (.cons ru2 .nil), ⟨_, hT2, rfl, _, rfl⟩⟩
    have I1 : Inv X pins σ (upd H s.heap.objs.size (.tup [x, y])) { s with heap := h'', toks := tk } :=
      I.turnedNew (ch := [z, TI, TO, i1, i2]) (fun c o hb q => (sb.2 c (fun q' => hb (by simp [q']))).trans (hk c o (fun q' => hb (by simp [q'])) (fun q' => hb (by simp [q'])) (fun q' => hb (by simp [q'])) (fun q' => hb (by simp [q'])) q)) hf (Nat.le_refl _) new
    refine ⟨.ref s.heap.objs.size, _, I1, rfl, ⟨_, x, y, rfl, I.hok.fresh (Nat.le_refl _), rfl, fun l hl => by rw [SqQ.inj I hl hqx]; exact hx, fun l hl => by rw [SqQ.inj I hl hqy]; exact hy⟩, ⟨z'', ?_, ⟨x1, x2, ?_⟩, ?_, ?_⟩, fun c hcm => ?_⟩
    · exact (sb.2 _ S.TIz).trans (hk _ _ S.TIz S.TITO S.TIi1 S.TIi2 hTI)
    · exact (sb.2 _ S.TOz).trans TO'
    · exact st1.1.at fun o q => (sb.2 _ (Ne.symm S.zi1)).trans q
    · exact st2.1.at fun o q => (sb.2 _ (Ne.symm S.zi2)).trans q
    · have hlt : c < s.heap.objs.size := by
        have e' : c = z ∨ c = TI ∨ c = TO ∨ c = i1 ∨ c = i2 := by simpa using hcm
        rcases e' with q | q | q | q | q
        · rw [q]; exact hzl
        · rw [q]; exact Heap.lt_size hTI
        · rw [q]; exact Heap.lt_size hTO
        · rw [q]; exact h1.lt
        · rw [q]; exact h2.lt
      rw [upd_ne (Nat.ne_of_lt hlt)]
      exact (hf c hcm).1
  done := by
    intro X hP hw hK hc i pins s σ H E I hf st hg
    subst hP hw hK
    obtain ⟨hz, hTI, ⟨x0, y0, hTO⟩, h1, h2⟩ := st
    obtain ⟨xs, ys, hqx, hqy, hend, le1, le2⟩ := hg
    obtain ⟨its, rv, p, _⟩ := hqx.its I
    obtain ⟨its2, rv2, p2, _⟩ := hqy.its I
    have l1 := rv.length
    have l2 := rv2.length
    have D1 := draws_Q (prog := X.prog) (w := X.w) (A := X.A.in1) (show X.A.in1.handled = none from I.ok.hd hc) k1 i1 a na its.toArray
    have D2 := draws_Q (prog := X.prog) (w := X.w) (A := X.A.in1) (show X.A.in1.handled = none from I.ok.hd hc) k2 i2 b nb its2.toArray
    exact wpAny_pyNext_zipD2_end S D1 D2 hz hTI hTO ⟨h1, p⟩ ⟨h2, p2⟩ (by simp; omega) (by simp; omega) (by simp; omega) fun h' tk hk => ⟨rfl, I.turnedL (t' := tk) (ch := [z, TI, TO, i1, i2]) (fun c o hb q =>
      hk c o (fun q' => hb (by simp [q'])) (fun q' => hb (by simp [q'])) (fun q' => hb (by simp [q'])) (fun q' => hb (by simp [q'])) q) hf⟩
  self := fun A i s Q E st h => wpAny_pyIter_zip st.1 h
def iZipQ (K : PySem.W.Frag) (ta : TA) : TI := fun σ H R => ta σ H fun vs H1 => ∃ k1 k2 a b xs ys, vs = [.ref a, .ref b] ∧ SqQ k1 K H1 a xs ∧ SqQ k2 K H1 b ys ∧ R (ItZ K k1 k2 a b) H1
theorem pi_zipQ {X : Cx} {e e2 : Expr} {ta : TA} {p pos tpos : Pos} {elts : List Expr} {kk : Nat} (hg : Gl X "zip") (hm : X.mg "zip" = none) (ha : PA X [e, e2] ta)
    (hs : starEach [e, e2] X.env = (false, eval e X.env) :: starEach [e2] X.env := by rfl) (hpl : (backTo pos (starEach [e2] X.env)).any (·.1) = false := by rfl) :
    PI X (.Tuple elts kk tpos) (.Call (.Name "zip" p) [e, e2] [] pos) (iZipQ X.K ta) := by
  refine ⟨fun pins s σ H R I h => ?_⟩
  refine Call_ (ld_blt I hg hm PyProof.Rows.boot_zip (PyProof.Rows.callWith_type1 (thn (ha.run pos pins s σ H _ I h) fun us s1 ⟨vs, H1, I1, r1, q1⟩ => ?_) hs hpl))
  obtain ⟨k1, k2, a, b, xs, ys, ex, hqx, hqy, q⟩ := q1
  subst ex
  cases r1 with
  | cons r rr =>
    cases rr with
    | cons r' rr =>
      cases rr
      cases r
      cases r'
      obtain ⟨its, rv, p1, la⟩ := hqx.its I1
      obtain ⟨its2, rv2, p2, lb⟩ := hqy.its I1
      refine zip_begins2 (begins_Q k1 a its.toArray) (begins_Q k2 b its2.toArray) p1 p2 fun h' hz hTI hTO h1 h2 hsz hk => wpAny_pyIter_zip hz ?_
      have I2 : Inv X pins σ H1 { s1 with heap := h' } := I1.kept (t' := s1.toks) hk
      refine ⟨s1.heap.objs.size + 4, [s1.heap.objs.size + 4, s1.heap.objs.size + 2, s1.heap.objs.size + 3, s1.heap.objs.size, s1.heap.objs.size + 1], _, _, H1, rfl, I2,
        turn_zipQ k1 k2 (zip_sep2 (fp1 := [a]) (fp2 := [b]) (by simpa using la) (by simpa using lb)) (Nat.ne_of_lt la) (Nat.ne_of_lt (Nat.lt_succ_of_lt lb)), ⟨hz, hTI, ⟨_, _, hTO⟩, itrQ_new h1, itrQ_new h2⟩, fun c hcm => ?_, q⟩
      have e' : c = s1.heap.objs.size + 4 ∨ c = s1.heap.objs.size + 2 ∨ c = s1.heap.objs.size + 3 ∨ c = s1.heap.objs.size ∨ c = s1.heap.objs.size + 1 := by simpa using hcm
      have hle : s1.heap.objs.size ≤ c := by
        rcases e' with z | z | z | z | z
        · rw [z]; exact Nat.le_add_right _ _
        · rw [z]; exact Nat.le_add_right _ _
        · rw [z]; exact Nat.le_add_right _ _
        · rw [z]; exact Nat.le_refl _
        · rw [z]; exact Nat.le_add_right _ _
      exact I1.fpOk hle (I1.hok.fresh hle)
end Ev

set_option Elab.async false
set_option linter.all false
set_option maxRecDepth 100000
set_option maxHeartbeats 4000000
/-! Ev: nested iterators, 1: what next does. -/
namespace Ev
open PySem PySem.Spec PyProof.Rows L2

def KO (ch : List Addr) (h h' : Heap) : Prop := ∀ b o, b ∉ ch → h.get? b = some o → h'.get? b = some o
/-- draws that may lay new things -/
structure DrX (prog : Program) (w : World) (A : Around) (it : Addr) (ch fp : List Addr) (n : Nat) (P : Nat → Heap → Value → Heap → Prop) (St : Nat → Heap → Prop) : Prop where
  sub : ∀ b ∈ ch, b ∈ fp
  live : ∀ i h, St i h → ∀ b ∈ fp, ∃ o, h.get? b = some o
  frame : ∀ i h h', St i h → (∀ b ∈ fp, ∀ o, h.get? b = some o → h'.get? b = some o) → St i h'
  item : ∀ i (s : Shared) (Q : Value → Shared → Prop) (E : Value → Shared → Prop), i < n → St i s.heap →
    (∀ x h' tk, P i s.heap x h' → St (i + 1) h' → KO ch s.heap h' → s.heap.objs.size ≤ h'.objs.size → Q x { s with heap := h', toks := tk }) → wpAny (model prog w) A (Builtin.SmallTypes.nextOf (.ref it)) Q E s
  done : ∀ (s : Shared) (Q : Value → Shared → Prop) (E : Value → Shared → Prop), St n s.heap →
    (∀ h' tk e, KO ch s.heap h' → (∃ o, h'.get? e = some o ∧ o.cls = .type "StopIteration") → E (.ref e) { s with heap := h', toks := tk }) → wpAny (model prog w) A (Builtin.SmallTypes.nextOf (.ref it)) Q E s
theorem DrX.of {prog : Program} {w : World} {A : Around} {it : Addr} {fp : List Addr} {n : Nat} {P : Nat → Value → Prop} {St : Nat → Heap → Prop} (D : Draws prog w A it fp n P St) (hm : it ∈ fp) (hl : ∀ i h, St i h → ∀ b ∈ fp, ∃ o, h.get? b = some o) :
    DrX prog w A it [it] fp n (fun i _ x _ => P i x) St where
  sub := fun b hb => by rw [show b = it by simpa using hb]; exact hm
  live := hl
  frame := D.frame
  item := fun i s Q E hi st hQ => D.item i s Q E hi st fun x h' tk p st' sb => hQ x h' tk p st' (fun b o hb e => sb.extBut b o (by simpa using hb) e) (Nat.le_of_eq sb.1.symm)
  done := fun s Q E st hE => D.done s Q E st fun h' e k x => hE h' s.toks e (fun b o hb q => k b o (by simpa using hb) q) x
def OwnV (v : Value) : Prop := v = .none ∨ ∃ T : Addr, v = rawInt T
abbrev IsZG (h : Heap) (z TI TO : Addr) (v0 : Value) (f : Bool) : Prop :=
  h.get? z = some { cls := .type "zip", dict := none, data := .fields #[v0, .bool f, .bool false, .ref TI, .ref TO], slots := #[] }
abbrev IsEG (h : Heap) (e it : Addr) (i : Int) (old : Value) (v0 : Value) (f : Bool) : Prop :=
  h.get? e = some { cls := .type "enumerate", dict := none, data := .fields #[v0, .bool f, .ref it, rawInt i, .none, old], slots := #[] }
section
variable {prog : Program} {w : World} {A : Around} {E : Value → Shared → Prop} {s : Shared}
theorem alive_any {a : Addr} {Q : Option Obj → Shared → Prop} (h : Q (s.heap.get? a) s) : wpAny (model prog w) A (loadIfAlive a) Q E s := fun _ _ _ => h
theorem owned_zip {z TI TO : Addr} {v0 : Value} {f : Bool} {Q : Bool → Shared → Prop} (hz : IsZG s.heap z TI TO v0 f) (hv : OwnV v0) (h1 : Q true s)
    (h2 : v0 ≠ .none → ∀ h', IsZG h' z TI TO v0 true → Heap.SameBut z s.heap h' → Q false { s with heap := h' }) : wpAny (model prog w) A (Builtin.SmallTypes.ownedTupleIsFree (.ref z)) Q E s := by
  unfold Builtin.SmallTypes.ownedTupleIsFree
  refine wpAny_bind (wpAny_field hz rfl (x := v0) rfl ?_)
  rcases hv with rfl | ⟨T, rfl⟩
  · exact wpAny_pure h1
  · show wpAny _ _ (loadIfAlive ((T : Int).toNat) >>= _) _ _ _
    rw [Int.toNat_natCast]
    refine wpAny_bind (alive_any ?_)
    cases hg : s.heap.get? T with
    | none => exact wpAny_pure h1
    | some oT =>
      simp only [Option.isNone_some, Bool.false_eq_true, if_false]
      refine wpAny_bind (wpAny_field hz rfl (x := .bool f) rfl ?_)
      cases f with
      | true =>
        rw [if_neg (show ¬ ((Value.bool true != Value.bool true) = true) from Bool.false_ne_true)]
        exact wpAny_pure (h2 (fun z => nomatch z) s.heap hz (Heap.SameBut.refl _ _))
      | false =>
        rw [if_pos (show (Value.bool false != Value.bool true) = true from rfl)]
        exact wpAny_bind (wpAny_setField_rec hz (by simp) fun h₁ hz₁ hs₁ => wpAny_pure (h2 (fun z => nomatch z) h₁ hz₁ hs₁))
theorem owned_enum {e it : Addr} {i : Int} {x v0 : Value} {f : Bool} {Q : Bool → Shared → Prop} (he : IsEG s.heap e it i x v0 f) (hv : OwnV v0) (h1 : Q true s)
    (h2 : v0 ≠ .none → ∀ h', IsEG h' e it i x v0 true → Heap.SameBut e s.heap h' → Q false { s with heap := h' }) : wpAny (model prog w) A (Builtin.SmallTypes.ownedTupleIsFree (.ref e)) Q E s := by
  unfold Builtin.SmallTypes.ownedTupleIsFree
  refine wpAny_bind (wpAny_field he rfl (x := v0) rfl ?_)
  rcases hv with rfl | ⟨T, rfl⟩
  · exact wpAny_pure h1
  · show wpAny _ _ (loadIfAlive ((T : Int).toNat) >>= _) _ _ _
    rw [Int.toNat_natCast]
    refine wpAny_bind (alive_any ?_)
    cases hg : s.heap.get? T with
    | none => exact wpAny_pure h1
    | some oT =>
      simp only [Option.isNone_some, Bool.false_eq_true, if_false]
      refine wpAny_bind (wpAny_field he rfl (x := .bool f) rfl ?_)
      cases f with
      | true =>
        rw [if_neg (show ¬ ((Value.bool true != Value.bool true) = true) from Bool.false_ne_true)]
        exact wpAny_pure (h2 (fun z => nomatch z) s.heap he (Heap.SameBut.refl _ _))
      | false =>
        rw [if_pos (show (Value.bool false != Value.bool true) = true from rfl)]
        exact wpAny_bind (wpAny_setField_rec he (by simp) fun h₁ hz₁ hs₁ => wpAny_pure (h2 (fun z => nomatch z) h₁ hz₁ hs₁))
theorem KO.of {ch : List Addr} {x : Addr} {h h' : Heap} (sb : Heap.SameBut x h h') (hx : x ∈ ch) : KO ch h h' := fun b o hb e => sb.extBut b o (fun q => hb (q ▸ hx)) e
theorem KO.trans {ch : List Addr} {h h' h'' : Heap} (a : KO ch h h') (b : KO ch h' h'') : KO ch h h'' := fun c o hc e => b c o hc (a c o hc e)
theorem KO.sub {ch ch' : List Addr} {h h' : Heap} (a : KO ch h h') (s : ∀ b ∈ ch, b ∈ ch') : KO ch' h h' := fun c o hc e => a c o (fun q => hc (s c q)) e
theorem KO.push {ch : List Addr} {h : Heap} {o : Obj} : KO ch h (h.push o) := fun c o hc e => Heap.get?_push_of_some _ e
/-! ### enumerate over what draws -/
theorem enumX_item {e it : Addr} {ch fp : List Addr} {n i : Nat} {P : Nat → Heap → Value → Heap → Prop} {St : Nat → Heap → Prop} {old v0 : Value} {f : Bool} {Q : Value → Shared → Prop}
    (D : DrX prog w A it ch fp n P St) (he : IsEG s.heap e it i old v0 f) (hv : OwnV v0) (hst : St i s.heap) (hlt : i < n) (hef : e ∉ fp)
    (hQ : ∀ x h₁ h' tk T v0' f' old', P i s.heap x h₁ → (∀ b o, b ≠ e → h₁.get? b = some o → h'.get? b = some o ∧ b < T) → IsEG h' e it ((i : Int) + 1) old' v0' f' → OwnV v0' → (v0 = .none → v0' = rawInt T ∧ f' = false) → St (i + 1) h' →
      h'.get? T = some { cls := .type "tuple", data := .seq #[.int i tk, x] } → s.heap.objs.size ≤ T → s.heap.objs.size ≤ h'.objs.size → KO (e :: ch) s.heap h' → Q (.ref T) { s with heap := h', toks := tk + 1 }) :
    wpAny (model prog w) A (Builtin.«enumerate.__next__» ⟨[.ref e], []⟩) (fun fin s' => ∃ v, fin = .done (.ret v) ∧ Q v s') E s := by
  obtain ⟨hp, g, d, tk₀, os⟩ := s
  have hec : e ∉ ch := fun q => hef (D.sub _ q)
  show wpAny _ _ (field (.ref e) 2 >>= _) _ _ _
  refine wpAny_bind (wpAny_field he rfl (x := .ref it) rfl ?_)
  refine wpAny_bind (D.item i _ _ _ hlt hst fun x h₁ tk hPx hit₁ hs₁ hz1 => ?_)
  replace hs₁ : KO ch hp h₁ := hs₁
  replace hz1 : hp.objs.size ≤ h₁.objs.size := hz1
  have he₁ : IsEG h₁ e it i old v0 f := hs₁ e _ hec he
  show wpAny _ _ (field (.ref e) 3 >>= _) _ _ ⟨h₁, g, d, tk, os⟩
  refine wpAny_bind (wpAny_field he₁ rfl (x := rawInt i) rfl ?_)
  show wpAny _ _ (field (.ref e) 4 >>= _) _ _ ⟨h₁, g, d, tk, os⟩
  refine wpAny_bind (wpAny_field he₁ rfl (x := .none) rfl ?_)
  show wpAny _ _ (mkInt i >>= _) _ _ ⟨h₁, g, d, tk, os⟩
  refine wpAny_bind (wpAny_mkInt ?_)
  show wpAny _ _ (setField (.ref e) 3 (rawInt ((i : Int) + 1)) >>= _) _ _ ⟨h₁, g, d, tk + 1, os⟩
  refine wpAny_bind (wpAny_setField_rec he₁ (by simp) fun h₂ he₂ hs₂ => ?_)
  replace hs₂ : Heap.SameBut e h₁ h₂ := hs₂
  replace he₂ : IsEG h₂ e it ((i : Int) + 1) old v0 f := he₂
  show wpAny _ _ (setField (.ref e) 4 .none >>= _) _ _ ⟨h₂, g, d, tk + 1, os⟩
  refine wpAny_bind (wpAny_setField_rec he₂ (by simp) fun h₃ he₃ hs₃ => ?_)
  replace hs₃ : Heap.SameBut e h₂ h₃ := hs₃
  replace he₃ : IsEG h₃ e it ((i : Int) + 1) old v0 f := he₃
  show wpAny _ _ (newTuple [.int i tk, x] >>= _) _ _ ⟨h₃, g, d, tk + 1, os⟩
  refine wpAny_bind (wpAny_newTuple ?_)
  have he₄ : IsEG (h₃.push { cls := .type "tuple", data := .seq #[.int i tk, x] }) e it ((i : Int) + 1) old v0 f := Heap.get?_push_of_some _ he₃
  generalize hh₄ : h₃.push { cls := .type "tuple", data := .seq #[.int i tk, x] } = h₄ at he₄
  have hsz : h₃.objs.size = h₁.objs.size := by rw [hs₃.1, hs₂.1]
  have hel : e < h₁.objs.size := Heap.lt_size he₁
  have ht₄ : h₄.get? h₁.objs.size = some { cls := .type "tuple", data := .seq #[.int i tk, x] } := by rw [← hh₄, ← hsz]; exact Heap.get?_push_size _ rfl
  have hz₄ : h₄.objs.size = h₁.objs.size + 1 := by rw [← hh₄, Heap.size_push, hsz]
  have hk₄ : ∀ b o, b ≠ e → h₁.get? b = some o → h₄.get? b = some o := fun b o hbe hb => by
    rw [← hh₄]; exact Heap.get?_push_of_some _ (hs₃.extBut b o hbe (hs₂.extBut b o hbe hb))
  show wpAny _ _ (Builtin.SmallTypes.ownedTupleIsFree (.ref e) >>= _) _ _ ⟨h₄, g, d, tk + 1, os⟩
  rw [hsz]
  clear hh₄ he₃ hs₃ he₂ hs₂ hsz h₃ h₂
  have fin : ∀ (h₅ : Heap) (v0' : Value) (f' : Bool) (old' : Value), IsEG h₅ e it ((i : Int) + 1) old' v0' f' → OwnV v0' → (v0 = .none → v0' = rawInt h₁.objs.size ∧ f' = false) → (∀ b o, b ≠ e → h₄.get? b = some o → h₅.get? b = some o) → h₅.objs.size = h₄.objs.size → Q (.ref h₁.objs.size) ⟨h₅, g, d, tk + 1, os⟩ := by
    intro h₅ v0' f' old' a1 a2 a3 a4 a5
    refine hQ x h₁ h₅ tk h₁.objs.size v0' f' old' hPx (fun b o hb e' => ⟨a4 b o hb (hk₄ b o hb e'), Heap.lt_size e'⟩) a1 a2 a3 ?_ (a4 _ _ (Nat.ne_of_gt hel) ht₄) hz1 ?_ ?_
    · exact D.frame _ _ _ hit₁ fun b hb o y => by
        have hbe : b ≠ e := fun q => hef (q ▸ hb)
        exact a4 b o hbe (hk₄ b o hbe y)
    · show hp.objs.size ≤ _
      rw [a5, hz₄]
      omega
    · intro b o hb y
      have hbe : b ≠ e := fun q => hb (by simp [q])
      exact a4 b o hbe (hk₄ b o hbe (hs₁ b o (fun q => hb (by simp [q])) y))
  refine wpAny_bind (owned_enum (s := ⟨h₄, g, d, tk + 1, os⟩) he₄ hv ?_ fun hv0 h₅ he₅ hs₅ => ?_)
  · simp only [if_true]
    refine wpAny_bind (wpAny_rule ?_)
    refine wpAny_bind (wpAny_field he₄ rfl (x := old) rfl ?_)
    refine wpAny_bind (wpAny_setField_rec he₄ (by simp) fun h₅ he₅ hs₅ => ?_)
    replace hs₅ : Heap.SameBut e h₄ h₅ := hs₅
    replace he₅ : IsEG h₅ e it ((i : Int) + 1) x v0 f := he₅
    show wpAny _ _ (Builtin.SmallTypes.ownedTupleHandOut (.ref e) (.ref h₁.objs.size) >>= _) _ _ ⟨h₅, g, d, tk + 1, os⟩
    refine wpAny_bind ?_
    unfold Builtin.SmallTypes.ownedTupleHandOut
    refine wpAny_bind (wpAny_setField_rec he₅ (by simp) fun h₆ he₆ hs₆ => ?_)
    replace hs₆ : Heap.SameBut e h₅ h₆ := hs₆
    replace he₆ : IsEG h₆ e it ((i : Int) + 1) x (rawInt h₁.objs.size) f := he₆
    refine wpAny_setField_rec he₆ (by simp) fun h₇ he₇ hs₇ => ?_
    replace hs₇ : Heap.SameBut e h₆ h₇ := hs₇
    replace he₇ : IsEG h₇ e it ((i : Int) + 1) x (rawInt h₁.objs.size) false := he₇
    exact wpAny_bind (wpAny_letGo (wpAny_pure ⟨_, rfl, fin h₇ _ _ _ he₇ (.inr ⟨_, rfl⟩) (fun _ => ⟨rfl, rfl⟩) (fun b o hb y => hs₇.extBut b o hb (hs₆.extBut b o hb (hs₅.extBut b o hb y))) (by rw [hs₇.1, hs₆.1, hs₅.1])⟩))
  · simp only [Bool.false_eq_true, if_false]
    replace hs₅ : Heap.SameBut e h₄ h₅ := hs₅
    exact wpAny_pure ⟨_, rfl, fin h₅ _ _ _ he₅ hv (fun q => absurd q hv0) (fun b o hb y => hs₅.extBut b o hb y) hs₅.1⟩
theorem enumX_done {e it : Addr} {ch fp : List Addr} {n : Nat} {i : Int} {P : Nat → Heap → Value → Heap → Prop} {St : Nat → Heap → Prop} {old v0 : Value} {f : Bool} {Q : Fin → Shared → Prop}
    (D : DrX prog w A it ch fp n P St) (he : IsEG s.heap e it i old v0 f) (hst : St n s.heap)
    (hE : ∀ h' tk x, KO ch s.heap h' → (∃ o, h'.get? x = some o ∧ o.cls = .type "StopIteration") → E (.ref x) { s with heap := h', toks := tk }) :
    wpAny (model prog w) A (Builtin.«enumerate.__next__» ⟨[.ref e], []⟩) Q E s := by
  show wpAny _ _ (field (.ref e) 2 >>= _) _ _ _
  refine wpAny_bind (wpAny_field he rfl (x := .ref it) rfl ?_)
  exact wpAny_bind (D.done _ _ _ hst hE)
end
end Ev

set_option Elab.async false
set_option linter.all false
set_option maxRecDepth 100000
set_option maxHeartbeats 4000000
/-! Ev: nested iterators, 2: zip over what draws. -/
namespace Ev
open PySem PySem.Spec PyProof.Rows L2

structure ZSep (z TI TO : Addr) (ch1 fp1 ch2 fp2 : List Addr) : Prop where
  TIz : TI ≠ z
  TOz : TO ≠ z
  TITO : TI ≠ TO
  zf1 : z ∉ fp1
  zf2 : z ∉ fp2
  Of1 : TO ∉ fp1
  Of2 : TO ∉ fp2
  If1 : TI ∉ fp1
  If2 : TI ∉ fp2
  s12 : ∀ b ∈ ch1, b ∉ fp2
  s21 : ∀ b ∈ ch2, b ∉ fp1
section
variable {prog : Program} {w : World} {A : Around} {E : Value → Shared → Prop} {s : Shared}
theorem DrX.over {it : Addr} {ch fp : List Addr} {n : Nat} {P : Nat → Heap → Value → Heap → Prop} {St : Nat → Heap → Prop} (D : DrX prog w A it ch fp n P St) {i : Nat} {h h' : Heap} {x : Addr} (st : St i h) (hs : Heap.SameBut x h h') (hx : x ∉ fp) : St i h' :=
  D.frame i h h' st fun b hb o e => hs.extBut b o (fun q => hx (q ▸ hb)) e
theorem DrX.overK {it : Addr} {ch fp ch' : List Addr} {n : Nat} {P : Nat → Heap → Value → Heap → Prop} {St : Nat → Heap → Prop} (D : DrX prog w A it ch fp n P St) {i : Nat} {h h' : Heap} (st : St i h) (hs : KO ch' h h') (hx : ∀ b ∈ ch', b ∉ fp) : St i h' :=
  D.frame i h h' st fun b hb o e => hs b o (fun q => hx b q hb) e
theorem zipX_item {z TI TO i1 i2 : Addr} {ch1 fp1 ch2 fp2 : List Addr} {n1 n2 i : Nat} {P1 P2 : Nat → Heap → Value → Heap → Prop} {St1 St2 : Nat → Heap → Prop} {a1 a2 v0 : Value} {f : Bool} {Q : Value → Shared → Prop}
    (S : ZSep z TI TO ch1 fp1 ch2 fp2) (D1 : DrX prog w A i1 ch1 fp1 n1 P1 St1) (D2 : DrX prog w A i2 ch2 fp2 n2 P2 St2)
    (hz : IsZG s.heap z TI TO v0 f) (hv : OwnV v0) (hTI : IsTupOf2 s.heap TI (.ref i1) (.ref i2)) (hTO : IsTupOf2 s.heap TO a1 a2) (st1 : St1 i s.heap) (st2 : St2 i s.heap) (hlt1 : i < n1) (hlt2 : i < n2)
    (hQ : ∀ x1 x2 h' tk T v0' f' q1 p1 q2 p2, P1 i q1 x1 p1 → P2 i q2 x2 p2 → s.heap.objs.size ≤ q1.objs.size → s.heap.objs.size ≤ q2.objs.size →
      (∀ b o, s.heap.objs.size ≤ b → p1.get? b = some o → h'.get? b = some o ∧ b < T) → (∀ b o, s.heap.objs.size ≤ b → p2.get? b = some o → h'.get? b = some o ∧ b < T) →
      IsZG h' z TI TO v0' f' → OwnV v0' → (v0 = .none → v0' = rawInt T ∧ f' = false) → (∃ b1 b2, IsTupOf2 h' TO b1 b2) → St1 (i + 1) h' → St2 (i + 1) h' → IsTupOf2 h' T x1 x2 → s.heap.objs.size ≤ T → s.heap.objs.size ≤ h'.objs.size →
      KO (z :: TO :: (ch1 ++ ch2)) s.heap h' → Q (.ref T) { s with heap := h', toks := tk }) :
    wpAny (model prog w) A (Builtin.«zip.__next__» ⟨[.ref z], []⟩) (fun fin s' => ∃ v, fin = .done (.ret v) ∧ Q v s') E s := by
  obtain ⟨hp, g, d, tk0, os⟩ := s
  have zc1 : z ∉ ch1 := fun q => S.zf1 (D1.sub _ q)
  have zc2 : z ∉ ch2 := fun q => S.zf2 (D2.sub _ q)
  have Oc1 : TO ∉ ch1 := fun q => S.Of1 (D1.sub _ q)
  have Oc2 : TO ∉ ch2 := fun q => S.Of2 (D2.sub _ q)
  have zl : z < hp.objs.size := Heap.lt_size hz
  have Ol : TO < hp.objs.size := Heap.lt_size hTO
  have c2l : ∀ b ∈ ch2, b < hp.objs.size := fun b hb => by
    obtain ⟨o, ho⟩ := D2.live _ _ st2 b (D2.sub b hb)
    exact Heap.lt_size ho
  show wpAny _ _ (field (.ref z) 2 >>= _) _ _ _
  refine wpAny_bind (wpAny_field hz rfl (x := .bool false) rfl ?_)
  show wpAny _ _ (field (.ref z) 3 >>= _) _ _ _
  refine wpAny_bind (wpAny_field hz rfl (x := .ref TI) rfl ?_)
  refine wpAny_bind (wpAny_seqItems hTI rfl ?_)
  show wpAny _ _ (Builtin.SmallTypes.ownedTupleIsFree (.ref z) >>= _) _ _ _
  refine wpAny_bind (owned_zip hz hv ?_ fun hv0 g0 hz0 hs0 => ?_)
  · simp only [if_true]
    refine wpAny_bind (wpAny_rule ?_)
    refine wpAny_bind (wpAny_field hz rfl (x := .ref TO) rfl ?_)
    refine wpAny_bind (wpAny_setField_rec hz (by simp) fun g0 hz0 hs0 => ?_)
    replace hz0 : IsZG g0 z TI TO .ellipsis f := hz0
    replace hs0 : Heap.SameBut z hp g0 := hs0
    refine wpAny_bind ?_
    simp only [List.zipIdx_cons, List.zipIdx_nil, List.forIn_cons, List.forIn_nil]
    refine wpAny_bind (wpAny_bind (wpAny_onRaise ?_))
    show wpAny _ _ (Builtin.SmallTypes.nextOf (.ref i1) >>= _) _ _ ⟨g0, g, d, tk0, os⟩
    refine wpAny_bind (D1.item i _ _ _ hlt1 (D1.over st1 hs0 S.zf1) fun x1 p1 tk1 hx1 sn1 hp1 hz1 => wpAny_pure ?_)
    replace hp1 : KO ch1 g0 p1 := hp1
    replace hz1 : g0.objs.size ≤ p1.objs.size := hz1
    have hU1 : IsTupOf2 p1 TO a1 a2 := hp1 _ _ Oc1 (hs0.extBut _ _ S.TOz hTO)
    refine wpAny_bind (wpAny_seqItems (s := ⟨p1, g, d, tk1, os⟩) hU1 rfl ?_)
    refine wpAny_bind (updateSeq_IsTupOf2 (s := ⟨p1, g, d, tk1, os⟩) hU1 fun g1 hT1 hs1 => ?_)
    replace hT1 : IsTupOf2 g1 TO x1 a2 := hT1
    replace hs1 : Heap.SameBut TO p1 g1 := hs1
    refine wpAny_bind (wpAny_letGo (wpAny_pure ?_))
    refine wpAny_bind (wpAny_bind (wpAny_onRaise ?_))
    show wpAny _ _ (Builtin.SmallTypes.nextOf (.ref i2) >>= _) _ _ ⟨g1, g, d, tk1, os⟩
    refine wpAny_bind (D2.item i _ _ _ hlt2 (D2.over (D2.overK (D2.over st2 hs0 S.zf2) hp1 S.s12) hs1 S.Of2) fun x2 p2 tk2 hx2 sn2 hp2 hz2 => wpAny_pure ?_)
    replace hp2 : KO ch2 g1 p2 := hp2
    replace hz2 : g1.objs.size ≤ p2.objs.size := hz2
    have hU2 : IsTupOf2 p2 TO x1 a2 := hp2 _ _ Oc2 hT1
    refine wpAny_bind (wpAny_seqItems (s := ⟨p2, g, d, tk2, os⟩) hU2 rfl ?_)
    refine wpAny_bind (updateSeq_IsTupOf2 (s := ⟨p2, g, d, tk2, os⟩) hU2 fun g2 hT2 hs2 => ?_)
    replace hT2 : IsTupOf2 g2 TO x1 x2 := hT2
    replace hs2 : Heap.SameBut TO p2 g2 := hs2
    refine wpAny_bind (wpAny_letGo (wpAny_pure (wpAny_pure ?_)))
    refine wpAny_bind (wpAny_seqItems (s := ⟨g2, g, d, tk2, os⟩) hT2 rfl ?_)
    refine wpAny_bind (wpAny_newTuple ?_)
    have e0 := hs0.1
    have e1 := hs1.1
    have e2 := hs2.1
    have hzz : IsZG g2 z TI TO .ellipsis f := hs2.extBut _ _ S.TOz.symm (hp2 _ _ zc2 (hs1.extBut _ _ S.TOz.symm (hp1 _ _ zc1 hz0)))
    have hj1 : St1 (i + 1) g2 := D1.over (D1.overK (D1.over sn1 hs1 S.Of1) hp2 S.s21) hs2 S.Of1
    have hj2 : St2 (i + 1) g2 := D2.over sn2 hs2 S.Of2
    have hzlt : z < g2.objs.size := Heap.lt_size hzz
    show wpAny _ _ (Builtin.SmallTypes.ownedTupleHandOut (.ref z) (.ref g2.objs.size) >>= _) _ _ ⟨g2.push { cls := .type "tuple", data := .seq #[x1, x2] }, g, d, tk2, os⟩
    refine wpAny_bind ?_
    unfold Builtin.SmallTypes.ownedTupleHandOut
    have hz₆ : IsZG (g2.push { cls := .type "tuple", data := .seq #[x1, x2] }) z TI TO .ellipsis f := Heap.get?_push_of_some _ hzz
    refine wpAny_bind (wpAny_setField_rec hz₆ (by simp) fun h₇ hz₇ hs₇ => ?_)
    replace hz₇ : IsZG h₇ z TI TO (rawInt g2.objs.size) f := hz₇
    refine wpAny_setField_rec hz₇ (by simp) fun h₈ hz₈ hs₈ => ?_
    replace hz₈ : IsZG h₈ z TI TO (rawInt g2.objs.size) false := hz₈
    replace hs₇ : Heap.SameBut z (g2.push { cls := .type "tuple", data := .seq #[x1, x2] }) h₇ := hs₇
    replace hs₈ : Heap.SameBut z h₇ h₈ := hs₈
    have up : ∀ c o, c ≠ z → g2.get? c = some o → h₈.get? c = some o := fun c o c1 e => hs₈.extBut _ _ c1 (hs₇.extBut _ _ c1 (Heap.get?_push_of_some _ e))
    have hT₈ : IsTupOf2 h₈ g2.objs.size x1 x2 := hs₈.extBut _ _ (Nat.ne_of_gt hzlt) (hs₇.extBut _ _ (Nat.ne_of_gt hzlt) (Heap.get?_push_size _ rfl))
    have hz8 : h₈.objs.size = g2.objs.size + 1 := by rw [hs₈.1, hs₇.1, Heap.size_push]
    refine wpAny_pure ⟨_, rfl, ?_⟩
    show Q (.ref g2.objs.size) ⟨h₈, g, d, tk2, os⟩
    have u2 : ∀ b o, hp.objs.size ≤ b → p2.get? b = some o → h₈.get? b = some o ∧ b < g2.objs.size := fun b o hb e => by
      have x1' : b ≠ z := Nat.ne_of_gt (Nat.lt_of_lt_of_le zl hb)
      have x2' : b ≠ TO := Nat.ne_of_gt (Nat.lt_of_lt_of_le Ol hb)
      have := hs2.extBut _ _ x2' e
      exact ⟨up _ _ x1' this, Heap.lt_size this⟩
    refine hQ x1 x2 h₈ tk2 g2.objs.size _ _ g0 p1 g1 p2 hx1 hx2 (Nat.le_of_eq e0.symm) ?_ (fun b o hb e => ?_) u2 hz₈ (.inr ⟨_, rfl⟩) (fun _ => ⟨rfl, rfl⟩) ⟨_, _, up _ _ S.TOz hT2⟩ (D1.frame _ _ _ hj1 fun b hb o e => up b o (fun q => S.zf1 (q ▸ hb)) e)
      (D2.frame _ _ _ hj2 fun b hb o e => up b o (fun q => S.zf2 (q ▸ hb)) e) hT₈ ?_ ?_ fun c o hc e => ?_
    · show hp.objs.size ≤ _
      omega
    · have x2' : b ≠ TO := Nat.ne_of_gt (Nat.lt_of_lt_of_le Ol hb)
      exact u2 b o hb (hp2 b o (fun q => absurd (c2l b q) (Nat.not_lt_of_le hb)) (hs1.extBut _ _ x2' e))
    · show hp.objs.size ≤ _
      omega
    · show hp.objs.size ≤ _
      omega
    · have cz : c ≠ z := fun q => hc (by simp [q])
      have cT : c ≠ TO := fun q => hc (by simp [q])
      have c1 : c ∉ ch1 := fun q => hc (by simp [q])
      have c2 : c ∉ ch2 := fun q => hc (by simp [q])
      exact up c o cz (hs2.extBut _ _ cT (hp2 _ _ c2 (hs1.extBut _ _ cT (hp1 _ _ c1 (hs0.extBut _ _ cz e)))))
  · simp only [Bool.false_eq_true, if_false]
    replace hs0 : Heap.SameBut z hp g0 := hs0
    refine wpAny_bind ?_
    rw [← Array.forIn_toList]
    simp only [List.forIn_cons, List.forIn_nil]
    refine wpAny_bind (wpAny_bind (wpAny_holding ?_))
    show wpAny _ _ (Builtin.SmallTypes.nextOf (.ref i1) >>= _) _ _ ⟨g0, g, d, tk0, os⟩
    refine wpAny_bind (D1.item i _ _ _ hlt1 (D1.over st1 hs0 S.zf1) fun x1 p1 tk1 hx1 sn1 hp1 hz1 => wpAny_pure ?_)
    replace hp1 : KO ch1 g0 p1 := hp1
    replace hz1 : g0.objs.size ≤ p1.objs.size := hz1
    refine wpAny_pure ?_
    refine wpAny_bind (wpAny_bind (wpAny_holding ?_))
    show wpAny _ _ (Builtin.SmallTypes.nextOf (.ref i2) >>= _) _ _ ⟨p1, g, d, tk1, os⟩
    refine wpAny_bind (D2.item i _ _ _ hlt2 (D2.overK (D2.over st2 hs0 S.zf2) hp1 S.s12) fun x2 p2 tk2 hx2 sn2 hp2 hz2 => wpAny_pure ?_)
    replace hp2 : KO ch2 p1 p2 := hp2
    replace hz2 : p1.objs.size ≤ p2.objs.size := hz2
    refine wpAny_pure (wpAny_pure ?_)
    show wpAny _ _ (newTuple [x1, x2] >>= _) _ _ _
    refine wpAny_bind (wpAny_newTuple (wpAny_pure ⟨_, rfl, ?_⟩))
    have e0 := hs0.1
    show Q (.ref p2.objs.size) ⟨p2.push { cls := .type "tuple", data := .seq #[x1, x2] }, g, d, tk2, os⟩
    have hz4 : (p2.push { cls := .type "tuple", data := .seq #[x1, x2] }).objs.size = p2.objs.size + 1 := Heap.size_push ..
    have hjz : IsZG p2 z TI TO v0 true := hp2 _ _ zc2 (hp1 _ _ zc1 hz0)
    have u2 : ∀ b o, hp.objs.size ≤ b → p2.get? b = some o → (p2.push { cls := .type "tuple", data := .seq #[x1, x2] }).get? b = some o ∧ b < p2.objs.size := fun b o hb e => ⟨Heap.get?_push_of_some _ e, Heap.lt_size e⟩
    refine hQ x1 x2 _ tk2 p2.objs.size v0 true g0 p1 p1 p2 hx1 hx2 (Nat.le_of_eq e0.symm) ?_ (fun b o hb e => ?_) u2 (Heap.get?_push_of_some _ hjz) hv (fun q => absurd q hv0) ⟨a1, a2, Heap.get?_push_of_some _ (hp2 _ _ Oc2 (hp1 _ _ Oc1 (hs0.extBut _ _ S.TOz hTO)))⟩
      (D1.frame _ _ _ (D1.overK sn1 hp2 S.s21) fun b hb o e => Heap.get?_push_of_some _ e) (D2.frame _ _ _ sn2 fun b hb o e => Heap.get?_push_of_some _ e) (Heap.get?_push_size _ rfl) ?_ ?_ fun c o hc e => ?_
    · show hp.objs.size ≤ _
      omega
    · exact u2 b o hb (hp2 b o (fun q => absurd (c2l b q) (Nat.not_lt_of_le hb)) e)
    · show hp.objs.size ≤ _
      omega
    · show hp.objs.size ≤ _
      omega
    · have cz : c ≠ z := fun q => hc (by simp [q])
      have c1 : c ∉ ch1 := fun q => hc (by simp [q])
      have c2 : c ∉ ch2 := fun q => hc (by simp [q])
      exact Heap.get?_push_of_some _ (hp2 _ _ c2 (hp1 _ _ c1 (hs0.extBut _ _ cz e)))
theorem zipX_done {z TI TO i1 i2 : Addr} {ch1 fp1 ch2 fp2 : List Addr} {n1 n2 i : Nat} {P1 P2 : Nat → Heap → Value → Heap → Prop} {St1 St2 : Nat → Heap → Prop} {a1 a2 v0 : Value} {f : Bool} {Q : Fin → Shared → Prop}
    (S : ZSep z TI TO ch1 fp1 ch2 fp2) (D1 : DrX prog w A i1 ch1 fp1 n1 P1 St1) (D2 : DrX prog w A i2 ch2 fp2 n2 P2 St2)
    (hz : IsZG s.heap z TI TO v0 f) (hv : OwnV v0) (hTI : IsTupOf2 s.heap TI (.ref i1) (.ref i2)) (hTO : IsTupOf2 s.heap TO a1 a2) (st1 : St1 i s.heap) (st2 : St2 i s.heap) (hle1 : i ≤ n1) (hle2 : i ≤ n2) (hend : i = n1 ∨ i = n2)
    (hE : ∀ h' tk x, KO (z :: TO :: (ch1 ++ ch2)) s.heap h' → (∃ o, h'.get? x = some o ∧ o.cls = .type "StopIteration") → E (.ref x) { s with heap := h', toks := tk }) :
    wpAny (model prog w) A (Builtin.«zip.__next__» ⟨[.ref z], []⟩) Q E s := by
  obtain ⟨hp, g, d, tk0, os⟩ := s
  have zc1 : z ∉ ch1 := fun q => S.zf1 (D1.sub _ q)
  have zc2 : z ∉ ch2 := fun q => S.zf2 (D2.sub _ q)
  have Oc1 : TO ∉ ch1 := fun q => S.Of1 (D1.sub _ q)
  show wpAny _ _ (field (.ref z) 2 >>= _) _ _ _
  refine wpAny_bind (wpAny_field hz rfl (x := .bool false) rfl ?_)
  show wpAny _ _ (field (.ref z) 3 >>= _) _ _ _
  refine wpAny_bind (wpAny_field hz rfl (x := .ref TI) rfl ?_)
  refine wpAny_bind (wpAny_seqItems hTI rfl ?_)
  show wpAny _ _ (Builtin.SmallTypes.ownedTupleIsFree (.ref z) >>= _) _ _ _
  refine wpAny_bind (owned_zip hz hv ?_ fun hv0 g0 hz0 hs0 => ?_)
  · simp only [if_true]
    refine wpAny_bind (wpAny_rule ?_)
    refine wpAny_bind (wpAny_field hz rfl (x := .ref TO) rfl ?_)
    refine wpAny_bind (wpAny_setField_rec hz (by simp) fun g0 hz0 hs0 => ?_)
    replace hz0 : IsZG g0 z TI TO .ellipsis f := hz0
    replace hs0 : Heap.SameBut z hp g0 := hs0
    have fin : ∀ q tk e, KO (z :: TO :: (ch1 ++ ch2)) hp q → (∃ o, q.get? e = some o ∧ o.cls = .type "StopIteration") → IsZG q z TI TO .ellipsis f → wpAny (model prog w) A (setField (.ref z) 0 .none) (fun _ s'' => E (.ref e) s'') E ⟨q, g, d, tk, os⟩ := by
      intro q tk e hk ⟨oe, hoe, hce⟩ hzq
      have hez : e ≠ z := fun x => by subst x; rw [hzq] at hoe; cases hoe; simp at hce
      refine wpAny_setField_rec (s := ⟨q, g, d, tk, os⟩) hzq (by simp) fun q' _ hq' => ?_
      replace hq' : Heap.SameBut z q q' := hq'
      exact hE q' tk e (hk.trans (KO.of hq' (by simp))) ⟨oe, hq'.extBut _ _ hez hoe, hce⟩
    refine wpAny_bind ?_
    simp only [List.zipIdx_cons, List.zipIdx_nil, List.forIn_cons, List.forIn_nil]
    refine wpAny_bind (wpAny_bind (wpAny_onRaise ?_))
    show wpAny _ _ (Builtin.SmallTypes.nextOf (.ref i1) >>= _) _ _ ⟨g0, g, d, tk0, os⟩
    have k0 : KO (z :: TO :: (ch1 ++ ch2)) hp g0 := KO.of hs0 (by simp)
    by_cases hlt1 : i < n1
    · refine wpAny_bind (D1.item i _ _ _ hlt1 (D1.over st1 hs0 S.zf1) fun x1 p1 tk1 hx1 sn1 hp1 hz1 => wpAny_pure ?_)
      replace hp1 : KO ch1 g0 p1 := hp1
      have hU1 : IsTupOf2 p1 TO a1 a2 := hp1 _ _ Oc1 (hs0.extBut _ _ S.TOz hTO)
      refine wpAny_bind (wpAny_seqItems (s := ⟨p1, g, d, tk1, os⟩) hU1 rfl ?_)
      refine wpAny_bind (updateSeq_IsTupOf2 (s := ⟨p1, g, d, tk1, os⟩) hU1 fun g1 hT1 hs1 => ?_)
      replace hs1 : Heap.SameBut TO p1 g1 := hs1
      refine wpAny_bind (wpAny_letGo (wpAny_pure ?_))
      have hi2 : i = n2 := by omega
      refine wpAny_bind (wpAny_bind (wpAny_onRaise ?_))
      show wpAny _ _ (Builtin.SmallTypes.nextOf (.ref i2) >>= _) _ _ ⟨g1, g, d, tk1, os⟩
      refine wpAny_bind (D2.done ⟨g1, g, d, tk1, os⟩ _ _ (by rw [← hi2]; exact D2.over (D2.overK (D2.over st2 hs0 S.zf2) hp1 S.s12) hs1 S.Of2) fun q tk e hq he => ?_)
      replace hq : KO ch2 g1 q := hq
      have k1 : KO (z :: TO :: (ch1 ++ ch2)) hp g1 := (k0.trans (hp1.sub fun b hb => by simp [hb])).trans (KO.of hs1 (by simp))
      exact fin q tk e (k1.trans (hq.sub fun b hb => by simp [hb])) he (hq _ _ zc2 (hs1.extBut _ _ S.TOz.symm (hp1 _ _ zc1 hz0)))
    · have hi1 : i = n1 := by omega
      refine wpAny_bind (D1.done ⟨g0, g, d, tk0, os⟩ _ _ (by rw [← hi1]; exact D1.over st1 hs0 S.zf1) fun q tk e hq he => ?_)
      replace hq : KO ch1 g0 q := hq
      exact fin q tk e (k0.trans (hq.sub fun b hb => by simp [hb])) he (hq _ _ zc1 hz0)
  · simp only [Bool.false_eq_true, if_false]
    replace hs0 : Heap.SameBut z hp g0 := hs0
    have k0 : KO (z :: TO :: (ch1 ++ ch2)) hp g0 := KO.of hs0 (by simp)
    refine wpAny_bind ?_
    rw [← Array.forIn_toList]
    simp only [List.forIn_cons, List.forIn_nil]
    refine wpAny_bind (wpAny_bind (wpAny_holding ?_))
    show wpAny _ _ (Builtin.SmallTypes.nextOf (.ref i1) >>= _) _ _ ⟨g0, g, d, tk0, os⟩
    by_cases hlt1 : i < n1
    · refine wpAny_bind (D1.item i _ _ _ hlt1 (D1.over st1 hs0 S.zf1) fun x1 p1 tk1 hx1 sn1 hp1 hz1 => wpAny_pure ?_)
      replace hp1 : KO ch1 g0 p1 := hp1
      have hi2 : i = n2 := by omega
      refine wpAny_pure ?_
      refine wpAny_bind (wpAny_bind (wpAny_holding ?_))
      show wpAny _ _ (Builtin.SmallTypes.nextOf (.ref i2) >>= _) _ _ ⟨p1, g, d, tk1, os⟩
      refine wpAny_bind (D2.done ⟨p1, g, d, tk1, os⟩ _ _ (by rw [← hi2]; exact D2.overK (D2.over st2 hs0 S.zf2) hp1 S.s12) fun q tk e hq he => ?_)
      replace hq : KO ch2 p1 q := hq
      exact hE q tk e ((k0.trans (hp1.sub fun b hb => by simp [hb])).trans (hq.sub fun b hb => by simp [hb])) he
    · have hi1 : i = n1 := by omega
      refine wpAny_bind (D1.done ⟨g0, g, d, tk0, os⟩ _ _ (by rw [← hi1]; exact D1.over st1 hs0 S.zf1) fun q tk e hq he => ?_)
      replace hq : KO ch1 g0 q := hq
      exact hE q tk e (k0.trans (hq.sub fun b hb => by simp [hb])) he
end
end Ev

set_option Elab.async false
set_option linter.all false
set_option maxRecDepth 100000
set_option maxHeartbeats 4000000
/-! Ev: nested iterators, 3: enumerate(zip(a, b)), zip(a, enumerate(b)). -/
namespace Ev
open PySem PySem.Spec PyProof.Rows L2

section
variable {X : Cx} {pins : List (Addr × Obj)} {σ : L2.St} {H : Hp} {s : Shared} {h' : Heap}
/-- changes within ch, two new things -/
theorem _root_.L2.Inv.turnedNew2 {t' : Nat} {ch : List Addr} {T1 T2 : Addr} {o1 o2 : HO} (I : Inv X pins σ H s) (k : KO ch s.heap h') (hf : ∀ b ∈ ch, FpOk X pins H b) (h1 : s.heap.objs.size ≤ T1) (h2 : s.heap.objs.size ≤ T2)
    (new1 : ObjOk X.prog X.w (upd (upd H T1 o1) T2 o2) h' T1 o1) (new2 : ObjOk X.prog X.w (upd (upd H T1 o1) T2 o2) h' T2 o2) : Inv X pins σ (upd (upd H T1 o1) T2 o2) { s with heap := h', toks := t' } := by
  have hn1 : H T1 = none := I.hok.fresh h1
  have hn2 : H T2 = none := I.hok.fresh h2
  have nit : ∀ b u, H b = some u → b ∉ ch := fun b u e z => by
    have q := (hf b z).1
    rw [q] at e; cases e
  have old : ∀ b u, H b = some u → upd (upd H T1 o1) T2 o2 b = some u := fun b u e => by rw [upd_ne (ne_of_none e hn2), upd_ne (ne_of_none e hn1)]; exact e
  refine I.step (g' := s.gens) (d' := s.drawn) (ch := ch) (fun b hb => ⟨(hf b hb).2.2.2.1, (hf b hb).2.1, (hf b hb).2.2.2.2.1, (hf b hb).2.2.2.2.2⟩) (fun b o _ _ hc e _ => k b o hc e) (fun b o _ _ hc e _ => ⟨o.slots, k b o hc e⟩)
    (fun b o _ e n => ?_) (fun b o hc e => ⟨o, k b o hc e⟩) (fun b xs e => old _ _ e) (fun b o u e => old _ _ e) (fun b ps e => ⟨#[], by rw [old _ _ e]; simp⟩) (fun m hm => ?_) (fun b u e => ?_) I.bare
  · rw [upd_ne (Nat.ne_of_lt (Nat.lt_of_lt_of_le (Heap.lt_size e) h2)), upd_ne (Nat.ne_of_lt (Nat.lt_of_lt_of_le (Heap.lt_size e) h1))]; exact n
  · obtain ⟨o, es, ep, ho, r⟩ := hm
    exact ⟨o, es, ep, k _ o (fun z => (hf _ z).2.1 rfl) ho, r⟩
  · by_cases hb : b = T2
    · subst hb
      rw [upd_same] at e
      cases e
      exact new2
    · rw [upd_ne hb] at e
      by_cases hb1 : b = T1
      · subst hb1
        rw [upd_same] at e
        cases e
        exact new1
      · rw [upd_ne hb1] at e
        refine (I.hok b u e).stay (fun c v hc q => k c v ?_ q) (fun c q => old _ _ q) fun c xs q => old _ _ q
        rcases hc with z | z
        · rw [z]; exact nit b u e
        · exact nit c _ z
end
/-! ### what the inner one draws -/
section
variable {prog : Program} {w : World} {A : Around}
def StZ (z TI TO i1 i2 : Addr) (St1 St2 : Nat → Heap → Prop) (i : Nat) (h : Heap) : Prop :=
  (∃ v0 f, IsZG h z TI TO v0 f ∧ OwnV v0) ∧ IsTupOf2 h TI (.ref i1) (.ref i2) ∧ (∃ a b, IsTupOf2 h TO a b) ∧ St1 i h ∧ St2 i h
theorem StZ.keep {z TI TO i1 i2 : Addr} {fp1 fp2 ch1 ch2 : List Addr} {n1 n2 : Nat} {Q1 Q2 : Nat → Value → Prop} {St1 St2 : Nat → Heap → Prop} (D1 : DrX prog w A.in1 i1 ch1 fp1 n1 (fun i _ x _ => Q1 i x) St1) (D2 : DrX prog w A.in1 i2 ch2 fp2 n2 (fun i _ x _ => Q2 i x) St2)
    {i : Nat} {h h' : Heap} (st : StZ z TI TO i1 i2 St1 St2 i h) (k : ∀ b ∈ z :: TI :: TO :: (fp1 ++ fp2), ∀ o, h.get? b = some o → h'.get? b = some o) : StZ z TI TO i1 i2 St1 St2 i h' := by
  obtain ⟨⟨v0, f, hz, hv⟩, hTI, ⟨a, b, hTO⟩, st1, st2⟩ := st
  exact ⟨⟨v0, f, k _ (by simp) _ hz, hv⟩, k _ (by simp) _ hTI, ⟨a, b, k _ (by simp) _ hTO⟩, D1.frame _ _ _ st1 fun b hb o e => k b (by simp [hb]) o e, D2.frame _ _ _ st2 fun b hb o e => k b (by simp [hb]) o e⟩
theorem drX_zip {z TI TO i1 i2 : Addr} {ch1 fp1 ch2 fp2 : List Addr} {n1 n2 : Nat} {Q1 Q2 : Nat → Value → Prop} {St1 St2 : Nat → Heap → Prop} (S : ZSep z TI TO ch1 fp1 ch2 fp2)
    (D1 : DrX prog w A.in1 i1 ch1 fp1 n1 (fun i _ x _ => Q1 i x) St1) (D2 : DrX prog w A.in1 i2 ch2 fp2 n2 (fun i _ x _ => Q2 i x) St2) :
    DrX prog w A z (z :: TO :: (ch1 ++ ch2)) (z :: TI :: TO :: (fp1 ++ fp2)) (min n1 n2) (fun i h x h' => ∃ T x1 x2, x = .ref T ∧ h.objs.size ≤ T ∧ IsTupOf2 h' T x1 x2 ∧ Q1 i x1 ∧ Q2 i x2) (StZ z TI TO i1 i2 St1 St2) where
  sub := fun b hb => by
    have hb' : b = z ∨ b = TO ∨ b ∈ ch1 ∨ b ∈ ch2 := by simpa using hb
    rcases hb' with e | e | e | e
    · simp [e]
    · simp [e]
    · simp [D1.sub b e]
    · simp [D2.sub b e]
  live := fun i h st b hb => by
    obtain ⟨⟨v0, f, hz, hv⟩, hTI, ⟨a, b', hTO⟩, st1, st2⟩ := st
    have hb' : b = z ∨ b = TI ∨ b = TO ∨ b ∈ fp1 ∨ b ∈ fp2 := by simpa using hb
    rcases hb' with e | e | e | e | e
    · rw [e]; exact ⟨_, hz⟩
    · rw [e]; exact ⟨_, hTI⟩
    · rw [e]; exact ⟨_, hTO⟩
    · exact D1.live _ _ st1 b e
    · exact D2.live _ _ st2 b e
  frame := fun i h h' st k => st.keep D1 D2 k
  item := fun i s Q E hi st hQ => by
    obtain ⟨⟨v0, f, hz, hv⟩, hTI, ⟨a, b', hTO⟩, st1, st2⟩ := st
    have hT : s.TypeIs (.ref z) "zip" := ⟨_, hz, rfl⟩
    have zl : z < s.heap.objs.size := Heap.lt_size hz
    unfold Builtin.SmallTypes.nextOf
    refine wpAny_bind (wpAny_callSpecial?_slot (name := Str.ofString "__next__") hT F.slot_zip_next
      (wpAny_call_entry F.slot_zip_next hT F.entry_zip_next (zipX_item S D1 D2 hz hv hTI hTO st1 st2 (by omega) (by omega) fun x1 x2 h' tk T v0' f' q1 p1 q2 p2 y1 y2 s1 s2 k1 k2 z' hv' _ hTO' st1' st2' hT' hsz hsz' ko => ?_) (F.args_zip_next_1 _)))
    refine wpAny_pure (hQ _ h' tk ⟨T, x1, x2, rfl, hsz, hT', y1, y2⟩ ⟨⟨_, _, z', hv'⟩, ?_, hTO', st1', st2'⟩ ko hsz')
    refine ko _ _ (fun q => ?_) hTI
    have hb' : TI = z ∨ TI = TO ∨ TI ∈ ch1 ∨ TI ∈ ch2 := by simpa using q
    rcases hb' with e | e | e | e
    · exact S.TIz e
    · exact S.TITO e
    · exact S.If1 (D1.sub _ e)
    · exact S.If2 (D2.sub _ e)
  done := fun s Q E st hE => by
    obtain ⟨⟨v0, f, hz, hv⟩, hTI, ⟨a, b', hTO⟩, st1, st2⟩ := st
    have hT : s.TypeIs (.ref z) "zip" := ⟨_, hz, rfl⟩
    unfold Builtin.SmallTypes.nextOf
    exact wpAny_bind (wpAny_callSpecial?_slot (name := Str.ofString "__next__") hT F.slot_zip_next
      (wpAny_call_entry F.slot_zip_next hT F.entry_zip_next (zipX_done S D1 D2 hz hv hTI hTO st1 st2 (by omega) (by omega) (by omega) hE) (F.args_zip_next_1 _)))
def StE (e it : Addr) (St : Nat → Heap → Prop) (i : Nat) (h : Heap) : Prop := (∃ old v0 f, IsEG h e it ((i : Nat) : Int) old v0 f ∧ OwnV v0) ∧ St i h
theorem drX_enum {e it : Addr} {ch fp : List Addr} {n : Nat} {Q1 : Nat → Value → Prop} {St : Nat → Heap → Prop} (D : DrX prog w A.in1 it ch fp n (fun i _ x _ => Q1 i x) St) (hef : e ∉ fp) :
    DrX prog w A e (e :: ch) (e :: fp) n (fun i h x h' => ∃ T tk y, x = .ref T ∧ h.objs.size ≤ T ∧ h'.get? T = some { cls := .type "tuple", data := .seq #[.int i tk, y] } ∧ Q1 i y) (StE e it St) where
  sub := fun b hb => by
    have hb' : b = e ∨ b ∈ ch := by simpa using hb
    rcases hb' with q | q
    · simp [q]
    · simp [D.sub b q]
  live := fun i h st b hb => by
    obtain ⟨⟨old, v0, f, he, hv⟩, st1⟩ := st
    have hb' : b = e ∨ b ∈ fp := by simpa using hb
    rcases hb' with q | q
    · rw [q]; exact ⟨_, he⟩
    · exact D.live _ _ st1 b q
  frame := fun i h h' st k => by
    obtain ⟨⟨old, v0, f, he, hv⟩, st1⟩ := st
    exact ⟨⟨old, v0, f, k _ (by simp) _ he, hv⟩, D.frame _ _ _ st1 fun b hb o q => k b (by simp [hb]) o q⟩
  item := fun i s Q E hi st hQ => by
    obtain ⟨⟨old, v0, f, he, hv⟩, st1⟩ := st
    have hT : s.TypeIs (.ref e) "enumerate" := ⟨_, he, rfl⟩
    unfold Builtin.SmallTypes.nextOf
    refine wpAny_bind (wpAny_callSpecial?_slot (name := Str.ofString "__next__") hT F.slot_enumerate_next
      (wpAny_call_entry F.slot_enumerate_next hT F.entry_enumerate_next (enumX_item D he hv st1 hi hef fun x h₁ h' tk T v0' f' old' y1 k1 e' hv' _ st' hT' hsz hsz' ko => ?_) (F.args_enumerate_next_1 _)))
    have e1 : ((i + 1 : Nat) : Int) = (i : Int) + 1 := by omega
    exact wpAny_pure (hQ _ h' (tk + 1) ⟨T, tk, x, rfl, hsz, hT', y1⟩ ⟨⟨_, _, _, by rw [e1]; exact e', hv'⟩, st'⟩ ko hsz')
  done := fun s Q E st hE => by
    obtain ⟨⟨old, v0, f, he, hv⟩, st1⟩ := st
    have hT : s.TypeIs (.ref e) "enumerate" := ⟨_, he, rfl⟩
    unfold Builtin.SmallTypes.nextOf
    exact wpAny_bind (wpAny_callSpecial?_slot (name := Str.ofString "__next__") hT F.slot_enumerate_next
      (wpAny_call_entry F.slot_enumerate_next hT F.entry_enumerate_next (enumX_done D he st1 fun h' tk x ko => hE h' tk x (ko.sub fun b hb => by simp [hb])) (F.args_enumerate_next_1 _)))
theorem drX_Q {A : Around} (hh : A.handled = none) (k : Kd) (it a : Addr) (hne : a ≠ it) (its : Array Value) :
    DrX prog w A it [it] [it, a] its.size (fun i _ v _ => its[i]? = some v) (fun i h => ItrQ k h it a i ∧ IsQ k h a its) :=
  DrX.of (draws_Q hh k it a hne its) (by simp) fun i h st b hb => by
    have e' : b = it ∨ b = a := by simpa using hb
    rcases e' with z | z
    · rw [z]; obtain ⟨o, e, _⟩ := st.1.obj; exact ⟨o, e⟩
    · rw [z]
      cases k
      · obtain ⟨o, e, _⟩ := id st.2; exact ⟨o, e⟩
      · obtain ⟨o, e, _⟩ := id st.2; exact ⟨o, e⟩
end
/-! ### the turns -/
def ItEZ (K : PySem.W.Frag) (k1 k2 : Kd) (a b : Addr) : It :=
  ⟨fun i H => ∃ (xs ys : List V) (x y : V), SqQ k1 K H a xs ∧ SqQ k2 K H b ys ∧ xs[i]? = some x ∧ ys[i]? = some y,
    fun i H v H' => ∃ T1 T2 x y, v = .ref T2 ∧ H T1 = none ∧ H T2 = none ∧ T1 ≠ T2 ∧ H' = upd (upd H T1 (.tup [x, y])) T2 (.tup [.int (i : Nat), .ref T1]) ∧ (∀ xs, SqQ k1 K H a xs → xs[i]? = some x) ∧ ∀ ys, SqQ k2 K H b ys → ys[i]? = some y,
    fun i H => ∃ xs ys : List V, SqQ k1 K H a xs ∧ SqQ k2 K H b ys ∧ (i = xs.length ∨ i = ys.length) ∧ i ≤ xs.length ∧ i ≤ ys.length⟩
def ItZE (K : PySem.W.Frag) (k1 k2 : Kd) (a b : Addr) : It :=
  ⟨fun i H => ∃ (xs ys : List V) (x y : V), SqQ k1 K H a xs ∧ SqQ k2 K H b ys ∧ xs[i]? = some x ∧ ys[i]? = some y,
    fun i H v H' => ∃ T1 T2 x y, v = .ref T2 ∧ H T1 = none ∧ H T2 = none ∧ T1 ≠ T2 ∧ H' = upd (upd H T1 (.tup [.int (i : Nat), y])) T2 (.tup [x, .ref T1]) ∧ (∀ xs, SqQ k1 K H a xs → xs[i]? = some x) ∧ ∀ ys, SqQ k2 K H b ys → ys[i]? = some y,
    fun i H => ∃ xs ys : List V, SqQ k1 K H a xs ∧ SqQ k2 K H b ys ∧ (i = xs.length ∨ i = ys.length) ∧ i ≤ xs.length ∧ i ≤ ys.length⟩
theorem zsep_of {a b N : Nat} (ha : a < N) (hb : b < N) : ZSep (N + 4 : Nat) (N + 2 : Nat) (N + 3 : Nat) [(N : Nat)] [(N : Nat), a] [(N + 1 : Nat)] [(N + 1 : Nat), b] where
  TIz := show (N + 2 : Nat) ≠ N + 4 by omega
  TOz := show (N + 3 : Nat) ≠ N + 4 by omega
  TITO := show (N + 2 : Nat) ≠ N + 3 by omega
  zf1 := fun q => by
    have : (N + 4 : Nat) = N ∨ (N + 4 : Nat) = a := by simpa using q
    omega
  zf2 := fun q => by
    have : (N + 4 : Nat) = N + 1 ∨ (N + 4 : Nat) = b := by simpa using q
    omega
  Of1 := fun q => by
    have : (N + 3 : Nat) = N ∨ (N + 3 : Nat) = a := by simpa using q
    omega
  Of2 := fun q => by
    have : (N + 3 : Nat) = N + 1 ∨ (N + 3 : Nat) = b := by simpa using q
    omega
  If1 := fun q => by
    have : (N + 2 : Nat) = N ∨ (N + 2 : Nat) = a := by simpa using q
    omega
  If2 := fun q => by
    have : (N + 2 : Nat) = N + 1 ∨ (N + 2 : Nat) = b := by simpa using q
    omega
  s12 := fun c hc q => by
    have e : c = (N : Nat) := by simpa using hc
    have : c = (N + 1 : Nat) ∨ c = b := by simpa using q
    rcases this with h | h
    · exact absurd (show (N : Nat) = N + 1 from e.symm.trans h) (by omega)
    · exact absurd (show (N : Nat) = b from e.symm.trans h) (by omega)
  s21 := fun c hc q => by
    have e : c = (N + 1 : Nat) := by simpa using hc
    have : c = (N : Nat) ∨ c = a := by simpa using q
    rcases this with h | h
    · exact absurd (show (N + 1 : Nat) = N from e.symm.trans h) (by omega)
    · exact absurd (show (N + 1 : Nat) = a from e.symm.trans h) (by omega)
theorem turn_EZ {P : Program} {w : World} {K : PySem.W.Frag} {elts : List Expr} {kk : Nat} {tpos : Pos} (k1 k2 : Kd) {a b e z TI TO i1 i2 : Addr} (S : ZSep z TI TO [i1] [i1, a] [i2] [i2, b]) (na : a ≠ i1) (nb : b ≠ i2) (he : e ∉ z :: TI :: TO :: ([i1, a] ++ [i2, b])) :
    Turn P w K (.Tuple elts kk tpos) (ItEZ K k1 k2 a b) [e, z, TI, TO, i1, i2] e (fun i h => (∃ old, IsEnum h e z ((i : Nat) : Int) old) ∧ StZ z TI TO i1 i2 (fun i h => ItrQ k1 h i1 a i) (fun i h => ItrQ k2 h i2 b i) i h) where
  mem := by simp
  obj := fun i h st c hc => by
    obtain ⟨⟨old, hE⟩, ⟨v0, f, hz, hv⟩, hTI, ⟨x, y, hTO⟩, h1, h2⟩ := st
    have e' : c = e ∨ c = z ∨ c = TI ∨ c = TO ∨ c = i1 ∨ c = i2 := by simpa using hc
    rcases e' with q | q | q | q | q | q
    · rw [q]; exact ⟨_, hE, fun v q => nomatch q⟩
    · rw [q]; exact ⟨_, hz, fun v q => nomatch q⟩
    · rw [q]; exact ⟨_, hTI, fun v q => nomatch q⟩
    · rw [q]; exact ⟨_, hTO, fun v q => nomatch q⟩
    · rw [q]; exact h1.obj
    · rw [q]; exact h2.obj
  keep := fun i h h' st k => by
    obtain ⟨⟨old, hE⟩, ⟨v0, f, hz, hv⟩, hTI, ⟨x, y, hTO⟩, h1, h2⟩ := st
    exact ⟨⟨old, k e (by simp) _ hE⟩, ⟨v0, f, k z (by simp) _ hz, hv⟩, k TI (by simp) _ hTI, ⟨x, y, k TO (by simp) _ hTO⟩, h1.at fun o q => k i1 (by simp) o q, h2.at fun o q => k i2 (by simp) o q⟩
  item := by
    intro X hP hw hK hc i pins s σ H E I hf st hg
    subst hP hw hK
    obtain ⟨⟨old, hE⟩, ⟨v0, f, hz, hv⟩, hTI, ⟨x0, y0, hTO⟩, h1, h2⟩ := st
    obtain ⟨xs, ys, x, y, hqx, hqy, hx, hy⟩ := hg
    obtain ⟨its, rv, p, la⟩ := hqx.its I
    obtain ⟨its2, rv2, p2, lb⟩ := hqy.its I
    obtain ⟨u, hu, ru⟩ := rv.get hx
    obtain ⟨u2, hu2, ru2⟩ := rv2.get hy
    have hel : e < s.heap.objs.size := Heap.lt_size hE
    have lt1 : i < its.toArray.size := by have := (List.getElem?_eq_some_iff.mp hu).1; simpa using this
    have lt2 : i < its2.toArray.size := by have := (List.getElem?_eq_some_iff.mp hu2).1; simpa using this
    have D1 := drX_Q (prog := X.prog) (w := X.w) (A := X.A.in1.in1) (show X.A.in1.handled = none from I.ok.hd hc) k1 i1 a na its.toArray
    have D2 := drX_Q (prog := X.prog) (w := X.w) (A := X.A.in1.in1) (show X.A.in1.handled = none from I.ok.hd hc) k2 i2 b nb its2.toArray
    have D := drX_zip S D1 D2
    have hT : s.TypeIs (.ref e) "enumerate" := ⟨_, hE, rfl⟩
    unfold pyNext
    refine wpAny_bind (wpAny_attempt (wpAny_callSpecial?_slot (name := Str.ofString "__next__") hT F.slot_enumerate_next
      (wpAny_call_entry F.slot_enumerate_next hT F.entry_enumerate_next (enumX_item D hE (.inl rfl) ⟨⟨v0, f, hz, hv⟩, hTI, ⟨x0, y0, hTO⟩, ⟨h1, p⟩, ⟨h2, p2⟩⟩ (by omega) he
        fun xx h₁ h' tk T2 v0' f' old' hP hk e' hv' hv0 st' hT2 hsz hsz' ko => wpAny_pure ?_) (F.args_enumerate_next_1 _))))
    obtain ⟨T1, x1, x2, rfl, hT1s, hT1, hx1, hx2⟩ := hP
    obtain ⟨rfl, rfl⟩ := hv0 rfl
    have ex : x1 = u := by
      have e1 : its.toArray[i]? = some u := by simpa using hu
      rw [e1] at hx1
      exact (Option.some.inj hx1).symm
    have ey : x2 = u2 := by
      have e1 : its2.toArray[i]? = some u2 := by simpa using hu2
      rw [e1] at hx2
      exact (Option.some.inj hx2).symm
    subst ex ey
    have n1 : T1 ≠ e := Nat.ne_of_gt (Nat.lt_of_lt_of_le hel hT1s)
    obtain ⟨g1, g2⟩ := hk T1 _ n1 hT1
    refine ⟨_, rfl, wpAny_letOwnedTupleGo_enum (s := { s with heap := h', toks := tk + 1 }) e' fun h'' e'' sb => ?_⟩
    have n2 : T2 ≠ e := Nat.ne_of_gt (Nat.lt_of_lt_of_le hel hsz)
    have hT1' : h''.get? T1 = some { cls := .type "tuple", data := .seq #[x1, x2] } := (sb.2 _ n1).trans g1
    have hT2' : h''.get? T2 = some { cls := .type "tuple", data := .seq #[.int i tk, .ref T1] } := (sb.2 _ n2).trans hT2
    have I1 : Inv X pins σ (upd (upd H T1 (.tup [x, y])) T2 (.tup [.int (i : Nat), .ref T1])) { s with heap := h'', toks := tk + 1 } :=
      I.turnedNew2 (ch := [e, z, TI, TO, i1, i2]) (fun c o hb q => (sb.2 c (fun q' => hb (by simp [q']))).trans (ko c o (fun q' => hb (by simp only [List.mem_cons, List.mem_append, List.not_mem_nil, or_false] at q' ⊢; rcases q' with q' | q' | q' | q' | q' <;> simp [q'])) q)) hf hT1s hsz
        ⟨by show 2 ≤ sizeLine; decide, [x1, x2], .cons ru (.cons ru2 .nil), ⟨_, hT1', rfl, _, rfl⟩⟩ ⟨by show 2 ≤ sizeLine; decide, [.int i tk, .ref T1], .cons ⟨_, rfl⟩ (.cons rfl .nil), ⟨_, hT2', rfl, _, rfl⟩⟩
    refine ⟨.ref T2, _, I1, rfl, ⟨T1, T2, x, y, rfl, I.hok.fresh hT1s, I.hok.fresh hsz, Nat.ne_of_lt g2, rfl, fun l hl => by rw [SqQ.inj I hl hqx]; exact hx, fun l hl => by rw [SqQ.inj I hl hqy]; exact hy⟩, ⟨⟨old', ?_⟩, ?_⟩, fun c hcm => ?_⟩
    · have e1 : ((i + 1 : Nat) : Int) = (i : Int) + 1 := by omega
      rw [e1]
      exact e''
    · obtain ⟨⟨v1, f1, z1, w1⟩, t1, ⟨a1, a2, t2⟩, j1, j2⟩ := st'
      have ne : ∀ c ∈ z :: TI :: TO :: ([i1, a] ++ [i2, b]), c ≠ e := fun c hc q => he (q ▸ hc)
      exact ⟨⟨v1, f1, (sb.2 z (ne _ (by simp))).trans z1, w1⟩, (sb.2 TI (ne _ (by simp))).trans t1, ⟨a1, a2, (sb.2 TO (ne _ (by simp))).trans t2⟩, j1.1.at fun o q => (sb.2 i1 (ne _ (by simp))).trans q, j2.1.at fun o q => (sb.2 i2 (ne _ (by simp))).trans q⟩
    · have e' : c = e ∨ c = z ∨ c = TI ∨ c = TO ∨ c = i1 ∨ c = i2 := by simpa using hcm
      have hlt : c < s.heap.objs.size := by
        rcases e' with q | q | q | q | q | q
        · rw [q]; exact hel
        · rw [q]; exact Heap.lt_size hz
        · rw [q]; exact Heap.lt_size hTI
        · rw [q]; exact Heap.lt_size hTO
        · rw [q]; exact h1.lt
        · rw [q]; exact h2.lt
      rw [upd_ne (Nat.ne_of_lt (Nat.lt_of_lt_of_le hlt hsz)), upd_ne (Nat.ne_of_lt (Nat.lt_of_lt_of_le hlt hT1s))]
      exact (hf c hcm).1
  done := by
    intro X hP hw hK hc i pins s σ H E I hf st hg
    subst hP hw hK
    obtain ⟨⟨old, hE⟩, ⟨v0, f, hz, hv⟩, hTI, ⟨x0, y0, hTO⟩, h1, h2⟩ := st
    obtain ⟨xs, ys, hqx, hqy, hend, le1, le2⟩ := hg
    obtain ⟨its, rv, p, la⟩ := hqx.its I
    obtain ⟨its2, rv2, p2, lb⟩ := hqy.its I
    have l1 := rv.length
    have l2 := rv2.length
    have D1 := drX_Q (prog := X.prog) (w := X.w) (A := X.A.in1.in1) (show X.A.in1.handled = none from I.ok.hd hc) k1 i1 a na its.toArray
    have D2 := drX_Q (prog := X.prog) (w := X.w) (A := X.A.in1.in1) (show X.A.in1.handled = none from I.ok.hd hc) k2 i2 b nb its2.toArray
    have D := drX_zip S D1 D2
    have hn : min its.toArray.size its2.toArray.size = i := by simp; omega
    rw [hn] at D
    have hT : s.TypeIs (.ref e) "enumerate" := ⟨_, hE, rfl⟩
    unfold pyNext
    refine wpAny_bind (wpAny_attempt (wpAny_callSpecial?_slot (name := Str.ofString "__next__") hT F.slot_enumerate_next
      (wpAny_call_entry F.slot_enumerate_next hT F.entry_enumerate_next (enumX_done D hE ⟨⟨v0, f, hz, hv⟩, hTI, ⟨x0, y0, hTO⟩, ⟨h1, p⟩, ⟨h2, p2⟩⟩ fun h' tk x ko hx => ?_) (F.args_enumerate_next_1 _))))
    obtain ⟨o, ho, hc'⟩ := hx
    refine wpAny_bind (wpAny_isInstance (T := "StopIteration") (b := true) ⟨o, ho, hc'⟩ isSubtype_stop ?_)
    exact wpAny_pure ⟨rfl, I.turnedL (t' := tk) (ch := [e, z, TI, TO, i1, i2]) (fun c o hb q => ko c o (fun q' => hb (by simp only [List.mem_cons, List.mem_append, List.not_mem_nil, or_false] at q' ⊢; rcases q' with q' | q' | q' | q' <;> simp [q'])) q) hf⟩
  self := fun A i s Q E st h => let ⟨⟨_, he⟩, _⟩ := st; wpAny_pyIter_enum he h
theorem zsepE_of {a b N e it : Nat} (hea : e ≠ a) (hia : it ≠ a) (ha : a < N) (he : e < N) (hi : it < N) (hb : b < N) : ZSep (N + 3 : Nat) (N + 1 : Nat) (N + 2 : Nat) [(N : Nat)] [(N : Nat), a] [e, it] [e, it, b] where
  TIz := show (N + 1 : Nat) ≠ N + 3 by omega
  TOz := show (N + 2 : Nat) ≠ N + 3 by omega
  TITO := show (N + 1 : Nat) ≠ N + 2 by omega
  zf1 := fun q => by
    have : (N + 3 : Nat) = N ∨ (N + 3 : Nat) = a := by simpa using q
    omega
  zf2 := fun q => by
    have : (N + 3 : Nat) = e ∨ (N + 3 : Nat) = it ∨ (N + 3 : Nat) = b := by simpa using q
    omega
  Of1 := fun q => by
    have : (N + 2 : Nat) = N ∨ (N + 2 : Nat) = a := by simpa using q
    omega
  Of2 := fun q => by
    have : (N + 2 : Nat) = e ∨ (N + 2 : Nat) = it ∨ (N + 2 : Nat) = b := by simpa using q
    omega
  If1 := fun q => by
    have : (N + 1 : Nat) = N ∨ (N + 1 : Nat) = a := by simpa using q
    omega
  If2 := fun q => by
    have : (N + 1 : Nat) = e ∨ (N + 1 : Nat) = it ∨ (N + 1 : Nat) = b := by simpa using q
    omega
  s12 := fun c hc q => by
    have e1 : c = (N : Nat) := by simpa using hc
    have : c = e ∨ c = it ∨ c = b := by simpa using q
    rcases this with h | h | h
    · exact absurd (show (N : Nat) = e from e1.symm.trans h) (by omega)
    · exact absurd (show (N : Nat) = it from e1.symm.trans h) (by omega)
    · exact absurd (show (N : Nat) = b from e1.symm.trans h) (by omega)
  s21 := fun c hc q => by
    have e1 : c = e ∨ c = it := by simpa using hc
    have : c = (N : Nat) ∨ c = a := by simpa using q
    rcases e1 with e1 | e1 <;> rcases this with h | h
    · exact absurd (show e = N from e1.symm.trans h) (by omega)
    · exact hea (show e = a from e1.symm.trans h)
    · exact absurd (show it = N from e1.symm.trans h) (by omega)
    · exact hia (show it = a from e1.symm.trans h)
theorem turn_ZE {P : Program} {w : World} {K : PySem.W.Frag} {elts : List Expr} {kk : Nat} {tpos : Pos} (k1 k2 : Kd) {a b z TI TO i1 e it : Addr} (S : ZSep z TI TO [i1] [i1, a] [e, it] [e, it, b]) (na : a ≠ i1) (nb : b ≠ it) (he : e ∉ [it, b]) :
    Turn P w K (.Tuple elts kk tpos) (ItZE K k1 k2 a b) [z, TI, TO, i1, e, it] z (fun i h => IsZip h z TI TO .none ∧ IsTupOf2 h TI (.ref i1) (.ref e) ∧ (∃ x y, IsTupOf2 h TO x y) ∧ ItrQ k1 h i1 a i ∧ StE e it (fun i h => ItrQ k2 h it b i) i h) where
  mem := by simp
  obj := fun i h st c hc => by
    obtain ⟨hz, hTI, ⟨x, y, hTO⟩, h1, ⟨old, v0, f, hE, hv⟩, h2⟩ := st
    have e' : c = z ∨ c = TI ∨ c = TO ∨ c = i1 ∨ c = e ∨ c = it := by simpa using hc
    rcases e' with q | q | q | q | q | q
    · rw [q]; exact ⟨_, hz, fun v q => nomatch q⟩
    · rw [q]; exact ⟨_, hTI, fun v q => nomatch q⟩
    · rw [q]; exact ⟨_, hTO, fun v q => nomatch q⟩
    · rw [q]; exact h1.obj
    · rw [q]; exact ⟨_, hE, fun v q => nomatch q⟩
    · rw [q]; exact h2.obj
  keep := fun i h h' st k => by
    obtain ⟨hz, hTI, ⟨x, y, hTO⟩, h1, ⟨old, v0, f, hE, hv⟩, h2⟩ := st
    exact ⟨k z (by simp) _ hz, k TI (by simp) _ hTI, ⟨x, y, k TO (by simp) _ hTO⟩, h1.at fun o q => k i1 (by simp) o q, ⟨old, v0, f, k e (by simp) _ hE, hv⟩, h2.at fun o q => k it (by simp) o q⟩
  item := by
    intro X hP hw hK hc i pins s σ H E I hf st hg
    subst hP hw hK
    obtain ⟨hz, hTI, ⟨x0, y0, hTO⟩, h1, ⟨old, v0, f, hE, hv⟩, h2⟩ := st
    obtain ⟨xs, ys, x, y, hqx, hqy, hx, hy⟩ := hg
    obtain ⟨its, rv, p, la⟩ := hqx.its I
    obtain ⟨its2, rv2, p2, lb⟩ := hqy.its I
    obtain ⟨u, hu, ru⟩ := rv.get hx
    obtain ⟨u2, hu2, ru2⟩ := rv2.get hy
    have hzl : z < s.heap.objs.size := Heap.lt_size hz
    have lt1 : i < its.toArray.size := by have := (List.getElem?_eq_some_iff.mp hu).1; simpa using this
    have lt2 : i < its2.toArray.size := by have := (List.getElem?_eq_some_iff.mp hu2).1; simpa using this
    have D1 := drX_Q (prog := X.prog) (w := X.w) (A := X.A.in1) (show X.A.in1.handled = none from I.ok.hd hc) k1 i1 a na its.toArray
    have D2 := drX_enum (drX_Q (prog := X.prog) (w := X.w) (A := X.A.in1.in1) (show X.A.in1.handled = none from I.ok.hd hc) k2 it b nb its2.toArray) he
    have hT : s.TypeIs (.ref z) "zip" := ⟨_, hz, rfl⟩
    unfold pyNext
    refine wpAny_bind (wpAny_attempt (wpAny_callSpecial?_slot (name := Str.ofString "__next__") hT F.slot_zip_next
      (wpAny_call_entry F.slot_zip_next hT F.entry_zip_next (zipX_item S D1 D2 hz (.inl rfl) hTI hTO ⟨h1, p⟩ ⟨⟨old, v0, f, hE, hv⟩, ⟨h2, p2⟩⟩ lt1 lt2
        fun x1 xx h' tk T2 v0' f' q1 p1 q2 p2' y1 hP s1 s2 k1' k2' z' hv' hv0 hTO' st1' st2' hT2 hsz hsz' ko => wpAny_pure ?_) (F.args_zip_next_1 _))))
    obtain ⟨T1, tk1, x2, rfl, hT1s, hT1, hx2⟩ := hP
    obtain ⟨rfl, rfl⟩ := hv0 rfl
    have ex : x1 = u := by
      have e1 : its.toArray[i]? = some u := by simpa using hu
      rw [e1] at y1
      exact (Option.some.inj y1).symm
    have ey : x2 = u2 := by
      have e1 : its2.toArray[i]? = some u2 := by simpa using hu2
      rw [e1] at hx2
      exact (Option.some.inj hx2).symm
    subst ex ey
    have hT1s' : s.heap.objs.size ≤ T1 := Nat.le_trans s2 hT1s
    have n1 : T1 ≠ z := Nat.ne_of_gt (Nat.lt_of_lt_of_le hzl hT1s')
    have n2 : T2 ≠ z := Nat.ne_of_gt (Nat.lt_of_lt_of_le hzl hsz)
    obtain ⟨g1, g2⟩ := k2' T1 _ hT1s' hT1
    refine ⟨_, rfl, wpAny_letOwnedTupleGo_zip (s := { s with heap := h', toks := tk }) z' fun h'' z'' sb => ?_⟩
    have hT1' : h''.get? T1 = some { cls := .type "tuple", data := .seq #[.int i tk1, x2] } := (sb.2 _ n1).trans g1
    have hT2' : h''.get? T2 = some { cls := .type "tuple", data := .seq #[x1, .ref T1] } := (sb.2 _ n2).trans hT2
    have I1 : Inv X pins σ (upd (upd H T1 (.tup [.int (i : Nat), y])) T2 (.tup [x, .ref T1])) { s with heap := h'', toks := tk } :=
      I.turnedNew2 (ch := [z, TI, TO, i1, e, it]) (fun c o hb q => (sb.2 c (fun q' => hb (by simp [q']))).trans (ko c o (fun q' => hb (by simp only [List.mem_cons, List.mem_append, List.not_mem_nil, or_false] at q' ⊢; rcases q' with q' | q' | q' | q' | q' <;> simp [q'])) q)) hf hT1s' hsz
        ⟨by show 2 ≤ sizeLine; decide, [.int i tk1, x2], .cons ⟨_, rfl⟩ (.cons ru2 .nil), ⟨_, hT1', rfl, _, rfl⟩⟩ ⟨by show 2 ≤ sizeLine; decide, [x1, .ref T1], .cons ru (.cons rfl .nil), ⟨_, hT2', rfl, _, rfl⟩⟩
    refine ⟨.ref T2, _, I1, rfl, ⟨T1, T2, x, y, rfl, I.hok.fresh hT1s', I.hok.fresh hsz, Nat.ne_of_lt g2, rfl, fun l hl => by rw [SqQ.inj I hl hqx]; exact hx, fun l hl => by rw [SqQ.inj I hl hqy]; exact hy⟩, ?_, fun c hcm => ?_⟩
    · obtain ⟨⟨o3, v3, f3, e3, w3⟩, j2⟩ := st2'
      obtain ⟨a1, a2, t2⟩ := hTO'
      have zi : z ≠ i1 := fun q => S.zf1 (by simp [q])
      have ze : z ≠ e := fun q => S.zf2 (by simp [q])
      have zt : z ≠ it := fun q => S.zf2 (by simp [q])
      have hTI' : h'.get? TI = some { cls := .type "tuple", data := .seq #[.ref i1, .ref e] } := ko _ _ (fun q => by
        have hb' : TI = z ∨ TI = TO ∨ TI = i1 ∨ TI = e ∨ TI = it := by simpa using q
        rcases hb' with q | q | q | q | q
        · exact S.TIz q
        · exact S.TITO q
        · exact S.If1 (by simp [q])
        · exact S.If2 (by simp [q])
        · exact S.If2 (by simp [q])) hTI
      exact ⟨z'', (sb.2 TI S.TIz).trans hTI', ⟨a1, a2, (sb.2 TO S.TOz).trans t2⟩, st1'.1.at fun o q => (sb.2 i1 (Ne.symm zi)).trans q, ⟨o3, v3, f3, (sb.2 e (Ne.symm ze)).trans e3, w3⟩, j2.1.at fun o q => (sb.2 it (Ne.symm zt)).trans q⟩
    · have e' : c = z ∨ c = TI ∨ c = TO ∨ c = i1 ∨ c = e ∨ c = it := by simpa using hcm
      have hlt : c < s.heap.objs.size := by
        rcases e' with q | q | q | q | q | q
        · rw [q]; exact hzl
        · rw [q]; exact Heap.lt_size hTI
        · rw [q]; exact Heap.lt_size hTO
        · rw [q]; exact h1.lt
        · rw [q]; exact Heap.lt_size hE
        · rw [q]; exact h2.lt
      rw [upd_ne (Nat.ne_of_lt (Nat.lt_of_lt_of_le hlt hsz)), upd_ne (Nat.ne_of_lt (Nat.lt_of_lt_of_le hlt hT1s'))]
      exact (hf c hcm).1
  done := by
    intro X hP hw hK hc i pins s σ H E I hf st hg
    subst hP hw hK
    obtain ⟨hz, hTI, ⟨x0, y0, hTO⟩, h1, ⟨old, v0, f, hE, hv⟩, h2⟩ := st
    obtain ⟨xs, ys, hqx, hqy, hend, le1, le2⟩ := hg
    obtain ⟨its, rv, p, la⟩ := hqx.its I
    obtain ⟨its2, rv2, p2, lb⟩ := hqy.its I
    have l1 := rv.length
    have l2 := rv2.length
    have D1 := drX_Q (prog := X.prog) (w := X.w) (A := X.A.in1) (show X.A.in1.handled = none from I.ok.hd hc) k1 i1 a na its.toArray
    have D2 := drX_enum (drX_Q (prog := X.prog) (w := X.w) (A := X.A.in1.in1) (show X.A.in1.handled = none from I.ok.hd hc) k2 it b nb its2.toArray) he
    have hT : s.TypeIs (.ref z) "zip" := ⟨_, hz, rfl⟩
    unfold pyNext
    refine wpAny_bind (wpAny_attempt (wpAny_callSpecial?_slot (name := Str.ofString "__next__") hT F.slot_zip_next
      (wpAny_call_entry F.slot_zip_next hT F.entry_zip_next (zipX_done S D1 D2 hz (.inl rfl) hTI hTO ⟨h1, p⟩ ⟨⟨old, v0, f, hE, hv⟩, ⟨h2, p2⟩⟩ (by simp; omega) (by simp; omega) (by simp; omega) fun h' tk x ko hx => ?_) (F.args_zip_next_1 _))))
    obtain ⟨o, ho, hc'⟩ := hx
    refine wpAny_bind (wpAny_isInstance (T := "StopIteration") (b := true) ⟨o, ho, hc'⟩ isSubtype_stop ?_)
    exact wpAny_pure ⟨rfl, I.turnedL (t' := tk) (ch := [z, TI, TO, i1, e, it]) (fun c o hb q => ko c o (fun q' => hb (by simp only [List.mem_cons, List.mem_append, List.not_mem_nil, or_false] at q' ⊢; rcases q' with q' | q' | q' | q' | q' <;> simp [q'])) q) hf⟩
  self := fun A i s Q E st h => wpAny_pyIter_zip st.1 h
end Ev

set_option Elab.async false
set_option linter.all false
set_option maxRecDepth 100000
set_option maxHeartbeats 4000000
/-! Ev: nested iterators, 4: they begin. -/
namespace Ev
open PySem PySem.Spec PyProof.Rows L2

theorem meets_enumerate_newS {z TI TO : Addr} :
    Meets (Builtin.«enumerate.__new__» ⟨[.type "enumerate", .ref z], []⟩) (fun _ R s => IsZip s.heap z TI TO .none ∧
      R (.ok (.ret (.ref s.heap.objs.size))) { s with heap := s.heap.push { cls := .type "enumerate", data := .fields #[.none, .bool false, .ref z, rawInt 0, .none, .none] } }) :=
  .of_wp fun prog w A R s h => by
    obtain ⟨hp, g, d, tk, os⟩ := s; obtain ⟨h1, h⟩ := h
    have hsub := sub_enumerate
    have q1 : ∀ {A' : Around} {E : Value → Shared → Prop} {Q : Value → Shared → Prop}, Q (.ref z) ⟨hp, g, d, tk, os⟩ → wpAny (model prog w) A' (pyIter (.ref z)) Q E ⟨hp, g, d, tk, os⟩ :=
      fun q => wpAny_pyIter_zip h1 q
    wp_walk using q1
    refine wpAny_stack_any fun st => wpAny_pure ?_
    split
    · rename_i c _ _ _ _ _
      cases (c == Value.type "enumerate")
      · wp_walk using q1
        exact ⟨_, rfl, h⟩
      · wp_walk using q1
        exact ⟨_, rfl, h⟩
    · wp_walk using q1
      exact ⟨_, rfl, h⟩
abbrev gsT (h : Heap) (o1 : Obj) (e : Addr) : Heap := (h.push o1).push { cls := .type "tuple", data := .seq #[.ref h.objs.size, .ref e] }
abbrev gsO (h : Heap) (o1 : Obj) (e : Addr) : Heap := (gsT h o1 e).push { cls := .type "tuple", data := .seq #[.none, .none] }
abbrev gsZ (h : Heap) (o1 : Obj) (e : Addr) : Heap := (gsO h o1 e).push { cls := .type "zip", data := .fields #[.none, .bool false, .bool false, .ref (h.push o1).objs.size, .ref (gsT h o1 e).objs.size] }
theorem meets_zip_newS {v1 : Value} {o1 : Obj} {H1 : Heap → Prop} {e it : Addr} {old : Value} {i : Int} (B1 : Begins v1 o1 H1) :
    Meets (Builtin.«zip.__new__» ⟨[.type "zip", v1, .ref e], []⟩) (fun _ R s => (H1 s.heap ∧ IsEnum s.heap e it i old) ∧
      R (.ok (.ret (.ref (gsO s.heap o1 e).objs.size))) { s with heap := gsZ s.heap o1 e }) :=
  .of_wp fun prog w A R s h => by
    obtain ⟨hp, g, d, tk, os⟩ := s; obtain ⟨⟨h1, h2⟩, h⟩ := h
    have hsub := sub_zip
    have q1 : ∀ {A' : Around} {E : Value → Shared → Prop} {Q : Value → Shared → Prop}, Q (.ref hp.objs.size) ⟨(hp.push o1), g, d, tk, os⟩ → wpAny (model prog w) A' (pyIter v1) Q E ⟨hp, g, d, tk, os⟩ :=
      fun q => B1.iter prog w _ _ ⟨hp, g, d, tk, os⟩ _ (B1.keeps _ _ h1 fun b o' e => e) q
    have q2 : ∀ {A' : Around} {E : Value → Shared → Prop} {Q : Value → Shared → Prop}, Q (.ref e) ⟨(hp.push o1), g, d, tk, os⟩ → wpAny (model prog w) A' (pyIter (.ref e)) Q E ⟨(hp.push o1), g, d, tk, os⟩ :=
      fun q => wpAny_pyIter_enum (Heap.get?_push_of_some _ h2) q
    wp_walk using q1, q2
    exact ⟨_, rfl, h⟩
section
variable {prog : Program} {w : World} {A : Around} {E : Value → Shared → Prop} {s : Shared}
theorem call_enumS {z TI TO : Addr} {Q : Value → Shared → Prop} (hz : IsZip s.heap z TI TO .none)
    (h : ∀ h', IsEnum h' s.heap.objs.size z 0 .none → (∀ b o, s.heap.get? b = some o → h'.get? b = some o) → Q (.ref s.heap.objs.size) { s with heap := h' }) :
    wpAny (model prog w) A (call (.type "enumerate") [.ref z]) Q E s := by
  refine callType_new F.called_enumerate (by decide) (F.typeCall_enumerate_1 _) (F.newCall_enumerate_1 _) (fun obj => F.args_object_init_2 obj _) F.entry_enumerate_new
    meets_enumerate_newS ⟨hz, ?_⟩
  have he : IsEnum (s.heap.push { cls := .type "enumerate", data := .fields #[.none, .bool false, .ref z, rawInt 0, .none, .none] }) s.heap.objs.size z 0 .none := Heap.get?_push_size _ rfl
  exact ⟨⟨_, he, rfl⟩, h _ he fun b o x => Heap.get?_push_of_some _ x⟩
theorem zip_beginsS {v1 : Value} {o1 : Obj} {H1 : Heap → Prop} {e it : Addr} {old : Value} {i : Int} {Q : Value → Shared → Prop} (B1 : Begins v1 o1 H1) (h1 : H1 s.heap) (h2 : IsEnum s.heap e it i old)
    (h : ∀ h', IsZip h' (s.heap.objs.size + 3) (s.heap.objs.size + 1) (s.heap.objs.size + 2) .none → IsTupOf2 h' (s.heap.objs.size + 1) (.ref s.heap.objs.size) (.ref e) →
      IsTupOf2 h' (s.heap.objs.size + 2) .none .none → h'.get? s.heap.objs.size = some o1 → (∀ c o, s.heap.get? c = some o → h'.get? c = some o) → Q (.ref (s.heap.objs.size + 3)) { s with heap := h' }) :
    wpAny (model prog w) A (call (.type "zip") [v1, .ref e]) Q E s := by
  refine callType_new F.called_zip (by decide) (F.typeCall_zip_2 _ _) (F.newCall_zip_2 _ _) (fun obj => F.args_object_init_3 obj _ _) F.entry_zip_new
    (meets_zip_newS B1) ⟨⟨h1, h2⟩, ?_⟩
  have z1 : (s.heap.push o1).objs.size = s.heap.objs.size + 1 := by rw [Heap.size_push]
  have zT : (gsT s.heap o1 e).objs.size = s.heap.objs.size + 2 := by rw [Heap.size_push, z1]
  have zO : (gsO s.heap o1 e).objs.size = s.heap.objs.size + 3 := by rw [Heap.size_push, zT]
  have gZ : (gsZ s.heap o1 e).get? (gsO s.heap o1 e).objs.size = some { cls := .type "zip", data := .fields #[.none, .bool false, .bool false, .ref (s.heap.push o1).objs.size, .ref (gsT s.heap o1 e).objs.size] } := Heap.get?_push_size _ rfl
  have gO : (gsZ s.heap o1 e).get? (gsT s.heap o1 e).objs.size = some { cls := .type "tuple", data := .seq #[.none, .none] } := Heap.get?_push_of_some _ (Heap.get?_push_size _ rfl)
  have gT : (gsZ s.heap o1 e).get? (s.heap.push o1).objs.size = some { cls := .type "tuple", data := .seq #[.ref s.heap.objs.size, .ref e] } := Heap.get?_push_of_some _ (Heap.get?_push_of_some _ (Heap.get?_push_size _ rfl))
  have g1 : (gsZ s.heap o1 e).get? s.heap.objs.size = some o1 := Heap.get?_push_of_some _ (Heap.get?_push_of_some _ (Heap.get?_push_of_some _ (Heap.get?_push_size _ B1.free)))
  rw [zO, zT, z1] at gZ
  rw [zT] at gO
  rw [z1] at gT
  show _ ∧ _
  rw [zO]
  exact ⟨⟨_, gZ, rfl⟩, h _ gZ gT gO g1 fun c o e => Heap.get?_push_of_some _ (Heap.get?_push_of_some _ (Heap.get?_push_of_some _ (Heap.get?_push_of_some _ e)))⟩
end
theorem ez_ne {N a b : Nat} (la : a < N) (lb : b < N) (q : (N + 5 : Nat) ∈ (N + 4) :: (N + 2) :: (N + 3) :: ([N, a] ++ [N + 1, b])) : False := by
  simp at q
  omega
theorem ze_ne {N b : Nat} (lb : b < N) (q : (N + 1 : Nat) ∈ [N, b]) : False := by
  simp at q
  omega
theorem ze_sep {N a b : Nat} (la : a < N) (lb : b < N) : ZSep (N + 2 + 3 : Nat) (N + 2 + 1 : Nat) (N + 2 + 2 : Nat) [(N + 2 : Nat)] [(N + 2 : Nat), a] [(N + 1 : Nat), (N : Nat)] [(N + 1 : Nat), (N : Nat), b] :=
  zsepE_of (N := N + 2) (by omega) (by omega) (by omega) (by omega) (by omega) (by omega)
theorem ze_lt {N a : Nat} (la : a < N) : a ≠ N + 2 := by omega
/-- the value of an expression is an iterator at its start -/
structure PIv (X : Cx) (tg iter : Expr) (wi : TI) : Prop where
  run : ∀ (pins : List (Addr × Obj)) (s : Shared) (σ : L2.St) (H : Hp) (R : It → Hp → Prop), Inv X pins σ H s → wi σ H R → wpAny (model X.prog X.w) X.A (eval iter X.env) (PIE X pins σ tg R) X.xe s
theorem PIv.pi {X : Cx} {tg iter : Expr} {wi : TI} (h : PIv X tg iter wi) : PI X tg iter wi := by
  refine ⟨fun pins s σ H R I q => thn (h.run pins s σ H R I q) fun v s1 ⟨it, fp, tn, J, H', e, I', T, t0, hf, r⟩ => ?_⟩
  subst e
  exact T.self X.A 0 s1 _ _ t0 ⟨it, fp, tn, J, H', rfl, I', T, t0, hf, r⟩
def iEZ (K : PySem.W.Frag) (ta : TA) : TI := fun σ H R => ta σ H fun vs H1 => ∃ k1 k2 a b xs ys, vs = [.ref a, .ref b] ∧ SqQ k1 K H1 a xs ∧ SqQ k2 K H1 b ys ∧ R (ItEZ K k1 k2 a b) H1
theorem piv_EZ {X : Cx} {e e2 : Expr} {ta : TA} {p p2 pos pos2 tpos : Pos} {elts : List Expr} {kk : Nat} (hgE : Gl X "enumerate") (hmE : X.mg "enumerate" = none) (hg : Gl X "zip") (hm : X.mg "zip" = none) (ha : PA X [e, e2] ta)
    (hs : starEach [e, e2] X.env = (false, eval e X.env) :: starEach [e2] X.env := by rfl) (hpl : (backTo pos2 (starEach [e2] X.env)).any (·.1) = false := by rfl)
    (hsE : starEach [.Call (.Name "zip" p2) [e, e2] [] pos2] X.env = (false, eval (.Call (.Name "zip" p2) [e, e2] [] pos2) X.env) :: starEach [] X.env := by rfl) :
    PIv X (.Tuple elts kk tpos) (.Call (.Name "enumerate" p) [.Call (.Name "zip" p2) [e, e2] [] pos2] [] pos) (iEZ X.K ta) := by
  refine ⟨fun pins s σ H R I h => ?_⟩
  refine Call_ (ld_blt I hgE hmE boot_enumerate (PyProof.Rows.callWith_type1 ?_ hsE rfl))
  rw [hsE]
  refine Calls.spliced_cons ?_
  refine Call_ (ld_blt I hg hm PyProof.Rows.boot_zip (PyProof.Rows.callWith_type1 (thn (ha.run pos2 pins s σ H _ I h) fun us s1 ⟨vs, H1, I1, r1, q1⟩ => ?_) hs hpl))
  obtain ⟨k1, k2, a, b, xs, ys, ex, hqx, hqy, q⟩ := q1
  subst ex
  cases r1 with
  | cons r rr =>
    cases rr with
    | cons r' rr =>
      cases rr
      cases r
      cases r'
      obtain ⟨its, rv, p1, la⟩ := hqx.its I1
      obtain ⟨its2, rv2, p2, lb⟩ := hqy.its I1
      refine zip_begins2 (begins_Q k1 a its.toArray) (begins_Q k2 b its2.toArray) p1 p2 fun h' hz hTI hTO h1 h2 hsz hk => ?_
      have I2 : Inv X pins σ H1 { s1 with heap := h' } := I1.kept (t' := s1.toks) hk
      refine Calls.spliced_nil (call_enumS (s := { s1 with heap := h' }) hz fun h'' he hk2 => ?_)
      have I3 : Inv X pins σ H1 { s1 with heap := h'' } := I2.kept (t' := s1.toks) hk2
      have hsz' : ({ s1 with heap := h' } : Shared).heap.objs.size = s1.heap.objs.size + 5 := hsz
      rw [hsz'] at he ⊢
      refine ⟨s1.heap.objs.size + 5, [s1.heap.objs.size + 5, s1.heap.objs.size + 4, s1.heap.objs.size + 2, s1.heap.objs.size + 3, s1.heap.objs.size, s1.heap.objs.size + 1], _, _, H1, rfl, I3,
        turn_EZ k1 k2 (zsep_of la lb) (Nat.ne_of_lt la) (Nat.ne_of_lt (Nat.lt_succ_of_lt lb)) (fun q => ?_),
        ⟨⟨.none, he⟩, ⟨.none, false, hk2 _ _ hz, .inl rfl⟩, hk2 _ _ hTI, ⟨_, _, hk2 _ _ hTO⟩, itrQ_new (hk2 _ _ h1), itrQ_new (hk2 _ _ h2)⟩, fun c hcm => ?_, q⟩
      · exact ez_ne la lb q
      · have e' : c = s1.heap.objs.size + 5 ∨ c = s1.heap.objs.size + 4 ∨ c = s1.heap.objs.size + 2 ∨ c = s1.heap.objs.size + 3 ∨ c = s1.heap.objs.size ∨ c = s1.heap.objs.size + 1 := by simpa using hcm
        have hle : s1.heap.objs.size ≤ c := by
          rcases e' with z | z | z | z | z | z
          · rw [z]; exact Nat.le_add_right _ _
          · rw [z]; exact Nat.le_add_right _ _
          · rw [z]; exact Nat.le_add_right _ _
          · rw [z]; exact Nat.le_add_right _ _
          · rw [z]; exact Nat.le_refl _
          · rw [z]; exact Nat.le_add_right _ _
        exact I1.fpOk hle (I1.hok.fresh hle)
def iZE (K : PySem.W.Frag) (te : TE) (ta : TA) : TI := fun σ H R => te σ H fun v H0 => ta σ H0 fun vs H1 => ∃ k1 k2 a b xs ys, v = .ref a ∧ vs = [.ref b] ∧ SqQ k1 K H1 a xs ∧ SqQ k2 K H1 b ys ∧ R (ItZE K k1 k2 a b) H1
theorem piv_ZE {X : Cx} {e e2 : Expr} {te : TE} {ta : TA} {p p2 pos pos2 tpos : Pos} {elts : List Expr} {kk : Nat} (hgE : Gl X "enumerate") (hmE : X.mg "enumerate" = none) (hg : Gl X "zip") (hm : X.mg "zip" = none) (he : PE X e te) (ha : PA X [e2] ta)
    (hsE : starEach [e2] X.env = [(false, eval e2 X.env)] := by rfl)
    (hs : starEach [e, .Call (.Name "enumerate" p2) [e2] [] pos2] X.env = (false, eval e X.env) :: starEach [.Call (.Name "enumerate" p2) [e2] [] pos2] X.env := by rfl)
    (hs2 : starEach [.Call (.Name "enumerate" p2) [e2] [] pos2] X.env = (false, eval (.Call (.Name "enumerate" p2) [e2] [] pos2) X.env) :: starEach [] X.env := by rfl)
    (hpl : (backTo pos (starEach [.Call (.Name "enumerate" p2) [e2] [] pos2] X.env)).any (·.1) = false := by rfl) :
    PIv X (.Tuple elts kk tpos) (.Call (.Name "zip" p) [e, .Call (.Name "enumerate" p2) [e2] [] pos2] [] pos) (iZE X.K te ta) := by
  refine ⟨fun pins s σ H R I h => ?_⟩
  refine Call_ (ld_blt I hg hm PyProof.Rows.boot_zip (PyProof.Rows.callWith_type1 ?_ hs hpl))
  rw [hs]
  refine Calls.spliced_cons (thn (he.run pins s σ H _ I h) fun u s0 ⟨v, H0, I0, r0, q0⟩ => ?_)
  rw [hs2]
  refine Calls.spliced_cons ?_
  refine Call_ (ld_blt I0 hgE hmE boot_enumerate (PyProof.Rows.callWith_type1 (thn (ha.run pos2 pins s0 σ H0 _ I0 q0) fun us s1 ⟨vs, H1, I1, r1, q1⟩ => ?_) hsE rfl))
  obtain ⟨k1, k2, a, b, xs, ys, ev, ex, hqx, hqy, q⟩ := q1
  subst ex ev
  cases r0
  cases r1 with
  | cons r rr =>
    cases rr
    cases r
    obtain ⟨its, rv, p1, la⟩ := hqx.its I1
    obtain ⟨its2, rv2, p2, lb⟩ := hqy.its I1
    refine call_enum1 (begins_Q k2 b its2.toArray) p2 fun h' hE hit hsz hk => ?_
    have I2 : Inv X pins σ H1 { s1 with heap := h' } := I1.kept (t' := s1.toks) hk
    obtain ⟨its', rv', p1', la'⟩ := hqx.its I2
    refine Calls.spliced_nil (zip_beginsS (s := { s1 with heap := h' }) (begins_Q k1 a its'.toArray) p1' hE fun h'' hz hTI hTO h1 hk2 => ?_)
    have I3 : Inv X pins σ H1 { s1 with heap := h'' } := I2.kept (t' := s1.toks) hk2
    have hsz' : ({ s1 with heap := h' } : Shared).heap.objs.size = s1.heap.objs.size + 2 := hsz
    rw [hsz'] at hz hTI hTO h1 ⊢
    refine ⟨s1.heap.objs.size + 2 + 3, [s1.heap.objs.size + 2 + 3, s1.heap.objs.size + 2 + 1, s1.heap.objs.size + 2 + 2, s1.heap.objs.size + 2, s1.heap.objs.size + 1, s1.heap.objs.size], _, _, H1, rfl, I3,
      turn_ZE k1 k2 (ze_sep la lb) (ze_lt la) (Nat.ne_of_lt lb) (fun q => ?_),
      ⟨hz, hTI, ⟨_, _, hTO⟩, itrQ_new h1, ⟨.none, .none, false, hk2 _ _ hE, .inl rfl⟩, itrQ_new (hk2 _ _ hit)⟩, fun c hcm => ?_, q⟩
    · exact ze_ne lb q
    · have e' : c = s1.heap.objs.size + 2 + 3 ∨ c = s1.heap.objs.size + 2 + 1 ∨ c = s1.heap.objs.size + 2 + 2 ∨ c = s1.heap.objs.size + 2 ∨ c = s1.heap.objs.size + 1 ∨ c = s1.heap.objs.size := by simpa using hcm
      have hle : s1.heap.objs.size ≤ c := by
        rcases e' with z | z | z | z | z | z
        · rw [z]; exact Nat.le_trans (Nat.le_add_right _ 2) (Nat.le_add_right _ _)
        · rw [z]; exact Nat.le_trans (Nat.le_add_right _ 2) (Nat.le_add_right _ _)
        · rw [z]; exact Nat.le_trans (Nat.le_add_right _ 2) (Nat.le_add_right _ _)
        · rw [z]; exact Nat.le_add_right _ _
        · rw [z]; exact Nat.le_add_right _ _
        · rw [z]; exact Nat.le_refl _
      exact I1.fpOk hle (I1.hok.fresh hle)
end Ev

set_option Elab.async false
set_option linter.all false
set_option maxRecDepth 100000
set_option maxHeartbeats 4000000
/-! Ev: what loops walk: sequences, enumerate, zip, range; by value and by reference. -/
namespace Ev
open PySem PySem.Spec PyProof.Rows L2

def asSeq : PV → Option (List PV)
  | .tup xs => some xs
  | .lst xs => some xs
  | _ => none
def SeqIn (g : Gx) (H : Hp) (N : Addr → Prop) (k : Kd) (a : Addr) (vs : List V) : Prop := match k with
  | .L => H a = some (.lst vs) ∧ ¬ N a
  | .T => SqT g.K H a vs
section
variable {g : Gx} {H H2 : Hp} {N N2 : Addr → Prop} {k k1 k2 : Kd} {a b : Addr} {vs ws : List V} {xs ys : List PV}
theorem SeqIn.car (c : Car H N H2 N2) (h : SeqIn g H N k a vs) : SeqIn g H2 N2 k a vs := by
  cases k
  · exact ⟨c.oth a _ h.1 h.2 (fun ps z => by cases z), fun z => h.2 (c.shut a (by rw [h.1]; exact fun z => nomatch z) z)⟩
  · exact h.imp (c.tup a vs) id
theorem SeqIn.sq {K : PySem.W.Frag} (hK : K = g.K) (h : SeqIn g H N k a vs) : SqQ k K H a vs := by
  subst hK
  cases k
  · exact .of h.1
  · exact h
theorem Rep.seq {p : PV} {v : V} (h : Rep g H N p v) (e : asSeq p = some xs) : ∃ k a vs, v = .ref a ∧ SeqIn g H N k a vs ∧ Reps g H N xs vs := by
  cases p <;> cases e
  · simp only [Rep] at h
    obtain ⟨a, vs, rfl, h1, h2⟩ := h
    exact ⟨.T, a, vs, rfl, h1, h2⟩
  · simp only [Rep] at h
    obtain ⟨a, vs, rfl, h1, h2, h3⟩ := h
    exact ⟨.L, a, vs, rfl, ⟨h1, h2⟩, h3⟩
/-- what walks a sequence gives its things -/
theorem walks_1 {K : PySem.W.Frag} (hK : K = g.K) (h : SeqIn g H N k a vs) (r : Reps g H N xs vs) : Walks g H N xs (It1 K k a) := fun H2 N2 c => by
  have q := (h.car c).sq hK
  have r2 := Reps.mono c _ _ r
  refine ⟨fun i x hx => ?_, vs, q, by rw [r.length]; exact Nat.le_refl _⟩
  obtain ⟨v, e1, e2⟩ := r2.get hx
  refine ⟨⟨vs, v, q, e1⟩, fun v' H3 ⟨e3, e4⟩ => ?_⟩
  have := e4 vs q
  rw [e1] at this
  cases this
  rw [e3]
  exact ⟨fun _ _ h => h, e2⟩
def enumL (xs : List PV) : List PV := xs.mapIdx fun i x => .tup [.int i, x]
theorem enumL_at {i : Nat} {y : PV} (h : (enumL xs)[i]? = some y) : ∃ x, xs[i]? = some x ∧ y = .tup [.int i, x] := by
  unfold enumL at h
  rw [List.getElem?_mapIdx] at h
  cases e : xs[i]? with
  | none => rw [e] at h; cases h
  | some x => rw [e] at h; cases h; exact ⟨x, rfl, rfl⟩
theorem rep_pair {x y : PV} {v w : V} {T : Addr} (hT : H2 T = none) (hx : Rep g H2 N2 x v) (hy : Rep g H2 N2 y w) : Rep g (upd H2 T (.tup [v, w])) N2 (.tup [x, y]) (.ref T) := by
  simp only [Rep]
  refine ⟨T, [v, w], rfl, .inl (.of upd_same), ?_⟩
  have c := Car.ext (N := N2) (ext_upd (o := .tup [v, w]) hT)
  exact .cons (Rep.mono c _ _ hx) (.one (Rep.mono c _ _ hy))
theorem walks_E {K : PySem.W.Frag} (hK : K = g.K) (h : SeqIn g H N k a vs) (r : Reps g H N xs vs) : Walks g H N (enumL xs) (ItE K k a) := fun H2 N2 c => by
  have q := (h.car c).sq hK
  have r2 := Reps.mono c _ _ r
  refine ⟨fun i x hx => ?_, vs, q, by rw [← r.length]; simp [enumL]⟩
  obtain ⟨x0, hx0, rfl⟩ := enumL_at hx
  obtain ⟨v, e1, e2⟩ := r2.get hx0
  refine ⟨⟨vs, v, q, e1⟩, fun v' H3 ⟨T, w, e3, e4, e5, e6⟩ => ?_⟩
  have := e6 vs q
  rw [e1] at this
  cases this
  subst e3 e5
  exact ⟨ext_upd e4, rep_pair e4 rep_int e2⟩
def zipL (xs ys : List PV) : List PV := List.zipWith (fun x y => .tup [x, y]) xs ys
theorem walks_Z {K : PySem.W.Frag} (hK : K = g.K) (h : SeqIn g H N k1 a vs) (r : Reps g H N xs vs) (h' : SeqIn g H N k2 b ws) (r' : Reps g H N ys ws) : Walks g H N (zipL xs ys) (ItZ K k1 k2 a b) := fun H2 N2 c => by
  have q := (h.car c).sq hK
  have q' := (h'.car c).sq hK
  have r2 := Reps.mono c _ _ r
  have r2' := Reps.mono c _ _ r'
  have l1 := r.length
  have l2 := r'.length
  have hl : (zipL xs ys).length = min xs.length ys.length := by simp [zipL]
  refine ⟨fun i x hx => ?_, vs, ws, q, q', by omega, by omega, by omega⟩
  unfold zipL at hx
  rw [List.getElem?_zipWith] at hx
  cases ex : xs[i]? with
  | none => rw [ex] at hx; cases hx
  | some x0 =>
    cases ey : ys[i]? with
    | none => rw [ex, ey] at hx; cases hx
    | some y0 =>
      rw [ex, ey] at hx
      cases hx
      obtain ⟨v, e1, e2⟩ := r2.get ex
      obtain ⟨w, e1', e2'⟩ := r2'.get ey
      refine ⟨⟨vs, ws, v, w, q, q', e1, e1'⟩, fun v' H3 ⟨T, v1, w1, e3, e4, e5, e6, e7⟩ => ?_⟩
      have := e6 vs q
      rw [e1] at this
      cases this
      have := e7 ws q'
      rw [e1'] at this
      cases this
      subst e3 e5
      exact ⟨ext_upd e4, rep_pair e4 e2 e2'⟩
def rangeL (lo : Int) (n : Nat) : List PV := (List.range n).map fun i => .int (lo + (i : Nat))
theorem walks_R {lo : Int} {n : Nat} : Walks g H N (rangeL lo n) (Itr lo n) := fun H2 N2 c => by
  refine ⟨fun i x hx => ?_, by show n ≤ _; simp [rangeL]⟩
  have hi : i < n := by have := (List.getElem?_eq_some_iff.mp hx).1; simpa [rangeL] using this
  refine ⟨hi, fun v H3 ⟨e1, e2⟩ => ?_⟩
  subst e1 e2
  have : x = .int (lo + (i : Nat)) := by
    unfold rangeL at hx
    rw [List.getElem?_map, List.getElem?_range hi] at hx
    exact (Option.some.inj hx).symm
  subst this
  exact ⟨fun _ _ h => h, rep_int⟩
end
/-! ### values that are walked -/
def aSeq (f : EF) : AF := fun sg cs => (f sg cs).bind fun v c => match asSeq v with
  | some xs => .ok xs c
  | none => .stuck
def aEnum (f : EF) : AF := fun sg cs => (f sg cs).bind fun v c => match asSeq v with
  | some xs => .ok (enumL xs) c
  | none => .stuck
def aZip (a b : EF) : AF := fun sg cs => (a sg cs).bind fun v c => (b sg c).bind fun w c' => match asSeq v, asSeq w with
  | some xs, some ys => .ok (zipL xs ys) c'
  | _, _ => .stuck
def ok62 (i : Int) : Bool := decide (-(2 ^ 62) ≤ i) && decide (i < 2 ^ 62)
def aRng1 (a : EF) : AF := fun sg cs => (a sg cs).bind fun v c => match v with
  | .int n => if ok62 n then .ok (rangeL 0 n.toNat) c else .stuck
  | _ => .stuck
def aRng2 (a b : EF) : AF := fun sg cs => (a sg cs).bind fun v c => (b sg c).bind fun w c' => match v, w with
  | .int i, .int j => if ok62 i && ok62 j then .ok (rangeL i (j - i).toNat) c' else .stuck
  | _, _ => .stuck
section
variable {g : Gx} {X : Cx} {W : WX} {kk : Nat} {e e2 tg : Expr} {fe fa : EF} {p pos tpos : Pos} {elts : List Expr}
theorem ok62_of {i : Int} (h : ok62 i = true) : -(2 ^ 62) ≤ i ∧ i < 2 ^ 62 := by
  unfold ok62 at h
  simp only [Bool.and_eq_true, decide_eq_true_eq] at h
  exact h
theorem si_seq (hK : X.K = g.K) (he : SE g X W e fe) : SI g X W tg e (aSeq fe) := (pi_seqQ he).imp fun σ H R ⟨P, ms, cs, sg, A, h⟩ => by
  refine ⟨P, ms, cs, sg, A, ?_⟩
  unfold aSeq at h
  revert h
  cases fe sg cs with
  | stuck => exact fun h => h
  | exc e c => exact fun h => h
  | ok v c =>
    intro h ms' H' vv B q
    simp only [Res.bind] at h
    split at h
    · rename_i xs hx
      obtain ⟨k, a, vs, rfl, h1, h2⟩ := Rep.seq q hx
      exact ⟨k, a, rfl, ⟨vs, h1.sq hK⟩, h ms' H' _ B (walks_1 hK h1 h2)⟩
    · exact h.elim
theorem si_enum (hK : X.K = g.K) (hg : Gl X "enumerate") (hm : X.mg "enumerate" = none) (he : SE g X W e fe) (hs : starEach [e] X.env = (false, eval e X.env) :: starEach [] X.env := by rfl) (hs1 : starEach [e] X.env = [(false, eval e X.env)] := by rfl) :
    SI g X W (.Tuple elts kk tpos) (.Call (.Name "enumerate" p) [e] [] pos) (aEnum fe) := (pi_enumQ hg hm (pa_cons he pa_nil hs) hs1).imp fun σ H R ⟨P, ms, cs, sg, A, h⟩ => by
  refine ⟨P, ms, cs, sg, A, ?_⟩
  unfold aEnum at h
  revert h
  cases fe sg cs with
  | stuck => exact fun h => h
  | exc e c => exact fun h => h
  | ok v c =>
    intro h ms' H' vv B q
    simp only [Res.bind] at h
    split at h
    · rename_i xs hx
      obtain ⟨k, a, vs, rfl, h1, h2⟩ := Rep.seq q hx
      exact ⟨k, a, vs, rfl, h1.sq hK, h ms' H' _ B (walks_E hK h1 h2)⟩
    · exact h.elim
theorem si_zip (hK : X.K = g.K) (hg : Gl X "zip") (hm : X.mg "zip" = none) (he : SE g X W e fe) (ha : SE g X W e2 fa) (hs : starEach [e, e2] X.env = (false, eval e X.env) :: starEach [e2] X.env := by rfl) (hs2 : starEach [e2] X.env = (false, eval e2 X.env) :: starEach [] X.env := by rfl) (hpl : (backTo pos (starEach [e2] X.env)).any (·.1) = false := by rfl) :
    SI g X W (.Tuple elts kk tpos) (.Call (.Name "zip" p) [e, e2] [] pos) (aZip fe fa) := (pi_zipQ hg hm (pa_cons he (pa_cons ha pa_nil hs2) hs) hs hpl).imp fun σ H R ⟨P, ms, cs, sg, A, h⟩ => by
  refine ⟨P, ms, cs, sg, A, ?_⟩
  unfold aZip at h
  revert h
  cases fe sg cs with
  | stuck => exact fun h => h
  | exc e c => exact fun h => h
  | ok v c =>
    intro h ms' H' vv B q
    refine ⟨P, ms', c, sg, A.aft B, ?_⟩
    simp only [Res.bind] at h
    revert h
    cases fa sg c with
    | stuck => exact fun h => h
    | exc e c2 => exact fun h ms2 H2 c' d B2 q2 => h ms2 H2 c' d (B.trans B2 A.rel) q2
    | ok w c2 =>
      intro h ms2 H2 ww B2 q2
      dsimp only at h
      split at h
      · rename_i xs ys hx hy
        obtain ⟨k, a, vs, rfl, h1, h2⟩ := Rep.seq (q.aft B.rel B2) hx
        obtain ⟨k', a', vs', rfl, h1', h2'⟩ := Rep.seq q2 hy
        exact ⟨k, k', a, a', vs, vs', rfl, h1.sq hK, h1'.sq hK, h ms2 H2 _ (B.trans B2 A.rel) (walks_Z hK h1 h2 h1' h2')⟩
      · exact h.elim
theorem si_range1 (hg : Gl X "range") (hm : X.mg "range" = none) (he : SE g X W e fe) (hs : starEach [e] X.env = (false, eval e X.env) :: starEach [] X.env := by rfl) (hs1 : starEach [e] X.env = [(false, eval e X.env)] := by rfl) :
    SI g X W tg (.Call (.Name "range" p) [e] [] pos) (aRng1 fe) := (pi_range1 hg hm (pa_cons he pa_nil hs) hs1).imp fun σ H R ⟨P, ms, cs, sg, A, h⟩ => by
  refine ⟨P, ms, cs, sg, A, ?_⟩
  unfold aRng1 at h
  revert h
  cases fe sg cs with
  | stuck => exact fun h => h
  | exc e c => exact fun h => h
  | ok v c =>
    cases v with
    | int n =>
      intro h ms' H' vv B q
      have q : Rep g H' (Exl P ms' c) (.int n) vv := q
      simp only [Rep] at q
      subst q
      simp only [Res.bind] at h
      split at h
      · rename_i ho
        obtain ⟨o1, o2⟩ := ok62_of ho
        exact ⟨n, rfl, o1, o2, h ms' H' _ B walks_R⟩
      · exact h.elim
    | _ => exact fun h => h.elim
theorem si_range2 (hg : Gl X "range") (hm : X.mg "range" = none) (he : SE g X W e fe) (ha : SE g X W e2 fa) (hs : starEach [e, e2] X.env = (false, eval e X.env) :: starEach [e2] X.env := by rfl) (hs2 : starEach [e2] X.env = (false, eval e2 X.env) :: starEach [] X.env := by rfl) (hr2 : starEach [e, e2] X.env = [(false, eval e X.env), (false, eval e2 X.env)] := by rfl) (hr3 : starEach [e2] X.env = [(false, eval e2 X.env)] := by rfl) :
    SI g X W tg (.Call (.Name "range" p) [e, e2] [] pos) (aRng2 fe fa) := (pi_range2 hg hm (pa_cons he (pa_cons ha pa_nil hs2) hs) hr2 hr3).imp fun σ H R ⟨P, ms, cs, sg, A, h⟩ => by
  refine ⟨P, ms, cs, sg, A, ?_⟩
  unfold aRng2 at h
  revert h
  cases fe sg cs with
  | stuck => exact fun h => h
  | exc e c => exact fun h => h
  | ok v c =>
    intro h ms' H' vv B q
    refine ⟨P, ms', c, sg, A.aft B, ?_⟩
    simp only [Res.bind] at h
    revert h
    cases fa sg c with
    | stuck => exact fun h => h
    | exc e c2 => exact fun h ms2 H2 c' d B2 q2 => h ms2 H2 c' d (B.trans B2 A.rel) q2
    | ok w c2 =>
      intro h ms2 H2 ww B2 q2
      dsimp only at h
      split at h
      · rename_i i j
        have q : Rep g H' (Exl P ms' c) (.int i) vv := q
        have q2 : Rep g H2 (Exl P ms2 c2) (.int j) ww := q2
        simp only [Rep] at q q2
        subst q q2
        split at h
        · rename_i ho
          rw [Bool.and_eq_true] at ho
          obtain ⟨o1, o2⟩ := ok62_of ho.1
          obtain ⟨o3, o4⟩ := ok62_of ho.2
          exact ⟨i, j, rfl, ⟨o1, o2, o3, o4⟩, h ms2 H2 _ (B.trans B2 A.rel) walks_R⟩
        · exact h.elim
      · exact h.elim
end

/-! ### walked by reference -/
inductive Src where
  | one (s : SV) | enu (s : SV) | zip (s t : SV) | ez (s t : SV) | ze (s t : SV)
def seqOf (cs : Cs) (s : SV) : Option (List PV) := match s with
  | .val p => asSeq p
  | .cel j => match cs[j]? with
    | some (.lst xs) => some xs
    | _ => none
/-- what comes at turn i (none: out of the model; some none: the end) -/
def srcAt (cs : Cs) (src : Src) (i : Nat) : Option (Option PV) := match src with
  | .one s => (seqOf cs s).bind fun xs => if i ≤ xs.length then some xs[i]? else none
  | .enu s => (seqOf cs s).bind fun xs => if i ≤ xs.length then some (xs[i]?.map fun x => .tup [.int i, x]) else none
  | .zip s t => (seqOf cs s).bind fun xs => (seqOf cs t).bind fun ys => if i ≤ xs.length ∧ i ≤ ys.length then some (xs[i]?.bind fun x => ys[i]?.map fun y => .tup [x, y]) else none
  | .ez s t => (seqOf cs s).bind fun xs => (seqOf cs t).bind fun ys => if i ≤ xs.length ∧ i ≤ ys.length then some (xs[i]?.bind fun x => ys[i]?.map fun y => .tup [.int i, .tup [x, y]]) else none
  | .ze s t => (seqOf cs s).bind fun xs => (seqOf cs t).bind fun ys => if i ≤ xs.length ∧ i ≤ ys.length then some (xs[i]?.bind fun x => ys[i]?.map fun y => .tup [x, .tup [.int i, y]]) else none
def srcLen (cs : Cs) (src : Src) : Nat := match src with
  | .one s => ((seqOf cs s).getD []).length
  | .enu s => ((seqOf cs s).getD []).length
  | .zip s t => min ((seqOf cs s).getD []).length ((seqOf cs t).getD []).length
  | .ez s t => min ((seqOf cs s).getD []).length ((seqOf cs t).getD []).length
  | .ze s t => min ((seqOf cs s).getD []).length ((seqOf cs t).getD []).length
def SvAt (g : Gx) (P : Addr → Prop) (ms : List Addr) (cs : Cs) (H : Hp) (s : SV) (k : Kd) (a : Addr) : Prop := match s with
  | .val p => ∃ xs vs, asSeq p = some xs ∧ SeqIn g H (Exl P ms cs) k a vs ∧ Reps g H (Exl P ms cs) xs vs
  | .cel j => k = .L ∧ ms[j]? = some a
section
variable {g : Gx} {P P2 : Addr → Prop} {ms ms2 : List Addr} {cs cs2 : Cs} {H H2 : Hp} {s t : SV} {k k1 k2 : Kd} {a b : Addr}
theorem SvAt.aft (R : Rel g H P ms cs) (A : Aft g P ms cs H P2 ms2 cs2 H2) (h : SvAt g P ms cs H s k a) : SvAt g P2 ms2 cs2 H2 s k a := by
  cases s with
  | val p =>
    obtain ⟨xs, vs, e, h1, h2⟩ := h
    exact ⟨xs, vs, e, h1.car (A.car R), Reps.mono (A.car R) _ _ h2⟩
  | cel j => exact ⟨h.1, A.pre _ _ h.2⟩
theorem SvAt.get {xs : List PV} (R : Rel g H P ms cs) (h : SvAt g P ms cs H s k a) (e : seqOf cs s = some xs) {K : PySem.W.Frag} (hK : K = g.K) : ∃ vs, SqQ k K H a vs ∧ Reps g H (Exl P ms cs) xs vs := by
  cases s with
  | val p =>
    obtain ⟨xs', vs, e', h1, h2⟩ := h
    have : seqOf cs (.val p) = asSeq p := rfl
    rw [this, e'] at e
    cases e
    exact ⟨vs, h1.sq hK, h2⟩
  | cel j =>
    obtain ⟨rfl, ha⟩ := h
    unfold seqOf at e
    dsimp only at e
    split at e
    · rename_i ys hc
      cases e
      obtain ⟨vs, h1, h2⟩ := R.cells j a _ ha hc
      exact ⟨vs, .of h1, h2⟩
    · cases e
theorem RepS.svAt {v : V} {xs : List PV} (R : Rel g H P ms cs) (h : RepS g H P ms cs s v) (e : seqOf cs s = some xs) : ∃ k a, v = .ref a ∧ SvAt g P ms cs H s k a := by
  cases s with
  | val p =>
    obtain ⟨k, a, vs, rfl, h1, h2⟩ := Rep.seq (show Rep g H (Exl P ms cs) p v from h) (show asSeq p = some xs from e)
    exact ⟨k, a, rfl, xs, vs, e, h1, h2⟩
  | cel j =>
    obtain ⟨a, ha, rfl⟩ := h
    exact ⟨.L, a, rfl, rfl, ha⟩
/-- J walks src, at whatever comes later -/
def WalkS (g : Gx) (P : Addr → Prop) (ms : List Addr) (cs : Cs) (H : Hp) (src : Src) (J : It) : Prop := ∀ P2 ms2 cs2 H2, Aft g P ms cs H P2 ms2 cs2 H2 → ∀ i, (srcAt cs2 src i = some none → J.stop i H2) ∧
  ∀ x, srcAt cs2 src i = some (some x) → J.go i H2 ∧ ∀ v H3, J.yld i H2 v H3 → (∀ b o, H2 b = some o → H3 b = some o) ∧ Rep g H3 (Exl P2 ms2 cs2) x v
theorem WalkS.aft {src : Src} {J : It} (R : Rel g H P ms cs) (A : Aft g P ms cs H P2 ms2 cs2 H2) (w : WalkS g P ms cs H src J) : WalkS g P2 ms2 cs2 H2 src J := fun P3 ms3 cs3 H3 B => w P3 ms3 cs3 H3 (A.trans B R)
theorem walkS_1 {K : PySem.W.Frag} (hK : K = g.K) (R : Rel g H P ms cs) (h : SvAt g P ms cs H s k a) : WalkS g P ms cs H (.one s) (It1 K k a) := fun P2 ms2 cs2 H2 A i => by
  have h2 := h.aft R A
  simp only [srcAt]
  cases e : seqOf cs2 s with
  | none => exact ⟨fun z => (by cases z), fun x z => (by cases z)⟩
  | some xs =>
    obtain ⟨vs, q, r⟩ := h2.get A.rel e hK
    simp only [Option.bind_some]
    refine ⟨fun z => ?_, fun x z => ?_⟩
    · split at z
      · have hl : xs.length ≤ i := List.getElem?_eq_none_iff.mp (Option.some.inj z)
        exact ⟨vs, q, by rw [← r.length]; exact hl⟩
      · cases z
    · split at z
      · obtain ⟨v, e1, e2⟩ := r.get (Option.some.inj z)
        refine ⟨⟨vs, v, q, e1⟩, fun v' H3 ⟨e3, e4⟩ => ?_⟩
        have := e4 vs q
        rw [e1] at this
        cases this
        rw [e3]
        exact ⟨fun _ _ h => h, e2⟩
      · cases z
theorem walkS_E {K : PySem.W.Frag} (hK : K = g.K) (R : Rel g H P ms cs) (h : SvAt g P ms cs H s k a) : WalkS g P ms cs H (.enu s) (ItE K k a) := fun P2 ms2 cs2 H2 A i => by
  have h2 := h.aft R A
  simp only [srcAt]
  cases e : seqOf cs2 s with
  | none => exact ⟨fun z => (by cases z), fun x z => (by cases z)⟩
  | some xs =>
    obtain ⟨vs, q, r⟩ := h2.get A.rel e hK
    simp only [Option.bind_some]
    refine ⟨fun z => ?_, fun x z => ?_⟩
    · split at z
      · have hl : xs.length ≤ i := by
          have := Option.some.inj z
          rw [Option.map_eq_none_iff] at this
          exact List.getElem?_eq_none_iff.mp this
        exact ⟨vs, q, by rw [← r.length]; exact hl⟩
      · cases z
    · split at z
      · obtain ⟨x0, hx0, rfl⟩ := Option.map_eq_some_iff.mp (Option.some.inj z)
        obtain ⟨v, e1, e2⟩ := r.get hx0
        refine ⟨⟨vs, v, q, e1⟩, fun v' H3 ⟨T, w, e3, e4, e5, e6⟩ => ?_⟩
        have := e6 vs q
        rw [e1] at this
        cases this
        subst e3 e5
        exact ⟨ext_upd e4, rep_pair e4 rep_int e2⟩
      · cases z
theorem walkS_Z {K : PySem.W.Frag} (hK : K = g.K) (R : Rel g H P ms cs) (h : SvAt g P ms cs H s k1 a) (h' : SvAt g P ms cs H t k2 b) : WalkS g P ms cs H (.zip s t) (ItZ K k1 k2 a b) := fun P2 ms2 cs2 H2 A i => by
  have h2 := h.aft R A
  have h2' := h'.aft R A
  simp only [srcAt]
  cases e : seqOf cs2 s with
  | none => exact ⟨fun z => (by cases z), fun x z => (by cases z)⟩
  | some xs =>
    cases e' : seqOf cs2 t with
    | none => exact ⟨fun z => (by cases z), fun x z => (by cases z)⟩
    | some ys =>
      obtain ⟨vs, q, r⟩ := h2.get A.rel e hK
      obtain ⟨ws, q', r'⟩ := h2'.get A.rel e' hK
      have l1 := r.length
      have l2 := r'.length
      simp only [Option.bind_some]
      refine ⟨fun z => ?_, fun x z => ?_⟩
      · split at z
        · rename_i hle
          have z := Option.some.inj z
          refine ⟨vs, ws, q, q', ?_, by omega, by omega⟩
          by_cases h1 : i < xs.length
          · by_cases h2 : i < ys.length
            · rw [List.getElem?_eq_getElem h1, List.getElem?_eq_getElem h2] at z
              cases z
            · right; omega
          · left; omega
        · cases z
      · split at z
        · have z := Option.some.inj z
          cases ex : xs[i]? with
          | none => rw [ex] at z; cases z
          | some x0 =>
            cases ey : ys[i]? with
            | none => rw [ex, ey] at z; cases z
            | some y0 =>
              rw [ex, ey] at z
              cases z
              obtain ⟨v, e1, e2⟩ := r.get ex
              obtain ⟨w, e1', e2'⟩ := r'.get ey
              refine ⟨⟨vs, ws, v, w, q, q', e1, e1'⟩, fun v' H3 ⟨T, v1, w1, e3, e4, e5, e6, e7⟩ => ?_⟩
              have := e6 vs q
              rw [e1] at this
              cases this
              have := e7 ws q'
              rw [e1'] at this
              cases this
              subst e3 e5
              exact ⟨ext_upd e4, rep_pair e4 e2 e2'⟩
        · cases z
theorem walkS_EZ {K : PySem.W.Frag} (hK : K = g.K) (R : Rel g H P ms cs) (h : SvAt g P ms cs H s k1 a) (h' : SvAt g P ms cs H t k2 b) : WalkS g P ms cs H (.ez s t) (ItEZ K k1 k2 a b) := fun P2 ms2 cs2 H2 A i => by
  have h2 := h.aft R A
  have h2' := h'.aft R A
  simp only [srcAt]
  cases e : seqOf cs2 s with
  | none => exact ⟨fun z => (by cases z), fun x z => (by cases z)⟩
  | some xs =>
    cases e' : seqOf cs2 t with
    | none => exact ⟨fun z => (by cases z), fun x z => (by cases z)⟩
    | some ys =>
      obtain ⟨vs, q, r⟩ := h2.get A.rel e hK
      obtain ⟨ws, q', r'⟩ := h2'.get A.rel e' hK
      have l1 := r.length
      have l2 := r'.length
      simp only [Option.bind_some]
      refine ⟨fun z => ?_, fun x z => ?_⟩
      · split at z
        · rename_i hle
          have z := Option.some.inj z
          refine ⟨vs, ws, q, q', ?_, by omega, by omega⟩
          by_cases h1 : i < xs.length
          · by_cases h2 : i < ys.length
            · rw [List.getElem?_eq_getElem h1, List.getElem?_eq_getElem h2] at z
              cases z
            · right; omega
          · left; omega
        · cases z
      · split at z
        · have z := Option.some.inj z
          cases ex : xs[i]? with
          | none => rw [ex] at z; cases z
          | some x0 =>
            cases ey : ys[i]? with
            | none => rw [ex, ey] at z; cases z
            | some y0 =>
              rw [ex, ey] at z
              cases z
              obtain ⟨v, e1, e2⟩ := r.get ex
              obtain ⟨w, e1', e2'⟩ := r'.get ey
              refine ⟨⟨vs, ws, v, w, q, q', e1, e1'⟩, fun v' H3 ⟨T1, T2, v1, w1, e3, e4, e4', ne, e5, e6, e7⟩ => ?_⟩
              have := e6 vs q
              rw [e1] at this
              cases this
              have := e7 ws q'
              rw [e1'] at this
              cases this
              subst e3 e5
              have hT2 : upd H2 T1 (.tup [v, w]) T2 = none := by rw [upd_ne (Ne.symm ne)]; exact e4'
              exact ⟨fun b o h => ext_upd hT2 b o (ext_upd e4 b o h), rep_pair hT2 rep_int (rep_pair e4 e2 e2')⟩
        · cases z
theorem walkS_ZE {K : PySem.W.Frag} (hK : K = g.K) (R : Rel g H P ms cs) (h : SvAt g P ms cs H s k1 a) (h' : SvAt g P ms cs H t k2 b) : WalkS g P ms cs H (.ze s t) (ItZE K k1 k2 a b) := fun P2 ms2 cs2 H2 A i => by
  have h2 := h.aft R A
  have h2' := h'.aft R A
  simp only [srcAt]
  cases e : seqOf cs2 s with
  | none => exact ⟨fun z => (by cases z), fun x z => (by cases z)⟩
  | some xs =>
    cases e' : seqOf cs2 t with
    | none => exact ⟨fun z => (by cases z), fun x z => (by cases z)⟩
    | some ys =>
      obtain ⟨vs, q, r⟩ := h2.get A.rel e hK
      obtain ⟨ws, q', r'⟩ := h2'.get A.rel e' hK
      have l1 := r.length
      have l2 := r'.length
      simp only [Option.bind_some]
      refine ⟨fun z => ?_, fun x z => ?_⟩
      · split at z
        · rename_i hle
          have z := Option.some.inj z
          refine ⟨vs, ws, q, q', ?_, by omega, by omega⟩
          by_cases h1 : i < xs.length
          · by_cases h2 : i < ys.length
            · rw [List.getElem?_eq_getElem h1, List.getElem?_eq_getElem h2] at z
              cases z
            · right; omega
          · left; omega
        · cases z
      · split at z
        · have z := Option.some.inj z
          cases ex : xs[i]? with
          | none => rw [ex] at z; cases z
          | some x0 =>
            cases ey : ys[i]? with
            | none => rw [ex, ey] at z; cases z
            | some y0 =>
              rw [ex, ey] at z
              cases z
              obtain ⟨v, e1, e2⟩ := r.get ex
              obtain ⟨w, e1', e2'⟩ := r'.get ey
              refine ⟨⟨vs, ws, v, w, q, q', e1, e1'⟩, fun v' H3 ⟨T1, T2, v1, w1, e3, e4, e4', ne, e5, e6, e7⟩ => ?_⟩
              have := e6 vs q
              rw [e1] at this
              cases this
              have := e7 ws q'
              rw [e1'] at this
              cases this
              subst e3 e5
              have hT2 : upd H2 T1 (.tup [.int (i : Nat), w]) T2 = none := by rw [upd_ne (Ne.symm ne)]; exact e4'
              exact ⟨fun b o h => ext_upd hT2 b o (ext_upd e4 b o h), rep_pair hT2 (Rep.mono (Car.ext (ext_upd e4)) _ _ e2) (rep_pair e4 rep_int e2')⟩
        · cases z
end
abbrev IV := Sg → Cs → Res Src
def PostIS (g : Gx) (P : Addr → Prop) (ms : List Addr) (cs : Cs) (H : Hp) (r : Res Src) (R : It → Hp → Prop) (W : Value → Option Addr → Hp → Prop) : Prop :=
  match r with
  | .ok src cs' => ∀ ms' H' J, Aft g P ms cs H P ms' cs' H' → WalkS g P ms' cs' H' src J → R J H'
  | .exc e cs' => ∀ ms' H' c d, Aft g P ms cs H P ms' cs' H' → ExR g H' (Exl P ms' cs') e c d → W c d H'
  | .stuck => False
def rdIS (g : Gx) (f : IV) (W : WX) : TI := fun σ H R => ∃ P ms cs sg, At g P ms cs sg σ H ∧ PostIS g P ms cs H (f sg cs) R fun c d H' => W c d σ H'
abbrev SIS (g : Gx) (X : Cx) (W : WX) (tg iter : Expr) (f : IV) : Prop := PI X tg iter (rdIS g f W)
def iOne (f : EV) : IV := fun sg cs => (f sg cs).bind fun s c => match seqOf c s with
  | some _ => .ok (.one s) c
  | none => .stuck
def iEnu (f : EV) : IV := fun sg cs => (f sg cs).bind fun s c => match seqOf c s with
  | some _ => .ok (.enu s) c
  | none => .stuck
def iZp (a b : EV) : IV := fun sg cs => (a sg cs).bind fun s c => (b sg c).bind fun t c' => match seqOf c' s, seqOf c' t with
  | some _, some _ => .ok (.zip s t) c'
  | _, _ => .stuck
def iEZp (a b : EV) : IV := fun sg cs => (a sg cs).bind fun s c => (b sg c).bind fun t c' => match seqOf c' s, seqOf c' t with
  | some _, some _ => .ok (.ez s t) c'
  | _, _ => .stuck
def iZEp (a b : EV) : IV := fun sg cs => (a sg cs).bind fun s c => (b sg c).bind fun t c' => match seqOf c' s, seqOf c' t with
  | some _, some _ => .ok (.ze s t) c'
  | _, _ => .stuck
/-- the loop: n turns at most -/
def forS (tg : GF) (body : BF) (src : Src) : Nat → Nat → BF
  | 0, i, sg, cs => match srcAt cs src i with
    | some none => .nx sg cs
    | _ => .stuck
  | n + 1, i, sg, cs => match srcAt cs src i with
    | some none => .nx sg cs
    | some (some x) => (match tg x sg with
      | none => .stuck
      | some sg1 => match body sg1 cs with
        | .nx s c => forS tg body src n (i + 1) s c
        | .ct s c => forS tg body src n (i + 1) s c
        | .bk s c => .nx s c
        | r => r)
    | none => .stuck
def sForS (it : IV) (tg : GF) (body : BF) : BF := fun sg cs => (it sg cs).st sg fun src cs' => forS tg body src (srcLen cs' src) 0 sg cs'
def compS (tg : GF) (tt : TF) (te : EF) (vs : List Nat) (sg : Sg) (src : Src) : Nat → Nat → List PV → Cs → Res (List PV)
  | 0, i, acc, cs => match srcAt cs src i with
    | some none => .ok acc cs
    | _ => .stuck
  | n + 1, i, acc, cs => match srcAt cs src i with
    | some none => .ok acc cs
    | some (some x) => (match tg x (wipeS sg vs) with
      | none => .stuck
      | some sg1 => match tt sg1 cs with
        | .ok true cs1 => (match te sg1 cs1 with
          | .ok y cs2 => compS tg tt te vs sg src n (i + 1) (y :: acc) cs2
          | _ => .stuck)
        | .ok false cs1 => compS tg tt te vs sg src n (i + 1) acc cs1
        | _ => .stuck)
    | none => .stuck
def fCompS (it : IV) (tg : GF) (tt : TF) (te : EF) (vs : List Nat) : AF := fun sg cs => (it sg cs).bind fun src cs1 =>
  if srcLen cs1 src ≤ 16777216 then (compS tg tt te vs sg src (srcLen cs1 src) 0 [] cs1).bind fun zs cs2 => .ok zs.reverse cs2 else .stuck
section
variable {g : Gx} {X : Cx} {W : WX} {kk k : Nat} {e e2 tg : Expr} {fe fa : EV} {p pos tpos : Pos} {elts : List Expr} {is : List Nat}
theorem _root_.L2.PI.impS {X : Cx} {tg e : Expr} {t t' : TI} (h : PI X tg e t) (i : ∀ σ H R, t' σ H R → t σ H R) : PI X tg e t' := ⟨fun pins s σ H R I q => h.run pins s σ H R I (i σ H R q)⟩
theorem sis_one (hK : X.K = g.K) (he : SVj g X W e fe) : SIS g X W tg e (iOne fe) := (pi_seqQ he).impS fun σ H R ⟨P, ms, cs, sg, A, h⟩ => by
  refine ⟨P, ms, cs, sg, A, ?_⟩
  unfold iOne at h
  revert h
  cases fe sg cs with
  | stuck => exact fun h => h
  | exc e c => exact fun h => h
  | ok v c =>
    intro h ms' H' vv B q
    simp only [Res.bind] at h
    split at h
    · rename_i xs hx
      obtain ⟨k, a, rfl, h1⟩ := RepS.svAt B.rel (rpV1_S q) hx
      obtain ⟨vs, q1, _⟩ := h1.get B.rel hx hK
      exact ⟨k, a, rfl, ⟨vs, q1⟩, h ms' H' _ B (walkS_1 hK B.rel h1)⟩
    · exact h.elim
theorem sis_enum (hK : X.K = g.K) (hg : Gl X "enumerate") (hm : X.mg "enumerate" = none) (he : SVj g X W e fe) (hs : starEach [e] X.env = (false, eval e X.env) :: starEach [] X.env := by rfl) (hs1 : starEach [e] X.env = [(false, eval e X.env)] := by rfl) :
    SIS g X W (.Tuple elts kk tpos) (.Call (.Name "enumerate" p) [e] [] pos) (iEnu fe) := (pi_enumQ hg hm (pa_cons he pa_nil hs) hs1).impS fun σ H R ⟨P, ms, cs, sg, A, h⟩ => by
  refine ⟨P, ms, cs, sg, A, ?_⟩
  unfold iEnu at h
  revert h
  cases fe sg cs with
  | stuck => exact fun h => h
  | exc e c => exact fun h => h
  | ok v c =>
    intro h ms' H' vv B q
    simp only [Res.bind] at h
    split at h
    · rename_i xs hx
      obtain ⟨k, a, rfl, h1⟩ := RepS.svAt B.rel (rpV1_S q) hx
      obtain ⟨vs, q1, _⟩ := h1.get B.rel hx hK
      exact ⟨k, a, vs, rfl, q1, h ms' H' _ B (walkS_E hK B.rel h1)⟩
    · exact h.elim
theorem sis_zip (hK : X.K = g.K) (hg : Gl X "zip") (hm : X.mg "zip" = none) (he : SVj g X W e fe) (ha : SVj g X W e2 fa) (hs : starEach [e, e2] X.env = (false, eval e X.env) :: starEach [e2] X.env := by rfl) (hs2 : starEach [e2] X.env = (false, eval e2 X.env) :: starEach [] X.env := by rfl) (hpl : (backTo pos (starEach [e2] X.env)).any (·.1) = false := by rfl) :
    SIS g X W (.Tuple elts kk tpos) (.Call (.Name "zip" p) [e, e2] [] pos) (iZp fe fa) := (pi_zipQ hg hm (pa_cons he (pa_cons ha pa_nil hs2) hs) hs hpl).impS fun σ H R ⟨P, ms, cs, sg, A, h⟩ => by
  refine ⟨P, ms, cs, sg, A, ?_⟩
  unfold iZp at h
  revert h
  cases fe sg cs with
  | stuck => exact fun h => h
  | exc e c => exact fun h => h
  | ok v c =>
    intro h ms' H' vv B q
    refine ⟨P, ms', c, sg, A.aft B, ?_⟩
    simp only [Res.bind] at h
    revert h
    cases fa sg c with
    | stuck => exact fun h => h
    | exc e c2 => exact fun h ms2 H2 c' d B2 q2 => h ms2 H2 c' d (B.trans B2 A.rel) q2
    | ok w c2 =>
      intro h ms2 H2 ww B2 q2
      dsimp only at h
      split at h
      · rename_i xs ys hx hy
        obtain ⟨k, a, rfl, h1⟩ := RepS.svAt B2.rel ((rpV1_S q).aft B.rel B2) hx
        obtain ⟨k', a', rfl, h1'⟩ := RepS.svAt B2.rel (rpV1_S q2) hy
        obtain ⟨vs, q1, _⟩ := h1.get B2.rel hx hK
        obtain ⟨ws, q1', _⟩ := h1'.get B2.rel hy hK
        exact ⟨k, k', a, a', vs, ws, rfl, q1, q1', h ms2 H2 _ (B.trans B2 A.rel) (walkS_Z hK B2.rel h1 h1')⟩
      · exact h.elim
theorem sis_EZ (hK : X.K = g.K) (hgE : Gl X "enumerate") (hmE : X.mg "enumerate" = none) (hg : Gl X "zip") (hm : X.mg "zip" = none) (he : SVj g X W e fe) (ha : SVj g X W e2 fa) {p2 pos2 : Pos} (hs : starEach [e, e2] X.env = (false, eval e X.env) :: starEach [e2] X.env := by rfl) (hs2 : starEach [e2] X.env = (false, eval e2 X.env) :: starEach [] X.env := by rfl) (hpl : (backTo pos2 (starEach [e2] X.env)).any (·.1) = false := by rfl)
    (hsE : starEach [.Call (.Name "zip" p2) [e, e2] [] pos2] X.env = (false, eval (.Call (.Name "zip" p2) [e, e2] [] pos2) X.env) :: starEach [] X.env := by rfl) :
    SIS g X W (.Tuple elts kk tpos) (.Call (.Name "enumerate" p) [.Call (.Name "zip" p2) [e, e2] [] pos2] [] pos) (iEZp fe fa) := (piv_EZ hgE hmE hg hm (pa_cons he (pa_cons ha pa_nil hs2) hs) hs hpl hsE).pi.impS fun σ H R ⟨P, ms, cs, sg, A, h⟩ => by
  refine ⟨P, ms, cs, sg, A, ?_⟩
  unfold iEZp at h
  revert h
  cases fe sg cs with
  | stuck => exact fun h => h
  | exc e c => exact fun h => h
  | ok v c =>
    intro h ms' H' vv B q
    refine ⟨P, ms', c, sg, A.aft B, ?_⟩
    simp only [Res.bind] at h
    revert h
    cases fa sg c with
    | stuck => exact fun h => h
    | exc e c2 => exact fun h ms2 H2 c' d B2 q2 => h ms2 H2 c' d (B.trans B2 A.rel) q2
    | ok w c2 =>
      intro h ms2 H2 ww B2 q2
      dsimp only at h
      split at h
      · rename_i xs ys hx hy
        obtain ⟨k, a, rfl, h1⟩ := RepS.svAt B2.rel ((rpV1_S q).aft B.rel B2) hx
        obtain ⟨k', a', rfl, h1'⟩ := RepS.svAt B2.rel (rpV1_S q2) hy
        obtain ⟨vs, q1, _⟩ := h1.get B2.rel hx hK
        obtain ⟨ws, q1', _⟩ := h1'.get B2.rel hy hK
        exact ⟨k, k', a, a', vs, ws, rfl, q1, q1', h ms2 H2 _ (B.trans B2 A.rel) (walkS_EZ hK B2.rel h1 h1')⟩
      · exact h.elim
/-- the value is an iterator -/
abbrev SIV (g : Gx) (X : Cx) (W : WX) (tg iter : Expr) (f : IV) : Prop := PIv X tg iter (rdIS g f W)
theorem PIv.impS {X : Cx} {tg e : Expr} {t t' : TI} (h : PIv X tg e t) (i : ∀ σ H R, t' σ H R → t σ H R) : PIv X tg e t' := ⟨fun pins s σ H R I q => h.run pins s σ H R I (i σ H R q)⟩
theorem siv_ZE (hK : X.K = g.K) (hgE : Gl X "enumerate") (hmE : X.mg "enumerate" = none) (hg : Gl X "zip") (hm : X.mg "zip" = none) (he : SVj g X W e fe) (ha : SVj g X W e2 fa) {p2 pos2 : Pos}
    (hsE : starEach [e2] X.env = [(false, eval e2 X.env)] := by rfl) (hsE1 : starEach [e2] X.env = (false, eval e2 X.env) :: starEach [] X.env := by rfl)
    (hs : starEach [e, .Call (.Name "enumerate" p2) [e2] [] pos2] X.env = (false, eval e X.env) :: starEach [.Call (.Name "enumerate" p2) [e2] [] pos2] X.env := by rfl)
    (hs2 : starEach [.Call (.Name "enumerate" p2) [e2] [] pos2] X.env = (false, eval (.Call (.Name "enumerate" p2) [e2] [] pos2) X.env) :: starEach [] X.env := by rfl)
    (hpl : (backTo pos (starEach [.Call (.Name "enumerate" p2) [e2] [] pos2] X.env)).any (·.1) = false := by rfl) :
    SIV g X W (.Tuple elts kk tpos) (.Call (.Name "zip" p) [e, .Call (.Name "enumerate" p2) [e2] [] pos2] [] pos) (iZEp fe fa) := (piv_ZE hgE hmE hg hm he (pa_cons ha pa_nil hsE1) hsE hs hs2 hpl).impS fun σ H R ⟨P, ms, cs, sg, A, h⟩ => by
  refine ⟨P, ms, cs, sg, A, ?_⟩
  unfold iZEp at h
  revert h
  cases fe sg cs with
  | stuck => exact fun h => h
  | exc e c => exact fun h => h
  | ok v c =>
    intro h ms' H' vv B q
    refine ⟨P, ms', c, sg, A.aft B, ?_⟩
    simp only [Res.bind] at h
    revert h
    cases fa sg c with
    | stuck => exact fun h => h
    | exc e c2 => exact fun h ms2 H2 c' d B2 q2 => h ms2 H2 c' d (B.trans B2 A.rel) q2
    | ok w c2 =>
      intro h ms2 H2 ww B2 q2
      dsimp only at h
      split at h
      · rename_i xs ys hx hy
        obtain ⟨k, a, rfl, h1⟩ := RepS.svAt B2.rel ((rpV1_S q).aft B.rel B2) hx
        obtain ⟨k', a', rfl, h1'⟩ := RepS.svAt B2.rel (rpV1_S q2) hy
        obtain ⟨vs, q1, _⟩ := h1.get B2.rel hx hK
        obtain ⟨ws, q1', _⟩ := h1'.get B2.rel hy hK
        exact ⟨k, k', a, a', vs, ws, rfl, rfl, q1, q1', h ms2 H2 _ (B.trans B2 A.rel) (walkS_ZE hK B2.rel h1 h1')⟩
      · exact h.elim
theorem ss_forS {iter : Expr} {body : List Stmt} {fi : IV} {ft : GF} {fb : BF} (hp : PassesOwn (model X.prog X.w) X.A X.env X.xe) (hc : X.calm = true) (hi : SIS g X W tg iter fi) (hg : SG g X tg is ft) (hb : SB g X W body fb)
    (hs : ∀ x, foldedSetIterable iter X.env x = pure x := by intro _; rfl) : SS g X W (.For tg iter body [] pos) (sForS fi ft fb) := by
  obtain ⟨t, g1, g2⟩ := hg
  refine PS.imp (ps_for hp hc hi g1 hb hs) fun D σ H ⟨P, ms, cs, sg, A, h⟩ => ?_
  refine ⟨P, ms, cs, sg, A, ?_⟩
  unfold sForS at h
  revert h
  cases fi sg cs with
  | stuck => exact fun h => h
  | exc e c => exact fun h ms' H' c' d B q => h ms' H' σ c' d B (A.sl.aft A.rel B) q
  | ok src cs1 =>
    intro h ms1 H1 J A1 wk
    refine ⟨fun i m σ' H' => ∃ ms' cs' sg', At g P ms' cs' sg' σ' H' ∧ WalkS g P ms' cs' H' src J ∧ PostS g P ms' cs' H' (forS ft fb src m i sg' cs') D W,
      ⟨srcLen cs1 src, ms1, cs1, sg, A.aft A1, wk, PostS.shift A.rel A1 h⟩, ?_⟩
    rintro i m σ2 H2 ⟨ms2, cs2, sg2, A2, wk2, h2⟩
    have w2 := wk2 P ms2 cs2 H2 (.refl A2.rel) i
    have stop : srcAt cs2 src i = some none → PostS g P ms2 cs2 H2 (.nx sg2 cs2) D W → J.stop i H2 ∧ D.nx σ2 H2 := fun e h => ⟨w2.1 e, h ms2 H2 σ2 (.refl A2.rel) A2.sl⟩
    cases m with
    | zero =>
      simp only [forS] at h2
      split at h2
      · rename_i e; exact .inl (stop e h2)
      · exact h2.elim
    | succ m =>
      simp only [forS] at h2
      split at h2
      · rename_i e; exact .inl (stop e h2)
      · rename_i x e
        right
        obtain ⟨go, yl⟩ := w2.2 x e
        refine ⟨go, fun σ' H' => ∃ ms' cs' sg', At g P ms' cs' sg' σ' H' ∧ WalkS g P ms' cs' H' src J ∧ PostS g P ms' cs' H' (forS ft fb src m (i + 1) sg' cs') D W, fun σ' H' z => ⟨m, Nat.lt_succ_self m, z⟩, ?_⟩
        intro v H3 hy
        obtain ⟨ex, rx⟩ := yl v H3 hy
        have E3 := Aft.ext ex A2.rel
        have A3 := A2.aft E3
        have wk3 := wk2.aft A2.rel E3
        have h3 := PostS.shift A2.rel E3 h2
        cases ht : ft x sg2 with
        | none => rw [ht] at h3; exact h3.elim
        | some sg3 =>
          rw [ht] at h3
          refine g2 P ms2 cs2 sg2 sg3 σ2 H3 x v _ A3 rx ht fun σ3 S3 _ => ⟨P, ms2, cs2, sg3, ⟨A3.rel, S3⟩, ?_⟩
          dsimp only at h3
          revert h3
          cases fb sg3 cs2 with
          | nx s c => exact fun h3 ms' H' σ' B q => ⟨ms', c, s, ⟨B.rel, q⟩, wk3.aft A3.rel B, PostS.shift A3.rel B h3⟩
          | ct s c => exact fun h3 ms' H' σ' B q => ⟨ms', c, s, ⟨B.rel, q⟩, wk3.aft A3.rel B, PostS.shift A3.rel B h3⟩
          | bk s c => exact fun h3 => h3
          | rt v c => exact fun h3 => h3
          | rtF v c => exact fun h3 => h3
          | exc e s c => exact fun h3 => h3
          | stuck => exact fun h3 => h3
      · exact h2.elim
theorem comp_coreS {ft : GF} {tt : TF} {te : EF} {vs : List Nat} {σ : L2.St} {H H1 : Hp} {Q : VK} {t : TG} (hsub : ∀ i ∈ is, i ∈ vs) {P : Addr → Prop} {ms ms1 : List Addr} {cs cs1 : Cs} {sg : Sg} {src : Src} {J : It}
    (g2 : ∀ (P : Addr → Prop) (ms : List Addr) (cs : Cs) (sg sg' : Sg) (σ : L2.St) (H : Hp) (v : PV) (x : V) (Q : L2.St → Hp → Prop), At g P ms cs sg σ H → Rep g H (Exl P ms cs) v x → ft v sg = some sg' →
      (∀ σ', Slots g H P ms cs sg' σ' → Only is σ σ' → Q σ' H) → t x σ H Q) (A : At g P ms cs sg σ H) (A1 : Aft g P ms cs H P ms1 cs1 H1) (wk : WalkS g P ms1 cs1 H1 src J)
    (h : PostF g P ms cs H (if srcLen cs1 src ≤ 16777216 then (compS ft tt te vs sg src (srcLen cs1 src) 0 [] cs1).bind fun zs cs2 => .ok zs.reverse cs2 else .stuck) Q fun c d H' => W c d σ H') {D : Addr} (hD : H1 D = none) :
    ∃ W : Nat → Nat → Hp → Prop, (∃ m, W 0 m (upd H1 D (.lst []))) ∧ ∀ i m H, W i m H → (J.stop i H ∧ Q (.ref D) H) ∨ (J.go i H ∧ ∃ Nx : Hp → Prop, (∀ H', Nx H' → ∃ m', m' < m ∧ W (i + 1) m' H') ∧ ∀ x H', J.yld i H x H' → t x (wipe σ vs) H' fun σ2 H2 => wipe σ2 vs = wipe σ vs ∧ rdT g tt W0 σ2 H2 fun b H3 =>
      if b = true then rdE g te W0 σ2 H3 fun y H4 => ∃ acc, H4 D = some (.lst acc) ∧ acc.length < sizeLine ∧ Nx (upd H4 D (.lst (acc ++ [y]))) else Nx H3) := by
  by_cases hz : srcLen cs1 src ≤ 16777216
  case neg => rw [if_neg hz] at h; exact h.elim
  rw [if_pos hz] at h
  have h0 : H D = none := none_back A1 hD
  refine ⟨fun i m H' => ∃ ms' cs' acc av, Aft g P ms1 cs1 H1 (pls P D) ms' cs' H' ∧ Slots g H' (pls P D) ms' cs' sg σ ∧ m + acc.length ≤ 16777216 ∧
      H' D = some (.lst av) ∧ Reps g H' (Exl (pls P D) ms' cs') acc.reverse av ∧ PostF g P ms cs H ((compS ft tt te vs sg src m i acc cs').bind fun zs cs2 => .ok zs.reverse cs2) Q (fun c d H' => W c d σ H'), ?_, ?_⟩
  · have C := Aft.fresh (vs := []) A1.rel hD
    have B := A1.trans C A.rel
    exact ⟨srcLen cs1 src, ms1, cs1, [], [], C, A.sl.aft A.rel B, by simpa using hz, upd_same, by simp [Reps], h⟩
  rintro i m H2 ⟨ms2, cs2, acc, av, A2, S2, hm, hDv, hr, h2⟩
  have w2 := wk (pls P D) ms2 cs2 H2 A2 i
  cases m with
  | zero =>
    simp only [compS] at h2
    split at h2
    · rename_i e; exact .inl ⟨w2.1 e, h2 ms2 H2 D av h0 (A1.trans A2 A.rel) hDv hr⟩
    · exact h2.elim
  | succ m =>
    simp only [compS] at h2
    split at h2
    · rename_i e; exact .inl ⟨w2.1 e, h2 ms2 H2 D av h0 (A1.trans A2 A.rel) hDv hr⟩
    · rename_i x e
      right
      obtain ⟨go, yl⟩ := w2.2 x e
      refine ⟨go, fun H' => ∃ ms' cs' acc av, Aft g P ms1 cs1 H1 (pls P D) ms' cs' H' ∧ Slots g H' (pls P D) ms' cs' sg σ ∧ m + acc.length ≤ 16777216 ∧
        H' D = some (.lst av) ∧ Reps g H' (Exl (pls P D) ms' cs') acc.reverse av ∧ PostF g P ms cs H ((compS ft tt te vs sg src m (i + 1) acc cs').bind fun zs cs2 => .ok zs.reverse cs2) Q (fun c d H' => W c d σ H'), ?_, ?_⟩
      · rintro H' z
        exact ⟨m, Nat.lt_succ_self m, z⟩
      · intro v H3 hy
        obtain ⟨ex, rx⟩ := yl v H3 hy
        have E3 := Aft.ext ex A2.rel
        have A3 := A2.trans E3 A1.rel
        have S3 := S2.aft A2.rel E3
        have hD3 := ex D _ hDv
        have hr3 := hr.aft A2.rel E3
        cases hft : ft x (wipeS sg vs) with
        | none => rw [hft] at h2; exact h2.elim
        | some sg1 =>
          rw [hft] at h2
          refine g2 (pls P D) ms2 cs2 (wipeS sg vs) sg1 (wipe σ vs) H3 x v _ ⟨A3.rel, S3.wipe vs⟩ rx hft fun σ4 S4 O4 => ⟨wipe_only hsub O4, pls P D, ms2, cs2, sg1, ⟨A3.rel, S4⟩, ?_⟩
          dsimp only at h2
          revert h2
          have nlive : ∀ {ms' cs'} {H' : Hp}, Rel g H' (pls P D) ms' cs' → ¬ Live ms' cs' D := fun r ⟨i, c, h1, _, _⟩ => r.apart i D h1 (.inr rfl)
          cases htt : tt sg1 cs2 with
          | stuck => exact fun h => h.elim
          | exc e c => exact fun h => h.elim
          | ok b cs3 =>
            intro h3 ms3 H4 bb A4 q
            obtain rfl : bb = b := q
            have D4 := A4.frame D _ hD3 (nlive A3.rel) (fun ps z => by cases z)
            have A4' := A3.trans A4 A1.rel
            cases bb with
            | false =>
              rw [if_neg Bool.false_ne_true]
              exact ⟨ms3, cs3, acc, av, A4', S3.aft A3.rel A4, by omega, D4, hr3.aft A3.rel A4, h3⟩
            | true =>
              rw [if_pos rfl]
              refine ⟨pls P D, ms3, cs3, sg1, ⟨A4.rel, S4.aft A3.rel A4⟩, ?_⟩
              dsimp only at h3
              revert h3
              cases hte : te sg1 cs3 with
              | stuck => exact fun h => h.elim
              | exc e c => exact fun h => h.elim
              | ok y cs4 =>
                intro h4 ms4 H5 yy A5 qy
                have D5 := A5.frame D _ D4 (nlive A4.rel) (fun ps z => by cases z)
                have A5' := A4'.trans A5 A1.rel
                have r5 := (hr3.aft A3.rel A4).aft A4.rel A5
                have hlen : av.length < sizeLine := by
                  have := hr.length
                  simp only [List.length_reverse] at this
                  rw [sizeLine_eq]; omega
                have c5 := car_upd (ws := av ++ [yy]) (N := Exl (pls P D) ms4 cs4) D5 (.inl (.inr rfl))
                have U5 := A5'.updP (ws := av ++ [yy]) hD D5 (.inr rfl)
                refine ⟨av, D5, hlen, ms4, cs4, y :: acc, av ++ [yy], U5, ?_, by simp; omega, upd_same, ?_, h4⟩
                · have S5 := (S3.aft A3.rel A4).aft A4.rel A5
                  refine ⟨S5.len, fun j s e => ?_⟩
                  obtain ⟨z, e1, e2⟩ := S5.at_ j s e
                  refine ⟨z, e1, ?_⟩
                  cases s with
                  | val p => exact Rep.mono c5 _ _ e2
                  | cel i => exact e2
                · rw [List.reverse_cons]
                  exact (Reps.mono c5 _ _ r5).append (.one (Rep.mono c5 _ _ qy))
    · exact h2.elim
theorem comp_readS {fi : IV} {ft : GF} {tt : TF} {te : EF} {vs : List Nat} {σ : L2.St} {H : Hp} {Q : VK} {t : TG} (hsub : ∀ i ∈ is, i ∈ vs)
    (g2 : ∀ (P : Addr → Prop) (ms : List Addr) (cs : Cs) (sg sg' : Sg) (σ : L2.St) (H : Hp) (v : PV) (x : V) (Q : L2.St → Hp → Prop), At g P ms cs sg σ H → Rep g H (Exl P ms cs) v x → ft v sg = some sg' →
      (∀ σ', Slots g H P ms cs sg' σ' → Only is σ σ' → Q σ' H) → t x σ H Q) (h : rdF g (fCompS fi ft tt te vs) W σ H Q) :
    tLc (rdIS g fi W) t (rdT g tt W0) (rdE g te W0) vs σ H Q := by
  obtain ⟨P, ms, cs, sg, A, h⟩ := h
  refine ⟨P, ms, cs, sg, A, ?_⟩
  unfold fCompS at h
  revert h
  cases fi sg cs with
  | stuck => exact fun h => h
  | exc e c => exact fun h => h
  | ok src cs1 =>
    intro h ms1 H1 J A1 wk D hD
    exact comp_coreS hsub g2 A A1 wk h hD
theorem sf_compS {elt iter : Expr} {ifs : List Expr} {scope : Scope} {own : List (Str × Nat)} {fi : IV} {ft : GF} {tt : TF} {te : EF} (ok : Ok g X W k) (hi : SIS g X W tg iter fi) (bk : BlkOk X.N X.env.scope scope own) (hsub : ∀ i ∈ is, i ∈ own.map (·.2))
    (hg : ∃ t : TG, (∀ s H C cl fp, PG (Blk X scope s H C cl fp) tg t) ∧ ∀ (P : Addr → Prop) (ms : List Addr) (cs : Cs) (sg sg' : Sg) (σ : L2.St) (H : Hp) (v : PV) (x : V) (Q : L2.St → Hp → Prop), At g P ms cs sg σ H → Rep g H (Exl P ms cs) v x → ft v sg = some sg' →
      (∀ σ', Slots g H P ms cs sg' σ' → Only is σ σ' → Q σ' H) → t x σ H Q)
    (ht : ∀ s H C cl fp, Ok g (Blk X scope s H C cl fp) W0 k → STs g (Blk X scope s H C cl fp) W0 ifs tt) (he : ∀ s H C cl fp, Ok g (Blk X scope s H C cl fp) W0 k → SE g (Blk X scope s H C cl fp) W0 elt te)
    (hs : ∀ x, foldedSetIterable iter X.env x = pure x := by intro _; rfl) : SFr g X W (.ListComp elt [⟨tg, iter, ifs, 0⟩] scope pos) (fCompS fi ft tt te (own.map (·.2))) := by
  obtain ⟨t, g1, g2⟩ := hg
  exact (pe_lc ok.calm ok.nd hi bk g1 (fun s H C cl fp => ht s H C cl fp (ok.blk ..)) (fun s H C cl fp => he s H C cl fp (ok.blk ..)) hs).imp fun σ H Q h => comp_readS hsub g2 h
end
end Ev

set_option Elab.async false
set_option linter.all false
set_option maxRecDepth 100000
set_option maxHeartbeats 4000000
/-! Ev: sets of ints out of lists and tuples: set(..) within sorted(..) and len(..). -/
namespace L2
open PySem PySem.Spec PyProof.Rows
section
variable {P : Program} {w : World} {A : Around} {E : Value → Shared → Prop} {s : Shared}
set_option maxRecDepth 100000 in
set_option maxHeartbeats 3200000 in
theorem call_set_lstI {l : Addr} {items : Array Value} (ns : List Int) {Q : Value → Shared → Prop} (hh : A.handled = none) (hl : s.heap.IsList l items) (hit : IntsAre items.toList ns) (hb : ns.length + 1 < scanBound)
    (h : ∀ (h' : Heap) (tk c : Nat), SetR w h' s.heap.objs.size (fun j => decide (j ∈ ns)) c → c ≤ ns.length → (∀ b o, s.heap.get? b = some o → h'.get? b = some o) → Q (.ref s.heap.objs.size) { s with heap := h', toks := tk }) :
    wpAny (model P w) A (call (.type "set") [.ref l]) Q E s := by
  have hisz : items.size = ns.length := by
    have q := IntsAre.length hit
    rw [Array.length_toList] at q
    exact q
  obtain ⟨c, tl, hmro⟩ := F.called_set.mro
  have hmade := F.called_set.made
  have hsub := F.called_set.sub
  refine wpAny_call (codeAny_of_tree ?_)
  show wpAny _ _ (callAny (.type "set") _) _ _ _
  refine wpAny_pure ⟨Code.quiet_builtin _ (by decide +kernel), codeAny_builtin F.entry_type_call ?_⟩
  rw [Around.under_plain (weight_type_call_type "set" [.ref l] []) rfl]
  have h1 := F.called_set.notType
  have h2 := F.called_set.canCreate
  have hct := F.typeCall_set_1 (.ref l)
  repeat (any_goals (first | assumption | wp_step))

  refine codeAny_mono (code_set_led1 (.ref l) (E := E) (Q₁ := fun obj s₁ => obj = .ref s.heap.objs.size ∧ s₁ = { s with heap := s.heap.push { cls := .type "set", dict := none, data := .set #[] 0 (.fresh 0 0 (!w.params.followText "set-order")) } }) ⟨rfl, rfl⟩) fun r s₁ hr => ?_
  cases r with
  | error e => exact hr
  | ok fl =>
    cases fl with
    | ret obj =>
      obtain ⟨rfl, rfl⟩ := hr
      have hS : (s.heap.push { cls := .type "set", dict := none, data := .set #[] 0 (.fresh 0 0 (!w.params.followText "set-order")) }).get? s.heap.objs.size = some { cls := .type "set", dict := none, data := .set #[] 0 (.fresh 0 0 (!w.params.followText "set-order")) } := Heap.get?_push_size _ rfl
      have hT : Shared.TypeIs { s with heap := s.heap.push { cls := .type "set", dict := none, data := .set #[] 0 (.fresh 0 0 (!w.params.followText "set-order")) } } (.ref s.heap.objs.size) "set" := ⟨_, hS, rfl⟩
      have hli := F.called_set.init.lookup
      have hbi := F.called_set.init.bind (.ref s.heap.objs.size)
      repeat (any_goals (first | assumption | wp_step))

      refine codeAny_mono (codeAny_call_builtin (R := wants (fun r s₂ => r = .none ∧ ∃ h' tk c, s₂ = { s with heap := h', toks := tk } ∧ SetR w h' s.heap.objs.size (fun j => decide (j ∈ ns)) c ∧ c ≤ ns.length ∧
          (∀ b o, s.heap.get? b = some o → h'.get? b = some o)) E) F.called_set.init.plain F.entry_set_init (check_set_init_1 hT ?_)) fun r₂ s₂ hr₂ => ?_
      · obtain ⟨ol, hol, hcl, nl, hdl⟩ := hl
        obtain ⟨ocls, odict, odata, oslots⟩ := ol
        simp only at hcl hdl
        subst hcl; subst hdl
        have hol' : (s.heap.push { cls := .type "set", dict := none, data := .set #[] 0 (.fresh 0 0 (!w.params.followText "set-order")) }).get? l = some { cls := .type "list", dict := odict, data := .seq items nl, slots := oslots } := Heap.get?_push_of_some _ hol
        have hsls := F.sub_list_set
        have hslf := F.sub_list_frozenset
        have hne : (Value.type "list" == Value.type "dict") = false := by decide
        have hl1 : (s.heap.push { cls := .type "set", dict := none, data := .set #[] 0 (.fresh 0 0 (!w.params.followText "set-order")) }).IsList l items := ⟨_, hol', rfl, nl, rfl⟩
        unfold Builtin.«set.__init__» noKeywords Builtin.Frozenset.updateFrom
        generalize hPI : pyIter = PI
        wp_walk
        subst hPI

        refine wpAny_pyIter_list hl1 ?_
        refine wpAny_bind (wpAny_runValue ?_)
        have hlS : l < s.heap.objs.size := Heap.lt_size hol
        have hh3 : A.in1.in1.in1.handled = none := by simp [hh]
        have hz1 : (s.heap.push { cls := .type "set", dict := none, data := .set #[] 0 (.fresh 0 0 (!w.params.followText "set-order")) }).objs.size = s.heap.objs.size + 1 := Heap.size_push ..
        have hneI : l ≠ (s.heap.push { cls := .type "set", dict := none, data := .set #[] 0 (.fresh 0 0 (!w.params.followText "set-order")) }).objs.size := by
          rw [Heap.size_push]; exact Nat.ne_of_lt (Nat.lt_succ_of_lt hlS)
        have hSf : s.heap.objs.size ∉ [(s.heap.push { cls := .type "set", dict := none, data := .set #[] 0 (.fresh 0 0 (!w.params.followText "set-order")) }).objs.size, l] := by
          rw [Heap.size_push]; simp only [List.mem_cons, List.mem_singleton, List.not_mem_nil, or_false, not_or]
          exact ⟨Nat.ne_of_lt (Nat.lt_succ_self _), Nat.ne_of_gt hlS⟩
        have hval : ∀ (i : Nat) (v : Value), items[i]? = some v → ∃ k t, ns[i]? = some k ∧ v = .int k t := fun i v hv => by
          have hi : i < ns.length := by rw [← hisz]; exact (Array.getElem?_eq_some_iff.mp hv).1
          obtain ⟨t, e⟩ := PyProof.Rows.IntsAre.int_at hit i v (by rw [Array.getElem?_toList]; exact hv)
          refine ⟨ns[i], t, List.getElem?_eq_getElem hi, ?_⟩
          rw [e, List.getD_eq_getElem?_getD, List.getElem?_eq_getElem hi] <;> rfl
        refine set_update_ints ((Walks.list hh3 _ l hneI items).toS) s.heap.objs.size
          hSf ns hisz hb hval (items.size - 0) 0 _ (by omega) (Nat.zero_le _)
          ⟨⟨_, Heap.get?_push_size _ rfl, rfl, rfl⟩, (hl1.push _)⟩ ?hS0 ?hR
        case hS0 =>
          have hget : ((s.heap.push { cls := .type "set", dict := none, data := .set #[] 0 (.fresh 0 0 (!w.params.followText "set-order")) }).push { cls := .type "list_iterator", data := .fields #[.ref l, .int 0 0] }).get? s.heap.objs.size
              = some { cls := .type "set", dict := none, data := .set #[] 0 (.fresh 0 0 (!w.params.followText "set-order")) } := Heap.get?_push_of_some _ hS
          exact ⟨0, Nat.le_refl 0, setR_new_at hget⟩
        case hR =>
          intro s' c' hm hc' hS'
          obtain ⟨h', g2, d', tk', os'⟩ := s'
          have eg : g2 = s.gens := hm.gens
          have ed : d' = s.drawn := hm.drawn
          have eo : os' = s.os := hm.os
          subst eg; subst ed; subst eo
          show wpAny _ _ _ _ _ _
          refine wpAny_pure ?_
          show wpAny _ _ (ret Value.none) _ _ _
          rw [hisz] at hc'
          refine wpAny_pure ⟨rfl, h', tk', c', rfl, hS', hc', fun b o e => ?_⟩
          have hb0 : b < s.heap.objs.size := Heap.lt_size e
          have hb1 : b ≠ s.heap.objs.size := Nat.ne_of_lt hb0
          have hb2 : b ≠ (s.heap.push { cls := .type "set", dict := none, data := .set #[] 0 (.fresh 0 0 (!w.params.followText "set-order")) }).objs.size := by
            rw [Heap.size_push]; exact Nat.ne_of_lt (Nat.lt_succ_of_lt hb0)
          exact hm.heap b o (by simp only [List.mem_cons, List.mem_singleton, List.not_mem_nil, or_false, not_or]; exact ⟨hb1, hb2⟩) (Heap.get?_push_of_some _ (Heap.get?_push_of_some _ e))

      · cases r₂ with
        | error e => exact hr₂
        | ok fl₂ =>
          cases fl₂ with
          | ret r =>
            obtain ⟨rfl, h', tk, c', rfl, hS', hc', hk'⟩ := hr₂
            repeat (any_goals (first | assumption | wp_step))
            exact h _ _ _ hS' hc' hk'
          | _ => exact hr₂.elim
    | _ => exact hr.elim


end
end L2
namespace Ev
open PySem PySem.Spec PyProof.Rows L2
/-- put in ascending order, each once -/
def insU (x : Int) : List Int → List Int
  | [] => [x]
  | y :: r => if x < y then x :: y :: r else if x = y then y :: r else y :: insU x r
def setL (ns : List Int) : List Int := ns.foldr insU []
theorem mem_insU {x z : Int} : ∀ {l : List Int}, z ∈ insU x l ↔ z = x ∨ z ∈ l
  | [] => by simp [insU]
  | y :: r => by
    unfold insU
    split
    · simp
    · split
      · rename_i h; subst h; simp
      · simp [mem_insU (l := r)]
        constructor
        · rintro (h | h | h)
          · exact .inr (.inl h)
          · exact .inl h
          · exact .inr (.inr h)
        · rintro (h | h | h)
          · exact .inr (.inl h)
          · exact .inl h
          · exact .inr (.inr h)
theorem asc_insU {x : Int} : ∀ {l : List Int}, l.Pairwise (· < ·) → (insU x l).Pairwise (· < ·)
  | [], _ => by simp [insU]
  | y :: r, h => by
    have h' := List.pairwise_cons.mp h
    unfold insU
    split
    · rename_i hx
      refine List.pairwise_cons.mpr ⟨fun z hz => ?_, h⟩
      rcases List.mem_cons.mp hz with rfl | hz
      · exact hx
      · have := h'.1 z hz; omega
    · split
      · exact h
      · refine List.pairwise_cons.mpr ⟨fun z hz => ?_, asc_insU h'.2⟩
        rcases mem_insU.mp hz with rfl | hz
        · omega
        · exact h'.1 z hz
theorem mem_setL {z : Int} : ∀ {l : List Int}, z ∈ setL l ↔ z ∈ l
  | [] => by simp [setL]
  | y :: r => by
    have : setL (y :: r) = insU y (setL r) := rfl
    rw [this, mem_insU, mem_setL (l := r)]
    simp
theorem asc_setL : ∀ (l : List Int), (setL l).Pairwise (· < ·)
  | [] => by simp [setL]
  | y :: r => by
    have : setL (y :: r) = insU y (setL r) := rfl
    rw [this]
    exact asc_insU (asc_setL r)
theorem asc_nodup {l : List Int} (h : l.Pairwise (· < ·)) : l.Nodup := h.imp fun h => by omega
theorem asc_ext : ∀ {l m : List Int}, l.Pairwise (· < ·) → m.Pairwise (· < ·) → (∀ z, z ∈ l ↔ z ∈ m) → l = m
  | [], [], _, _, _ => rfl
  | [], y :: m, _, _, h => by have := (h y).mpr (by simp); simp at this
  | x :: l, [], _, _, h => by have := (h x).mp (by simp); simp at this
  | x :: l, y :: m, hl, hm, h => by
    have hl' := List.pairwise_cons.mp hl
    have hm' := List.pairwise_cons.mp hm
    have e : x = y := by
      have h1 := (h x).mp (by simp)
      have h2 := (h y).mpr (by simp)
      rcases List.mem_cons.mp h1 with h1 | h1
      · exact h1
      · rcases List.mem_cons.mp h2 with h2 | h2
        · exact h2.symm
        · have a := hl'.1 y h2
          have b := hm'.1 x h1
          omega
    subst e
    congr 1
    refine asc_ext hl'.2 hm'.2 fun z => ?_
    have hz := h z
    simp only [List.mem_cons] at hz
    constructor
    · intro q
      have := hl'.1 z q
      rcases hz.mp (.inr q) with rfl | r
      · omega
      · exact r
    · intro q
      have := hm'.1 z q
      rcases hz.mpr (.inr q) with rfl | r
      · omega
      · exact r
theorem len_setL {l ns : List Int} (nd : l.Nodup) (h : ∀ z, z ∈ l ↔ z ∈ ns) : l.length = (setL ns).length := by
  have p : l.Perm (setL ns) := (List.perm_ext_iff_of_nodup nd (asc_nodup (asc_setL ns))).mpr fun z => by rw [h, mem_setL]
  exact p.length_eq
def rSetQ (K : PySem.W.Frag) (w : World) : List V → Hp → VK → Prop := fun vs H Q => ∃ k a ns, vs = [V.ref a] ∧ SqQ k K H a (ns.map V.int) ∧ ns.length ≤ 1000 ∧ ∀ p, H p = none → Q (.ref p) (upd H p (SetO w p (fun j => decide (j ∈ ns)) (setL ns).length))
section
variable {X : Cx}
theorem cr_setQ (hc : X.calm = true) : CallR X (.type "set") (rSetQ X.K X.w) := by
  intro pins s σ H vs us Q I r h
  obtain ⟨k, a, ns, rfl, hq, hl, q⟩ := h
  rw [Vals.ref1 r]
  have fin : ∀ (h' : Heap) (tk c : Nat), SetR X.w h' s.heap.objs.size (fun j => decide (j ∈ ns)) c → c ≤ ns.length → (∀ b o, s.heap.get? b = some o → h'.get? b = some o) → EP X pins σ Q (.ref s.heap.objs.size) { s with heap := h', toks := tk } := by
    intro h' tk c R hcn kp
    have hcd : c = (setL ns).length := by
      obtain ⟨o, es, ep, t, _, _, _, _, nd, hm, _, _, hn, _⟩ := R
      rw [← hn, ← Array.length_toList, ← List.length_map (f := keyOf)]
      exact len_setL nd fun z => by
        have := hm z
        rw [decide_eq_true_eq] at this
        exact this.symm
    subst hcd
    exact ⟨.ref _, upd H s.heap.objs.size (SetO X.w s.heap.objs.size (fun j => decide (j ∈ ns)) (setL ns).length), I.laid (t' := tk) kp (Nat.le_refl _) (setO_new R), rfl, q _ (I.hok.fresh (Nat.le_refl _))⟩
  cases k
  · obtain ⟨its, rv, pl, _⟩ := I.list hq
    exact call_set_lstI ns (I.ok.hd hc) pl.isList (ints_of_vals rv) (by unfold scanBound; omega) fin
  · obtain ⟨its, rv, pl, _⟩ := I.tuple hq
    exact call_set_tupI ns (I.ok.hd hc) (show s.heap.IsTuple a its.toArray from pl) (ints_of_vals rv) (by unfold scanBound; omega) fin
def rLenSet (w : World) : List V → Hp → VK → Prop := fun vs H Q => ∃ (a : Addr) (S : Int → Bool) (n : Nat), vs = [V.ref a] ∧ H a = some (SetO w a S n) ∧ Q (.int n) H
theorem cr_lenSet : CallR X (.builtin "len") (rLenSet X.w) := by
  intro pins s σ H vs us Q I r h
  obtain ⟨a, S, n, rfl, ha, q⟩ := h
  have R := setO_get I ha
  rw [Vals.ref1 r]
  obtain ⟨o, es, ep, t, ho, hex, hd, _, _, _, hb, hf, hn, _⟩ := R
  subst hn
  exact call_len_set ho hex hd hf (by unfold scanBound at hb; omega) ⟨.int es.size, H, I.tok _, ⟨_, rfl⟩, q⟩
end
/-! ### over plain values -/
def intsOf : List PV → Option (List Int)
  | [] => some []
  | .int i :: r => (intsOf r).map (i :: ·)
  | _ => none
def boolsOf : List PV → Option (List Bool)
  | [] => some []
  | .bl i :: r => (boolsOf r).map (i :: ·)
  | _ => none
section
variable {g : Gx} {X : Cx} {W : WX} {k : Nat} {H : Hp} {N : Addr → Prop}
theorem intsOf_eq : ∀ {xs : List PV} {ns : List Int}, intsOf xs = some ns → xs = ns.map PV.int
  | [], ns, e => by simp only [intsOf] at e; cases e; rfl
  | .int i :: r, ns, e => by
    simp only [intsOf, Option.map_eq_some_iff] at e
    obtain ⟨m, e1, rfl⟩ := e
    simp [← intsOf_eq e1]
  | .non :: _, _, e | .bl _ :: _, _, e | .str _ :: _, _, e | .tup _ :: _, _, e | .lst _ :: _, _, e | .adr _ :: _, _, e | .ty _ :: _, _, e | .dK _ :: _, _, e | .scr _ :: _, _, e => by simp only [intsOf] at e; cases e
theorem boolsOf_eq : ∀ {xs : List PV} {ns : List Bool}, boolsOf xs = some ns → xs = ns.map PV.bl
  | [], ns, e => by simp only [boolsOf] at e; cases e; rfl
  | .bl i :: r, ns, e => by
    simp only [boolsOf, Option.map_eq_some_iff] at e
    obtain ⟨m, e1, rfl⟩ := e
    simp [← boolsOf_eq e1]
  | .non :: _, _, e | .int _ :: _, _, e | .str _ :: _, _, e | .tup _ :: _, _, e | .lst _ :: _, _, e | .adr _ :: _, _, e | .ty _ :: _, _, e | .dK _ :: _, _, e | .scr _ :: _, _, e => by simp only [boolsOf] at e; cases e
theorem reps_ints : ∀ {ns : List Int} {vs : List V}, Reps g H N (ns.map PV.int) vs → vs = ns.map V.int
  | [], vs, h => by simpa [Reps] using h
  | n :: ns, vs, h => by
    simp only [List.map_cons, Reps, Rep] at h
    obtain ⟨v, r, rfl, rfl, h2⟩ := h
    rw [reps_ints h2]; rfl
theorem reps_bools : ∀ {ns : List Bool} {vs : List V}, Reps g H N (ns.map PV.bl) vs → vs = ns.map V.bl
  | [], vs, h => by simpa [Reps] using h
  | n :: ns, vs, h => by
    simp only [List.map_cons, Reps, Rep] at h
    obtain ⟨v, r, rfl, rfl, h2⟩ := h
    rw [reps_bools h2]; rfl
theorem ints_reps : ∀ (ns : List Int), Reps g H N (ns.map PV.int) (ns.map V.int)
  | [] => by simp [Reps]
  | n :: ns => by simp only [List.map_cons]; exact .cons rep_int (ints_reps ns)
/-- as Rep.seq, of what may live -/
theorem RepB.seq {p : PV} {v : V} {xs : List PV} (h : RepB g H N p v) (e : asSeq p = some xs) {K : PySem.W.Frag} (hK : K = g.K) : ∃ k a vs, v = .ref a ∧ SqQ k K H a vs ∧ Reps g H N xs vs := by
  subst hK
  cases p <;> cases e
  · simp only [RepB, Rep] at h
    obtain ⟨a, vs, rfl, h1, h2⟩ := h
    exact ⟨.T, a, vs, rfl, h1, h2⟩
  · simp only [RepB, Rep] at h
    obtain ⟨a, vs, rfl, h1, h3⟩ := h
    exact ⟨.L, a, vs, rfl, .of h1, h3⟩
theorem repBs_one {p : PV} {vs : List V} (h : RepBs g H N [p] vs) : ∃ v, vs = [v] ∧ RepB g H N p v := by
  simp only [RepBs] at h
  obtain ⟨v, r, rfl, h1, rfl⟩ := h
  exact ⟨v, rfl, h1⟩
theorem repBs_two {p q : PV} {vs : List V} (h : RepBs g H N [p, q] vs) : ∃ v w, vs = [v, w] ∧ RepB g H N p v ∧ RepB g H N q w := by
  simp only [RepBs] at h
  obtain ⟨v, r, rfl, h1, w, r', rfl, h2, rfl⟩ := h
  exact ⟨v, w, rfl, h1, h2⟩
def lSortedSet (p : PV) : Option (List PV) := (asSeq p).bind fun xs => (intsOf xs).bind fun ns => if ns.length ≤ 1000 ∧ (setL ns).length < 64 then some ((setL ns).map PV.int) else none
def pLenSet (p : PV) : Option PV := (asSeq p).bind fun xs => (intsOf xs).bind fun ns => if ns.length ≤ 1000 then some (.int (setL ns).length) else none
def fSortedSet (a : EV) : AF := fun sg cs => (a sg cs).bind fun x cs1 => match derefS cs1 x with
  | some p => .lift (lSortedSet p) cs1
  | none => .stuck
def eLenSet (a : EV) : EF := fun sg cs => (a sg cs).bind fun x cs1 => match derefS cs1 x with
  | some p => .lift (pLenSet p) cs1
  | none => .stuck
variable {e : Expr} {fe : EV} {p1 p2 pos pos2 : Pos}
theorem sf_sortedSet (ok : Ok g X W k) (hg : Gl X "sorted") (hm : X.mg "sorted" = none) (hg2 : Gl X "set") (hm2 : X.mg "set" = none) (he : SVj g X W e fe)
    (hs : starEach [e] X.env = (false, eval e X.env) :: starEach [] X.env := by rfl) (hs2 : starEach [.Call (.Name "set" p2) [e] [] pos2] X.env = (false, eval (.Call (.Name "set" p2) [e] [] pos2) X.env) :: starEach [] X.env := by rfl)
    (hpl : (backTo pos2 (starEach [] X.env)).any (·.1) = false := by rfl) (hpl2 : (backTo pos (starEach [] X.env)).any (·.1) = false := by rfl) :
    SFr g X W (.Call (.Name "sorted" p1) [.Call (.Name "set" p2) [e] [] pos2] [] pos) (fSortedSet fe) :=
  (pe_callB (cr_sortedSet ok.calm) hg hm (by with_unfolding_all rfl) (pa_cons (pe_callTy (cr_setQ ok.calm) hg2 hm2 (by with_unfolding_all rfl) (pa_cons he pa_nil hs) (by decide) (by decide) hs hpl) pa_nil hs2) (by decide) (by decide) hs2 hpl2).imp fun σ H Q ⟨P, ms, cs, sg, A, h⟩ => by
    refine ⟨P, ms, cs, sg, A, ?_⟩
    unfold fSortedSet at h
    revert h
    cases fe sg cs with
    | stuck => exact id
    | exc e cs' => exact fun h => h
    | ok s cs1 =>
      intro h ms1 H1 v A1 q1
      simp only [Res.bind] at h
      split at h
      · rename_i p hp
        unfold lSortedSet at h
        cases hx : asSeq p with
        | none => rw [hx] at h; exact h.elim
        | some xs =>
          cases hn : intsOf xs with
          | none => rw [hx] at h; simp only [Option.bind_some, hn] at h; exact h.elim
          | some ns =>
            rw [hx] at h
            simp only [Option.bind_some, hn] at h
            split at h
            · rename_i hl
              obtain ⟨kk, a, vs, rfl, hq, hr⟩ := RepB.seq ((rpV1_S q1).deref A1.rel hp) hx ok.K
              have := intsOf_eq hn
              subst this
              have := reps_ints hr
              subst this
              refine ⟨kk, a, ns, rfl, hq, hl.1, fun p1 hp1 => ⟨p1, _, _, rfl, upd_same, hl.2, fun ns' p2 h1 h2 h3 h4 => ?_⟩⟩
              have e : ns' = setL ns := asc_ext h1 (asc_setL ns) fun z => by rw [h2, mem_setL, decide_eq_true_eq]
              subst e
              have hp2 : H1 p2 = none := by
                cases e : H1 p2 with
                | none => rfl
                | some o => rw [ext_upd hp1 _ _ e] at h4; cases h4
              have B1 := Aft.new_ (o := SetO X.w p1 (fun j => decide (j ∈ ns)) (setL ns).length) hp1 A1.rel
              have B2 := Aft.fresh (vs := (setL ns).map V.int) B1.rel h4
              exact h ms1 _ p2 _ (none_back A1 hp2) ((A1.trans B1 A.rel).trans B2 A.rel) upd_same (ints_reps _)
            · exact h.elim
      · exact h.elim
theorem se_lenSet (ok : Ok g X W k) (hg : Gl X "len") (hm : X.mg "len" = none) (hg2 : Gl X "set") (hm2 : X.mg "set" = none) (he : SVj g X W e fe)
    (hs : starEach [e] X.env = (false, eval e X.env) :: starEach [] X.env := by rfl) (hs2 : starEach [.Call (.Name "set" p2) [e] [] pos2] X.env = (false, eval (.Call (.Name "set" p2) [e] [] pos2) X.env) :: starEach [] X.env := by rfl)
    (hpl : (backTo pos2 (starEach [] X.env)).any (·.1) = false := by rfl) (hpl2 : (backTo pos (starEach [] X.env)).any (·.1) = false := by rfl) :
    SE g X W (.Call (.Name "len" p1) [.Call (.Name "set" p2) [e] [] pos2] [] pos) (eLenSet fe) :=
  (pe_callB cr_lenSet hg hm (by with_unfolding_all rfl) (pa_cons (pe_callTy (cr_setQ ok.calm) hg2 hm2 (by with_unfolding_all rfl) (pa_cons he pa_nil hs) (by decide) (by decide) hs hpl) pa_nil hs2) (by decide) (by decide) hs2 hpl2).imp fun σ H Q ⟨P, ms, cs, sg, A, h⟩ => by
    refine ⟨P, ms, cs, sg, A, ?_⟩
    unfold eLenSet at h
    revert h
    cases fe sg cs with
    | stuck => exact id
    | exc e cs' => exact fun h => h
    | ok s cs1 =>
      intro h ms1 H1 v A1 q1
      simp only [Res.bind] at h
      split at h
      · rename_i p hp
        unfold pLenSet at h
        cases hx : asSeq p with
        | none => rw [hx] at h; exact h.elim
        | some xs =>
          cases hn : intsOf xs with
          | none => rw [hx] at h; simp only [Option.bind_some, hn] at h; exact h.elim
          | some ns =>
            rw [hx] at h
            simp only [Option.bind_some, hn] at h
            split at h
            · rename_i hl
              obtain ⟨kk, a, vs, rfl, hq, hr⟩ := RepB.seq ((rpV1_S q1).deref A1.rel hp) hx ok.K
              have := intsOf_eq hn
              subst this
              have := reps_ints hr
              subst this
              refine ⟨kk, a, ns, rfl, hq, hl, fun p1 hp1 => ⟨p1, _, _, rfl, upd_same, ?_⟩⟩
              have B1 := Aft.new_ (o := SetO X.w p1 (fun j => decide (j ∈ ns)) (setL ns).length) hp1 A1.rel
              exact h ms1 _ _ (A1.trans B1 A.rel) rep_int
            · exact h.elim
      · exact h.elim
end
end Ev

set_option Elab.async false
set_option linter.all false
set_option maxRecDepth 100000
set_option maxHeartbeats 4000000
/-! Ev: built-in functions, slices, chains. -/
namespace Ev
open PySem PySem.Spec PyProof.Rows L2

def bLen : List PV → Option PV
  | [.tup xs] => some (.int xs.length)
  | [.lst xs] => some (.int xs.length)
  | [.str z] => if z.length ≤ 16777216 then some (.int z.length) else none
  | [.scr ns] => some (.int ns.length)
  | [.dK kvs] => some (.int kvs.length)
  | _ => none
def bAll : List PV → Option PV
  | [.lst xs] => (boolsOf xs).map fun bs => .bl (bs.all id)
  | _ => none
def bAny : List PV → Option PV
  | [.lst xs] => (boolsOf xs).map fun bs => .bl (bs.any id)
  | _ => none
def bSum : List PV → Option PV
  | [p] => (asSeq p).bind fun xs => (intsOf xs).map fun ns => .int ns.sum
  | _ => none
def maxL : List Int → Int
  | [] => 0
  | x :: r => r.foldl max x
def minL : List Int → Int
  | [] => 0
  | x :: r => r.foldl min x
def bMax : List PV → Option PV
  | [p] => (asSeq p).bind fun xs => (intsOf xs).bind fun ns => if ns = [] then none else some (.int (maxL ns))
  | [.int i, .int j] => some (.int (if j > i then j else i))
  | _ => none
def bMin : List PV → Option PV
  | [p] => (asSeq p).bind fun xs => (intsOf xs).bind fun ns => if ns = [] then none else some (.int (minL ns))
  | [.int i, .int j] => some (.int (if j < i then j else i))
  | _ => none
def bAbs : List PV → Option PV
  | [.int i] => some (.int (if i < 0 then -i else i))
  | _ => none
def bInt : List PV → Option PV
  | [.int i] => some (.int i)
  | [.bl b] => some (.int (if b then 1 else 0))
  | _ => none
def bStr : List PV → Option PV
  | [.int i] => if i.natAbs.log2 < 1920 then some (.str (toString i)) else none
  | _ => none
def bTup : List PV → Option PV
  | [.tup xs] => some (.tup xs)
  | [.lst xs] => some (.tup xs)
  | _ => none
def lList : List PV → Option (List PV)
  | [.tup xs] => some xs
  | [.lst xs] => some xs
  | [.scr ns] => some (ns.map PV.int)
  | _ => none
/-- the built-in type of a value -/
def tyOf : PV → Option String
  | .non => some "NoneType" | .bl _ => some "bool" | .int _ => some "int" | .str _ => some "str" | .tup _ => some "tuple" | .lst _ => some "list" | _ => none
def isTy (a b : String) : Option Bool := match b with
  | "int" => some (a == "int" || a == "bool")
  | "bool" => some (a == "bool")
  | "tuple" => some (a == "tuple")
  | "list" => some (a == "list")
  | "str" => some (a == "str")
  | "dict" => some (a == "dict")
  | _ => none
def bIsI : List PV → Option PV
  | [x, .ty b] => (tyOf x).bind fun a => (isTy a b).map .bl
  | _ => none
theorem foldl_max : ∀ (r : List Int) (x : Int), (r.foldl max x = x ∨ r.foldl max x ∈ r) ∧ x ≤ r.foldl max x ∧ ∀ y ∈ r, y ≤ r.foldl max x
  | [], x => by simp
  | z :: r, x => by
    obtain ⟨h1, h2, h3⟩ := foldl_max r (max x z)
    simp only [List.foldl_cons]
    refine ⟨?_, by omega, fun y hy => ?_⟩
    · rcases h1 with h | h
      · rw [h]
        by_cases hz : x ≤ z
        · right; rw [Int.max_eq_right hz]; simp
        · left; rw [Int.max_eq_left (by omega)]
      · right; exact List.mem_cons_of_mem _ h
    · rcases List.mem_cons.mp hy with rfl | hy
      · omega
      · exact h3 y hy
theorem foldl_min : ∀ (r : List Int) (x : Int), (r.foldl min x = x ∨ r.foldl min x ∈ r) ∧ r.foldl min x ≤ x ∧ ∀ y ∈ r, r.foldl min x ≤ y
  | [], x => by simp
  | z :: r, x => by
    obtain ⟨h1, h2, h3⟩ := foldl_min r (min x z)
    simp only [List.foldl_cons]
    refine ⟨?_, by omega, fun y hy => ?_⟩
    · rcases h1 with h | h
      · rw [h]
        by_cases hz : z ≤ x
        · right; rw [Int.min_eq_right hz]; simp
        · left; rw [Int.min_eq_left (by omega)]
      · right; exact List.mem_cons_of_mem _ h
    · rcases List.mem_cons.mp hy with rfl | hy
      · omega
      · exact h3 y hy
theorem maxL_is {ns : List Int} (h : ns ≠ []) : maxL ns ∈ ns ∧ ∀ y ∈ ns, y ≤ maxL ns := by
  cases ns with
  | nil => exact absurd rfl h
  | cons x r =>
    obtain ⟨h1, h2, h3⟩ := foldl_max r x
    refine ⟨?_, fun y hy => ?_⟩
    · show r.foldl max x ∈ _
      rcases h1 with h | h
      · rw [h]; simp
      · exact List.mem_cons_of_mem _ h
    · rcases List.mem_cons.mp hy with rfl | hy
      · exact h2
      · exact h3 y hy
theorem minL_is {ns : List Int} (h : ns ≠ []) : minL ns ∈ ns ∧ ∀ y ∈ ns, minL ns ≤ y := by
  cases ns with
  | nil => exact absurd rfl h
  | cons x r =>
    obtain ⟨h1, h2, h3⟩ := foldl_min r x
    refine ⟨?_, fun y hy => ?_⟩
    · show r.foldl min x ∈ _
      rcases h1 with h | h
      · rw [h]; simp
      · exact List.mem_cons_of_mem _ h
    · rcases List.mem_cons.mp hy with rfl | hy
      · exact h2
      · exact h3 y hy

/-! ### max, min, sum of tuples -/
section
variable {prog : Program} {w : World} {A : Around} {E : Value → Shared → Prop} {s : Shared} {l : Addr} {xs : Array (Int × Tok)}
theorem iter_intTup {Q : Value → Shared → Prop} (hl : s.heap.IsTuple l (intItems xs)) (h : ∀ s₂, s₂ = { s with heap := s.heap.push { cls := .type "tuple_iterator", data := .fields #[.ref l, .int 0 0] } } →
    (s₂.heap.IsTupleIter s.heap.objs.size l 0 ∧ s₂.heap.IsTuple l (intItems xs)) → (∀ b ∈ [s.heap.objs.size, l], b < s₂.heap.objs.size) → l ≠ s.heap.objs.size → Q (.ref s.heap.objs.size) s₂) :
    wpAny (model prog w) A (pyIter (.ref l)) Q E s := by
  obtain ⟨o, ho, r⟩ := id hl
  have hlt := Heap.lt_size ho
  refine wpAny_pyIter_tuple hl (h _ rfl ⟨⟨_, Heap.get?_push_size _ rfl, rfl, rfl⟩, ⟨o, Heap.get?_push_of_some _ ho, r⟩⟩ (fun b hb => ?_) (Nat.ne_of_lt hlt))
  rw [Heap.size_push]
  have e' : b = s.heap.objs.size ∨ b = l := by simpa using hb
  rcases e' with e | e
  · rw [e]; exact Nat.lt_succ_self _
  · rw [e]; exact Nat.lt_succ_of_lt hlt
theorem old_keptT {h' : Heap} (hk : ∀ b o, b ∉ [s.heap.objs.size] → (s.heap.push { cls := .type "tuple_iterator", data := .fields #[.ref l, .int 0 0] }).get? b = some o → h'.get? b = some o) : ∀ b o, s.heap.get? b = some o → h'.get? b = some o := fun b o e =>
  hk b o (by simp; exact Nat.ne_of_lt (Heap.lt_size e)) (Heap.get?_push_of_some _ e)
theorem max_intTup {Q : Value → Shared → Prop} (hh : A.handled = none) (hl : s.heap.IsTuple l (intItems xs)) (hne : 0 < xs.size)
    (h : ∀ v h' tk, (intItems xs)[argBest (fun i j => decide (numAt xs i > numAt xs j)) (xs.size - 1)]? = some v → (∀ b o, s.heap.get? b = some o → h'.get? b = some o) → Q v { s with heap := h', toks := tk }) :
    wpAny (model prog w) A (call (.builtin "max") [.ref l]) Q E s := by
  refine call_max_walk (iter_intTup hl fun s₂ e st hfp hlI => ?_)
  subst e
  refine ⟨_, _, _, _, _, _, _, rfl, Walks.tuple (A := A.in1) hh _ l hlI (intItems xs), st, hfp, by simpa [intItems] using hne, CmpOf.ints_gt (numAt xs) (fun _ _ => intItems_at), fun v h' tk hP hk => ?_⟩
  exact h v h' tk (by simpa [intItems] using hP) (old_keptT hk)
theorem min_intTup {Q : Value → Shared → Prop} (hh : A.handled = none) (hl : s.heap.IsTuple l (intItems xs)) (hne : 0 < xs.size)
    (h : ∀ v h' tk, (intItems xs)[argBest (fun i j => decide (numAt xs i < numAt xs j)) (xs.size - 1)]? = some v → (∀ b o, s.heap.get? b = some o → h'.get? b = some o) → Q v { s with heap := h', toks := tk }) :
    wpAny (model prog w) A (call (.builtin "min") [.ref l]) Q E s := by
  refine call_min_walk (iter_intTup hl fun s₂ e st hfp hlI => ?_)
  subst e
  refine ⟨_, _, _, _, _, _, _, rfl, Walks.tuple (A := A.in1) hh _ l hlI (intItems xs), st, hfp, by simpa [intItems] using hne, CmpOf.ints_lt (numAt xs) (fun _ _ => intItems_at), fun v h' tk hP hk => ?_⟩
  exact h v h' tk (by simpa [intItems] using hP) (old_keptT hk)
theorem sum_intTup {Q : Value → Shared → Prop} (hh : A.handled = none) (hl : s.heap.IsTuple l (intItems xs))
    (h : ∀ h' tk t', (∀ b o, s.heap.get? b = some o → h'.get? b = some o) → Q (.int (preSum (numAt xs) xs.size) t') { s with heap := h', toks := tk }) :
    wpAny (model prog w) A (call (.builtin "sum") [.ref l]) Q E s := by
  refine call_sum_walkG (iter_intTup hl fun s₂ e st hfp hlI => ?_)
  subst e
  refine ⟨_, _, _, _, _, _, numAt xs, rfl, Walks.tuple (A := A.in1) hh _ l hlI (intItems xs), st, hfp, (fun _ _ => intItems_at), fun h' tk t' hk => ?_⟩
  have := h h' tk t' (old_keptT hk)
  simpa [intItems] using this
end
section
variable {prog : Program} {w : World} {A : Around} {E : Value → Shared → Prop} {s : Shared} {l : Addr} {its : List Value} {ns : List Int} {Q : Value → Shared → Prop}
theorem sum_rawT (hh : A.handled = none) (hl : s.heap.IsTuple l its.toArray) (hi : IntsAre its ns)
    (h : ∀ h' tk t', (∀ b o, s.heap.get? b = some o → h'.get? b = some o) → Q (.int ns.sum t') { s with heap := h', toks := tk }) : wpAny (model prog w) A (call (.builtin "sum") [.ref l]) Q E s := by
  obtain ⟨xs, e⟩ := hi.allInts.items
  have hn : numsOf (intItems xs).toList = ns := by rw [← e]; exact hi.numsOf
  rw [nums_intItems] at hn
  rw [e] at hl
  refine sum_intTup hh hl fun h' tk t' hk => ?_
  have := h h' tk t' hk
  rw [preSum_eq, List.take_of_length_le (by simp), hn]; exact this
theorem max_rawT (hh : A.handled = none) (hl : s.heap.IsTuple l its.toArray) (hi : IntsAre its ns) (hne : 0 < ns.length)
    (h : ∀ h' tk M t', (∀ b o, s.heap.get? b = some o → h'.get? b = some o) → M ∈ ns → (∀ a, a ∈ ns → a ≤ M) → Q (.int M t') { s with heap := h', toks := tk }) : wpAny (model prog w) A (call (.builtin "max") [.ref l]) Q E s := by
  obtain ⟨xs, e⟩ := hi.allInts.items
  have hn : numsOf (intItems xs).toList = ns := by rw [← e]; exact hi.numsOf
  rw [nums_intItems] at hn
  subst hn
  rw [e] at hl
  have hsz : 0 < xs.size := by simpa using hne
  refine max_intTup hh hl hsz fun v h' tk hv hk => ?_
  obtain ⟨t, rfl⟩ := intItems_at hv
  obtain ⟨h1, h2⟩ := argBest_gt (numAt xs) (xs.size - 1)
  refine h h' tk _ t hk ?_ fun a ha => ?_
  · rw [numAt_eq]; exact PySem.getD_mem (by rw [List.length_map, Array.length_toList]; omega)
  · obtain ⟨j, hj, rfl⟩ := mem_getD ha
    rw [List.length_map, Array.length_toList] at hj
    rw [← numAt_eq]; exact h2 j (by omega)
theorem min_rawT (hh : A.handled = none) (hl : s.heap.IsTuple l its.toArray) (hi : IntsAre its ns) (hne : 0 < ns.length)
    (h : ∀ h' tk M t', (∀ b o, s.heap.get? b = some o → h'.get? b = some o) → M ∈ ns → (∀ a, a ∈ ns → M ≤ a) → Q (.int M t') { s with heap := h', toks := tk }) : wpAny (model prog w) A (call (.builtin "min") [.ref l]) Q E s := by
  obtain ⟨xs, e⟩ := hi.allInts.items
  have hn : numsOf (intItems xs).toList = ns := by rw [← e]; exact hi.numsOf
  rw [nums_intItems] at hn
  subst hn
  rw [e] at hl
  have hsz : 0 < xs.size := by simpa using hne
  refine min_intTup hh hl hsz fun v h' tk hv hk => ?_
  obtain ⟨t, rfl⟩ := intItems_at hv
  obtain ⟨h1, h2⟩ := argBest_lt (numAt xs) (xs.size - 1)
  refine h h' tk _ t hk ?_ fun a ha => ?_
  · rw [numAt_eq]; exact PySem.getD_mem (by rw [List.length_map, Array.length_toList]; omega)
  · obtain ⟨j, hj, rfl⟩ := mem_getD ha
    rw [List.length_map, Array.length_toList] at hj
    rw [← numAt_eq]; exact h2 j (by omega)
end
section
variable {g : Gx} {X : Cx} {W : WX} {k : Nat} {H : Hp} {N : Addr → Prop}
theorem cs_len (hK : X.K = g.K) : CallR X (.builtin "len") (rC g bLen) := by
  intro pins s σ H xs us Q I r ⟨P, ms, cs, ps, z, R, hx, hf, hq⟩
  unfold bLen at hf
  split at hf
  · cases hf
    obtain ⟨v, rfl, h⟩ := repBs_one hx
    simp only [RepB, Rep] at h
    obtain ⟨a, vs, rfl, h1, h2⟩ := h
    exact call_len_seq pins s σ H _ us Q I r ⟨a, vs, rfl, .inr (by rw [hK]; exact h1), by rw [← h2.length]; exact hq _ _ (.refl R) rep_int⟩
  · cases hf
    obtain ⟨v, rfl, h⟩ := repBs_one hx
    simp only [RepB, Rep] at h
    obtain ⟨a, vs, rfl, h1, h2⟩ := h
    exact call_len_seq pins s σ H _ us Q I r ⟨a, vs, rfl, .inl (.of h1), by rw [← h2.length]; exact hq _ _ (.refl R) rep_int⟩
  · split at hf
    · rename_i c
      cases hf
      obtain ⟨v, rfl, h⟩ := repBs_one hx
      simp only [RepB, Rep] at h
      subst h
      exact call_len_str pins s σ H _ us Q I r ⟨_, rfl, sizeL c, hq _ _ (.refl R) rep_int⟩
    · cases hf
  · cases hf
    obtain ⟨v, rfl, h⟩ := repBs_one hx
    simp only [RepB, Rep] at h
    obtain ⟨a, rfl, h1⟩ := h
    refine call_len_seq pins s σ H _ us Q I r ⟨a, _, rfl, .inl (by rw [hK]; exact h1.imp (·.1) id), ?_⟩
    rw [List.length_map]
    exact hq _ _ (.refl R) rep_int
  · cases hf
    obtain ⟨v, rfl, h⟩ := repBs_one hx
    simp only [RepB, Rep] at h
    obtain ⟨a, kv, rfl, h1, h2⟩ := h
    have hl : ∀ {kvs : List (Key × PV)} {kv : List (Key × V)}, RepK g H (Exl P ms cs) kvs kv → kvs.length = kv.length := by
      intro kvs
      induction kvs with
      | nil => intro kv h; simp only [RepK] at h; subst h; rfl
      | cons x r ih =>
        intro kv h
        obtain ⟨kx, px⟩ := x
        simp only [RepK] at h
        obtain ⟨v, r', rfl, _, h2⟩ := h
        simp [ih h2]
    exact call_lenD pins s σ H _ us Q I r ⟨a, kv, rfl, h1, by rw [← hl h2]; exact hq _ _ (.refl R) rep_int⟩
  · cases hf
theorem all_ok (hK : X.K = g.K) {p : PV} {xs : List PV} {v : V} {bs : List Bool} (h : RepB g H N p v) (e : asSeq p = some xs) (hb : boolsOf xs = some bs) : ∃ k a, v = .ref a ∧ SqQ k X.K H a (bs.map V.bl) := by
  obtain ⟨k, a, vs, rfl, h1, h2⟩ := RepB.seq h e hK
  have := boolsOf_eq hb
  subst this
  have := reps_bools h2
  subst this
  exact ⟨k, a, rfl, h1⟩
theorem ints_ok (hK : X.K = g.K) {p : PV} {xs : List PV} {v : V} {bs : List Int} (h : RepB g H N p v) (e : asSeq p = some xs) (hb : intsOf xs = some bs) : ∃ k a, v = .ref a ∧ SqQ k X.K H a (bs.map V.int) := by
  obtain ⟨k, a, vs, rfl, h1, h2⟩ := RepB.seq h e hK
  have := intsOf_eq hb
  subst this
  have := reps_ints h2
  subst this
  exact ⟨k, a, rfl, h1⟩
theorem cs_all (ok : Ok g X W k) : CallR X (.builtin "all") (rC g bAll) := by
  intro pins s σ H xs us Q I r ⟨P, ms, cs, ps, z, R, hx, hf, hq⟩
  unfold bAll at hf
  split at hf
  · rename_i xs
    simp only [Option.map_eq_some_iff] at hf
    obtain ⟨bs, hb, rfl⟩ := hf
    obtain ⟨v, rfl, h⟩ := repBs_one hx
    simp only [RepB] at h
    obtain ⟨a, vs, rfl, h1, h2⟩ := h
    have := boolsOf_eq hb
    subst this
    have := reps_bools h2
    subst this
    exact cr_all ok.calm pins s σ H _ us Q I r ⟨a, bs, rfl, .of h1, hq _ _ (.refl R) rep_bl⟩
  · cases hf
theorem cs_any (ok : Ok g X W k) : CallR X (.builtin "any") (rC g bAny) := by
  intro pins s σ H xs us Q I r ⟨P, ms, cs, ps, z, R, hx, hf, hq⟩
  unfold bAny at hf
  split at hf
  · rename_i xs
    simp only [Option.map_eq_some_iff] at hf
    obtain ⟨bs, hb, rfl⟩ := hf
    obtain ⟨v, rfl, h⟩ := repBs_one hx
    simp only [RepB] at h
    obtain ⟨a, vs, rfl, h1, h2⟩ := h
    have := boolsOf_eq hb
    subst this
    have := reps_bools h2
    subst this
    exact cr_any ok.calm pins s σ H _ us Q I r ⟨a, bs, rfl, .of h1, hq _ _ (.refl R) rep_bl⟩
  · cases hf
theorem cs_sum (ok : Ok g X W k) : CallR X (.builtin "sum") (rC g bSum) := by
  intro pins s σ H xs us Q I r ⟨P, ms, cs, ps, z, R, hx, hf, hq⟩
  unfold bSum at hf
  split at hf
  · rename_i p
    cases e : asSeq p with
    | none => rw [e] at hf; cases hf
    | some xs =>
      rw [e] at hf
      simp only [Option.bind_some, Option.map_eq_some_iff] at hf
      obtain ⟨ns, hb, rfl⟩ := hf
      obtain ⟨v, rfl, h⟩ := repBs_one hx
      obtain ⟨kk, a, rfl, h1⟩ := ints_ok ok.K h e hb
      cases kk
      · exact cr_sum ok.calm pins s σ H _ us Q I r ⟨a, ns, rfl, h1, hq _ _ (.refl R) rep_int⟩
      · obtain ⟨its, rv, hl, _⟩ := I.tuple h1
        rw [Vals.ref1 r]
        exact sum_rawT (I.ok.hd ok.calm) (show s.heap.IsTuple a its.toArray from hl) rv.ints fun h' tk t' hk => ⟨.int _, H, I.kept hk, ⟨_, rfl⟩, hq _ _ (.refl R) rep_int⟩
  · cases hf
theorem best_max {ns : List Int} {m : Int} (h : ns ≠ []) (h1 : m ∈ ns) (h2 : ∀ y ∈ ns, y ≤ m) : m = maxL ns := by
  obtain ⟨a, b⟩ := maxL_is h
  have := h2 _ a
  have := b _ h1
  omega
theorem best_min {ns : List Int} {m : Int} (h : ns ≠ []) (h1 : m ∈ ns) (h2 : ∀ y ∈ ns, m ≤ y) : m = minL ns := by
  obtain ⟨a, b⟩ := minL_is h
  have := h2 _ a
  have := b _ h1
  omega
theorem max_two (ok : Ok g X W k) {pins : List (Addr × Obj)} {s : Shared} {σ : L2.St} {H : Hp} {us : List Value} {Q : VK} {i j : Int} (I : Inv X pins σ H s) (r : Vals [V.int i, V.int j] us) (q : Q (.int (if j > i then j else i)) H) :
    wpAny (model X.prog X.w) X.A (call (.builtin "max") us) (EP X pins σ Q) X.xe s := call_max2 ok.calm pins s σ H _ us Q I r ⟨i, j, rfl, q⟩
theorem cs_max (ok : Ok g X W k) : CallR X (.builtin "max") (rC g bMax) := by
  intro pins s σ H xs us Q I r ⟨P, ms, cs, ps, z, R, hx, hf, hq⟩
  unfold bMax at hf
  split at hf
  · rename_i p
    cases e : asSeq p with
    | none => rw [e] at hf; cases hf
    | some xs =>
      rw [e] at hf
      simp only [Option.bind_some] at hf
      cases hb : intsOf xs with
      | none => rw [hb] at hf; cases hf
      | some ns =>
        rw [hb] at hf
        simp only [Option.bind_some] at hf
        split at hf
        · cases hf
        · rename_i hne
          cases hf
          have hlen : 0 < ns.length := by cases ns with
            | nil => exact absurd rfl hne
            | cons a b => simp
          obtain ⟨v, rfl, h⟩ := repBs_one hx
          obtain ⟨kk, a, rfl, h1⟩ := ints_ok ok.K h e hb
          cases kk
          · exact cr_max ok.calm pins s σ H _ us Q I r ⟨a, ns, rfl, h1, hlen, fun m h1 h2 => by rw [best_max hne h1 h2]; exact hq _ _ (.refl R) rep_int⟩
          · obtain ⟨its, rv, hl, _⟩ := I.tuple h1
            rw [Vals.ref1 r]
            exact max_rawT (I.ok.hd ok.calm) (show s.heap.IsTuple a its.toArray from hl) rv.ints hlen fun h' tk m t' hk h1 h2 => ⟨.int _, H, I.kept hk, ⟨_, rfl⟩, by rw [best_max hne h1 h2]; exact hq _ _ (.refl R) rep_int⟩
  · cases hf
    obtain ⟨v, w, rfl, h1, h2⟩ := repBs_two hx
    simp only [RepB, Rep] at h1 h2
    subst h1 h2
    exact max_two ok I r (hq _ _ (.refl R) rep_int)
  · cases hf
theorem cs_min (ok : Ok g X W k) : CallR X (.builtin "min") (rC g bMin) := by
  intro pins s σ H xs us Q I r ⟨P, ms, cs, ps, z, R, hx, hf, hq⟩
  unfold bMin at hf
  split at hf
  · rename_i p
    cases e : asSeq p with
    | none => rw [e] at hf; cases hf
    | some xs =>
      rw [e] at hf
      simp only [Option.bind_some] at hf
      cases hb : intsOf xs with
      | none => rw [hb] at hf; cases hf
      | some ns =>
        rw [hb] at hf
        simp only [Option.bind_some] at hf
        split at hf
        · cases hf
        · rename_i hne
          cases hf
          have hlen : 0 < ns.length := by cases ns with
            | nil => exact absurd rfl hne
            | cons a b => simp
          obtain ⟨v, rfl, h⟩ := repBs_one hx
          obtain ⟨kk, a, rfl, h1⟩ := ints_ok ok.K h e hb
          cases kk
          · exact cr_min ok.calm pins s σ H _ us Q I r ⟨a, ns, rfl, h1, hlen, fun m h1 h2 => by rw [best_min hne h1 h2]; exact hq _ _ (.refl R) rep_int⟩
          · obtain ⟨its, rv, hl, _⟩ := I.tuple h1
            rw [Vals.ref1 r]
            exact min_rawT (I.ok.hd ok.calm) (show s.heap.IsTuple a its.toArray from hl) rv.ints hlen fun h' tk m t' hk h1 h2 => ⟨.int _, H, I.kept hk, ⟨_, rfl⟩, by rw [best_min hne h1 h2]; exact hq _ _ (.refl R) rep_int⟩
  · cases hf
    obtain ⟨v, w, rfl, h1, h2⟩ := repBs_two hx
    simp only [RepB, Rep] at h1 h2
    subst h1 h2
    exact call_min2 ok.calm pins s σ H _ us Q I r ⟨_, _, rfl, hq _ _ (.refl R) rep_int⟩
  · cases hf
theorem cs_abs : CallR X (.builtin "abs") (rC g bAbs) := by
  intro pins s σ H xs us Q I r ⟨P, ms, cs, ps, z, R, hx, hf, hq⟩
  unfold bAbs at hf
  split at hf
  · cases hf
    obtain ⟨v, rfl, h⟩ := repBs_one hx
    simp only [RepB, Rep] at h
    subst h
    exact call_abs pins s σ H _ us Q I r ⟨_, rfl, hq _ _ (.refl R) rep_int⟩
  · cases hf
theorem cs_int : CallR X (.type "int") (rC g bInt) := by
  intro pins s σ H xs us Q I r ⟨P, ms, cs, ps, z, R, hx, hf, hq⟩
  unfold bInt at hf
  split at hf
  · cases hf
    obtain ⟨v, rfl, h⟩ := repBs_one hx
    simp only [RepB, Rep] at h
    subst h
    exact call_int1 pins s σ H _ us Q I r (.inl ⟨_, rfl, hq _ _ (.refl R) rep_int⟩)
  · cases hf
    obtain ⟨v, rfl, h⟩ := repBs_one hx
    simp only [RepB, Rep] at h
    subst h
    exact call_int1 pins s σ H _ us Q I r (.inr ⟨_, rfl, hq _ _ (.refl R) rep_int⟩)
  · cases hf
theorem cs_str : CallR X (.type "str") (rC g bStr) := by
  intro pins s σ H xs us Q I r ⟨P, ms, cs, ps, z, R, hx, hf, hq⟩
  unfold bStr at hf
  split at hf
  · split at hf
    · rename_i c
      cases hf
      obtain ⟨v, rfl, h⟩ := repBs_one hx
      simp only [RepB, Rep] at h
      subst h
      exact call_str_int pins s σ H _ us Q I r ⟨_, rfl, c, hq _ _ (.refl R) rep_str⟩
    · cases hf
  · cases hf
theorem cs_tup (hK : X.K = g.K) : CallR X (.type "tuple") (rC g bTup) := by
  intro pins s σ H xs us Q I r ⟨P, ms, cs, ps, z, R, hx, hf, hq⟩
  unfold bTup at hf
  split at hf
  · cases hf
    obtain ⟨v, rfl, h⟩ := repBs_one hx
    have h' : Rep g H (Exl P ms cs) (.tup _) v := h
    simp only [RepB, Rep] at h
    obtain ⟨a, vs, rfl, h1, h2⟩ := h
    exact call_tuple_of pins s σ H _ us Q I r ⟨a, vs, rfl, .inr ⟨by rw [hK]; exact h1, hq _ _ (.refl R) h'⟩⟩
  · cases hf
    obtain ⟨v, rfl, h⟩ := repBs_one hx
    simp only [RepB, Rep] at h
    obtain ⟨a, vs, rfl, h1, h2⟩ := h
    exact call_tuple_of pins s σ H _ us Q I r ⟨a, vs, rfl, .inl ⟨.of h1, fun l hl => hq _ _ (.new_ hl R) (rep_tup R h2 hl)⟩⟩
  · cases hf
theorem cf_list (hK : X.K = g.K) : CallR X (.type "list") (rCF g lList) := by
  intro pins s σ H xs us Q I r ⟨P, ms, cs, ps, z, R, hx, hf, hq⟩
  unfold lList at hf
  split at hf
  · cases hf
    obtain ⟨v, rfl, h⟩ := repBs_one hx
    simp only [RepB, Rep] at h
    obtain ⟨a, vs, rfl, h1, h2⟩ := h
    exact call_list_of pins s σ H _ us Q I r ⟨a, vs, rfl, .inr (by rw [hK]; exact h1), fun l hl => hq l _ hl h2⟩
  · cases hf
    obtain ⟨v, rfl, h⟩ := repBs_one hx
    simp only [RepB, Rep] at h
    obtain ⟨a, vs, rfl, h1, h2⟩ := h
    exact call_list_of pins s σ H _ us Q I r ⟨a, vs, rfl, .inl (.of h1), fun l hl => hq l _ hl h2⟩
  · cases hf
    obtain ⟨v, rfl, h⟩ := repBs_one hx
    simp only [RepB, Rep] at h
    obtain ⟨a, rfl, h1⟩ := h
    exact call_list_of pins s σ H _ us Q I r ⟨a, _, rfl, .inl (by rw [hK]; exact h1.imp (·.1) id), fun l hl => hq l _ hl (ints_reps _)⟩
  · cases hf
theorem tyX {K : PySem.W.Frag} (hK : K = g.K) {p : PV} {v : V} {t : String} (h : RepB g H N p v) (e : tyOf p = some t) : TyX K H v (.type t) := by
  subst hK
  cases p <;> simp only [tyOf] at e <;> cases e <;> simp only [RepB, Rep] at h
  · subst h; exact .base .non
  · subst h; exact .base (.bl _)
  · subst h; exact .base (.int _)
  · subst h; exact .base (.str _)
  · obtain ⟨a, vs, rfl, h1, h2⟩ := h
    rcases h1 with (h1 | ⟨o, h1⟩) | ⟨o, its, n, h1, h2, _⟩
    · exact .base (.tup h1)
    · exact .fTuple h1
    · exact .kTuple h1 h2
  · obtain ⟨a, vs, rfl, h1, h2⟩ := h
    exact .base (.lst h1)
theorem isTy_ok {p : PV} {a b : String} {r : Bool} (ha : tyOf p = some a) (h : isTy a b = some r) : kitB a b = some r := by
  have hb : b = "int" ∨ b = "bool" ∨ b = "tuple" ∨ b = "list" ∨ b = "str" ∨ b = "dict" := by
    unfold isTy at h
    split at h <;> first | (cases h; done) | simp
  cases p <;> simp only [tyOf] at ha <;> cases ha <;> rcases hb with rfl | rfl | rfl | rfl | rfl | rfl <;> (rw [← h]; decide +kernel)
theorem cs_isi (hK : X.K = g.K) : CallR X (.builtin "isinstance") (rC g bIsI) := by
  intro pins s σ H xs us Q I r ⟨P, ms, cs, ps, z, R, hx, hf, hq⟩
  unfold bIsI at hf
  split at hf
  · rename_i x b
    cases ha : tyOf x with
    | none => rw [ha] at hf; cases hf
    | some a =>
      rw [ha] at hf
      simp only [Option.bind_some, Option.map_eq_some_iff] at hf
      obtain ⟨rr, e, rfl⟩ := hf
      obtain ⟨v, w, rfl, h1, h2⟩ := repBs_two hx
      simp only [RepB, Rep] at h2
      subst h2
      exact call_isi pins s σ H _ us Q I r ⟨v, .ty b, .type a, .type b, rr, rfl, .ty b, tyX hK h1 ha, kit_ty (isTy_ok ha e), hq _ _ (.refl R) rep_bl⟩
  · cases hf
end
end Ev

set_option Elab.async false
set_option linter.all false
set_option maxRecDepth 100000
set_option maxHeartbeats 4000000
/-! Ev: an iterator held in a variable. -/
namespace Ev
open PySem PySem.Spec PyProof.Rows L2

/-- the cells fp are tracked as they stand in h0 -/
def trk (H : Hp) (fp : List Addr) (h0 : Heap) : Hp := fun b => if b ∈ fp then some (.ext fun h => ∀ o, h0.get? b = some o → h.get? b = some o) else H b
section
variable {X : Cx} {pins : List (Addr × Obj)} {σ : L2.St} {H : Hp} {s : Shared} {fp : List Addr} {h0 : Heap}
theorem trk_in {b : Addr} (h : b ∈ fp) : trk H fp h0 b = some (.ext fun h => ∀ o, h0.get? b = some o → h.get? b = some o) := if_pos h
theorem trk_out {b : Addr} (h : b ∉ fp) : trk H fp h0 b = H b := if_neg h
theorem _root_.L2.Inv.track (I : Inv X pins σ H s) (hf : ∀ b ∈ fp, FpOk X pins H b) (ho : ∀ b ∈ fp, ∃ o, s.heap.get? b = some o) : Inv X pins σ (trk H fp s.heap) s := by
  have nit : ∀ b u, H b = some u → b ∉ fp := fun b u e z => by
    have q := (hf b z).1
    rw [q] at e; cases e
  have old : ∀ b u, H b = some u → trk H fp s.heap b = some u := fun b u e => by rw [trk_out (nit b u e)]; exact e
  have := I.step (h' := s.heap) (H' := trk H fp s.heap) (g' := s.gens) (d' := s.drawn) (t' := s.toks) (ch := fp) (fun b hb => ⟨(hf b hb).2.2.2.1, (hf b hb).2.1, (hf b hb).2.2.2.2.1, (hf b hb).2.2.2.2.2⟩) (fun b o _ _ hc e _ => e) (fun b o _ _ hc e _ => ⟨o.slots, e⟩)
    (fun b o hc e n => by rw [trk_out hc]; exact n) (fun b o hc e => ⟨o, e⟩) (fun b xs e => old _ _ e) (fun b o u e => old _ _ e) (fun b ps e => ⟨#[], by rw [old _ _ e]; simp⟩) (fun m hm => hm) (fun b u e => by
      by_cases hb : b ∈ fp
      · rw [trk_in hb] at e
        cases e
        exact ⟨fun o q => q, ho b hb, fun h1 h2 a1 a2 o q => a2 o (a1 o q)⟩
      · rw [trk_out hb] at e
        exact (I.hok b u e).stay (fun c v hc q => q) (fun c q => old _ _ q) fun c xs q => old _ _ q) I.bare
  exact this
theorem _root_.L2.Inv.forget (I : Inv X pins σ (trk H fp h0) s) (hn : ∀ b ∈ fp, H b = none ∧ b ∉ X.fs ∧ (b ∈ X.ex ∨ X.s_0.heap.objs.size ≤ b)) : Inv X pins σ H s ∧ ∀ b ∈ fp, FpOk X pins H b := by
  have F : ∀ b ∈ fp, FpOk X pins H b := fun b hb => by
    obtain ⟨n1, n2, n3⟩ := hn b hb
    refine ⟨n1, fun z => ?_, n2, n3, fun x c e z => ?_, fun p hp z => ?_⟩
    · have := I.free
      rw [← z, trk_in hb] at this
      cases this
    · have := I.freeC x c e
      rw [z, trk_in hb] at this
      cases this
    · have := (I.pin p hp).2.1
      rw [z, trk_in hb] at this
      cases this
  have nit : ∀ b u, H b = some u → b ∉ fp := fun b u e z => by
    have q := (hn b z).1
    rw [q] at e; cases e
  have back : ∀ b u, trk H fp h0 b = some u → (∀ φ, u ≠ .ext φ) → H b = some u := fun b u e ne => by
    by_cases hb : b ∈ fp
    · rw [trk_in hb] at e
      cases e
      exact absurd rfl (ne _)
    · rw [trk_out hb] at e
      exact e
  refine ⟨?_, F⟩
  have := I.step (h' := s.heap) (H' := H) (g' := s.gens) (d' := s.drawn) (t' := s.toks) (ch := fp) (fun b hb => ⟨(F b hb).2.2.2.1, (F b hb).2.1, (F b hb).2.2.2.2.1, (F b hb).2.2.2.2.2⟩) (fun b o _ _ hc e _ => e) (fun b o _ _ hc e _ => ⟨o.slots, e⟩)
    (fun b o hc e n => by rw [trk_out hc] at n; exact n) (fun b o hc e => ⟨o, e⟩) (fun b xs e => back _ _ e (fun φ z => nomatch z)) (fun b o u e => back _ _ e (fun φ z => nomatch z)) (fun b ps e => ⟨#[], by rw [back _ _ e (fun φ z => nomatch z)]; simp⟩) (fun m hm => hm) (fun b u e => by
      have e' : trk H fp h0 b = some u := by rw [trk_out (nit b u e)]; exact e
      exact (I.hok b u e').stay (fun c v hc q => q) (fun c q => back _ _ q (fun φ z => nomatch z)) fun c xs q => back _ _ q (fun φ z => nomatch z)) I.bare
  exact this
end
/-- at z stands an iterator that goes as J does, at its start; its cells fp as in h0 -/
def IVar (X : Cx) (tg : Expr) (z : Addr) (J : It) (H : Hp) (fp : List Addr) (h0 : Heap) : Prop :=
  ∃ tn, Turn X.prog X.w X.K tg J fp z tn ∧ (∀ h : Heap, (∀ b ∈ fp, ∀ o, h0.get? b = some o → h.get? b = some o) → tn 0 h) ∧ (∀ b ∈ fp, ∃ o, h0.get? b = some o) ∧ ∀ b ∈ fp, H b = none ∧ b ∉ X.fs ∧ (b ∈ X.ex ∨ X.s_0.heap.objs.size ≤ b)
def iVarH (X : Cx) (tg : Expr) (i : Nat) : TI := fun σ H R => ∃ z fp h0 J H0, σ[i]? = some (some (.ref z)) ∧ H = trk H0 fp h0 ∧ IVar X tg z J H0 fp h0 ∧ R J H0
theorem pi_var {X : Cx} {tg : Expr} {i : Nat} {x : Str} {pos : Pos} (hN : X.N[i]? = some x) (hv : Vis X.env.scope x) (hd : (x == ("__debug__" : Str)) = false := by decide) (hcd : (x == ("__classdict__" : Str)) = false := by decide) :
    PI X tg (.Name x pos) (iVarH X tg i) := by
  refine ⟨fun pins s σ H R I ⟨z, fp, h0, J, H0, e1, e2, ⟨tn, T, t0, ho, hn⟩, q⟩ => ?_⟩
  subst e2
  refine thn ((pe_var hN hv hd hcd).run pins s σ _ (fun v H1 => v = .ref z ∧ H1 = trk H0 fp h0) I ⟨_, e1, rfl, rfl⟩) fun v s1 ⟨y, H1, I1, r1, ev, eH⟩ => ?_
  subst ev eH
  cases r1
  have st : tn 0 s1.heap := t0 _ fun b hb o e => by
    have := I1.hok b _ (trk_in hb)
    exact this.1 o e
  obtain ⟨I2, F⟩ := I1.forget hn
  exact T.self X.A 0 s1 _ _ st ⟨z, fp, tn, J, H0, rfl, I2, T, st, F, q⟩
def tSetI (X : Cx) (tg : Expr) (i : Nat) (wi : TI) : TS := fun D σ H => wi σ H fun J H0 => ∀ z fp h0, i < σ.length → IVar X tg z J H0 fp h0 → D.nx (σ.set i (some (.ref z))) (trk H0 fp h0)
theorem ps_setI {X : Cx} {tg e : Expr} {wi : TI} {i : Nat} {x : Str} {pos pos' : Pos} (hN : X.N.Nodup) (hi : X.N[i]? = some x) (hx : Loc X.env.scope x) (he : PIv X tg e wi) (hs : swapsWith e (some (.Name x pos')) pos.line X.env = pure false := by rfl) (hf : X.fn x = true ∨ X.env.scope.names.lookup x = some .local := by first | exact .inl rfl | exact .inr rfl | assumption) :
    PS X (.Assign [.Name x pos'] e pos) (tSetI X tg i wi) := by
  refine ⟨fun pins s σ H D I h => ?_⟩
  refine wpAny_Assign_Name (thn (he.run pins s σ H _ I h) fun v s1 ⟨it, fp, tn, J, H1, ev, I1, T, t0, F, q⟩ => ?_) hs
  subst ev
  have ho : ∀ b ∈ fp, ∃ o, s1.heap.get? b = some o := fun b hb => by
    obtain ⟨o, e, _⟩ := T.obj 0 _ t0 b hb
    exact ⟨o, e⟩
  have I2 := I1.track F ho
  exact store_ok (v := .ref it) I2 hN hi hx rfl (fun s2 I3 => ⟨_, _, I3, q it fp s1.heap (by rw [I1.len]; exact (List.getElem?_eq_some_iff.mp hi).1) ⟨tn, T, fun h k => T.keep 0 _ h t0 k, ho, fun b hb => ⟨(F b hb).1, (F b hb).2.2.1, (F b hb).2.2.2.1⟩⟩⟩) hf
/-! ### v = iterator; return sum([.. for .. in v ..]) -/
def fIt (ft : GF) (tt : TF) (te : EF) (vs : List Nat) (src : Src) : AF := fun sg cs => if srcLen cs src ≤ 16777216 then (compS ft tt te vs sg src (srcLen cs src) 0 [] cs).bind fun zs cs2 => .ok zs.reverse cs2 else .stuck
def sItv (i : Nat) (fi : IV) (f : Src → AF) : BF := fun sg cs => match fi sg cs with
  | .ok src cs1 => (match f src (sg.set i none) cs1 with
    | .ok zs cs2 => (match bSum [.lst zs] with
      | some z => .rt z cs2
      | none => .stuck)
    | _ => .stuck)
  | .exc e c => .exc e sg c
  | .stuck => .stuck
section
variable {g : Gx} {X : Cx} {W : WX} {k : Nat} {tg : Expr} {is : List Nat}
theorem Slots.unset {H : Hp} {P : Addr → Prop} {ms : List Addr} {cs : Cs} {sg : Sg} {σ : L2.St} {i : Nat} {x : V} (S : Slots g H P ms cs sg σ) : Slots g H P ms cs (sg.set i none) (σ.set i (some x)) := by
  refine ⟨by simp [S.len], fun j t e => ?_⟩
  by_cases hj : i = j
  · subst hj
    by_cases hl : i < sg.length
    · rw [List.getElem?_set_self hl] at e
      cases e
    · rw [List.getElem?_eq_none (by simpa using hl)] at e
      cases e
  · rw [List.getElem?_set_ne hj] at e
    obtain ⟨y, e1, e2⟩ := S.at_ j t e
    exact ⟨y, by rw [List.getElem?_set_ne hj]; exact e1, e2⟩
theorem sb_itvSum {y : Str} {py py2 sp rp cp pos : Pos} {ps : Pos} {e elt : Expr} {ifs : List Expr} {scope : Scope} {own : List (Str × Nat)} {fi : IV} {ft : GF} {tt : TF} {te : EF} {i : Nat} (ok : Ok g X W k) (hi : X.N[i]? = some y) (hx : Loc X.env.scope y) (hv : Vis X.env.scope y) (he : SIV g X W tg e fi)
    (hcs : CallR X (.builtin "sum") (rC g bSum)) (hgS : Gl X "sum") (hmS : X.mg "sum" = none) (hvS : bootBuiltins "sum" = some (.builtin "sum"))
    (bk : BlkOk X.N X.env.scope scope own) (hsub : ∀ i ∈ is, i ∈ own.map (·.2))
    (hg : ∃ t : TG, (∀ s H C cl fp, PG (Blk X scope s H C cl fp) tg t) ∧ ∀ (P : Addr → Prop) (ms : List Addr) (cs : Cs) (sg sg' : Sg) (σ : L2.St) (H : Hp) (v : PV) (x : V) (Q : L2.St → Hp → Prop), At g P ms cs sg σ H → Rep g H (Exl P ms cs) v x → ft v sg = some sg' →
      (∀ σ', Slots g H P ms cs sg' σ' → Only is σ σ' → Q σ' H) → t x σ H Q)
    (ht : ∀ s H C cl fp, Ok g (Blk X scope s H C cl fp) W0 k → STs g (Blk X scope s H C cl fp) W0 ifs tt) (hel : ∀ s H C cl fp, Ok g (Blk X scope s H C cl fp) W0 k → SE g (Blk X scope s H C cl fp) W0 elt te)
    (hs : ∀ x, foldedSetIterable (.Name y py2) X.env x = pure x := by intro _; rfl) (hsw : swapsWith e (some (.Name y py)) sp.line X.env = pure false := by rfl)
    (hst : starEach [.ListComp elt [⟨tg, .Name y py2, ifs, 0⟩] scope pos] X.env = (false, eval (.ListComp elt [⟨tg, .Name y py2, ifs, 0⟩] scope pos) X.env) :: starEach [] X.env := by rfl)
    (hf : X.fn y = true ∨ X.env.scope.names.lookup y = some .local := by first | exact .inl rfl | exact .inr rfl | assumption)
    (hd : (y == ("__debug__" : Str)) = false := by decide) (hcd : (y == ("__classdict__" : Str)) = false := by decide) :
    SB g X W [.Assign [.Name y py] e sp, .Return (some (.Call (.Name "sum" cp) [.ListComp elt [⟨tg, .Name y py2, ifs, 0⟩] scope pos] [] ps)) rp] (sItv i fi (fIt ft tt te (own.map (·.2)))) := by
  obtain ⟨t, g1, g2⟩ := hg
  have h1 := ps_setI (tg := tg) (pos := sp) (pos' := py) ok.nd hi hx he hsw hf
  have hlc : PE X (.ListComp elt [⟨tg, .Name y py2, ifs, 0⟩] scope pos) _ := pe_lc ok.calm ok.nd (pi_var hi hv hd hcd) bk g1 (fun s H C cl fp => ht s H C cl fp (ok.blk ..)) (fun s H C cl fp => hel s H C cl fp (ok.blk ..)) hs
  have h2 := ps_ret (pos := rp) (pe_callB (pos := ps) (p := cp) hcs hgS hmS hvS (pa_cons hlc pa_nil hst) (by decide) (by decide) hst)
  refine PSs.imp (pss_cons h1 (pss_one h2)) fun D σ H ⟨P, ms, cs, sg, A, h⟩ => ?_
  refine ⟨P, ms, cs, sg, A, ?_⟩
  unfold sItv at h
  revert h
  cases fi sg cs with
  | stuck => exact fun h => h
  | exc e c => exact fun h ms' H' c' d B q => h ms' H' σ c' d B (A.sl.aft A.rel B) q
  | ok src cs1 =>
    intro h ms1 H1 J A1 wk z fp h0 hl iv
    dsimp only at h
    have A2 : At g P ms1 cs1 (sg.set i none) (σ.set i (some (.ref z))) H1 := ⟨A1.rel, (A.sl.aft A.rel A1).unset⟩
    refine ⟨z, fp, h0, J, H1, by rw [List.getElem?_set_self hl], rfl, iv, fun Dn hD => ?_⟩
    refine comp_coreS (W := W) (Q := fun x H1 => rC g bSum [x] H1 D.rt) (tt := tt) (te := te) hsub g2 A2 (.refl A1.rel) wk ?_ hD
    have h' := PostS.shift A.rel A1 h
    refine PostF.toE A1.rel ?_
    unfold fIt at h'
    revert h'
    generalize (if srcLen cs1 src ≤ 16777216 then (compS ft tt te (own.map (·.2)) (sg.set i none) src (srcLen cs1 src) 0 [] cs1).bind fun zs cs2 => .ok zs.reverse cs2 else .stuck : Res (List PV)) = r
    cases r with
    | stuck => exact fun h => h.elim
    | exc e c => exact fun h => h.elim
    | ok zs cs2 =>
      intro h' ms2 H2 vv B q
      dsimp only at h'
      cases hz : bSum [.lst zs] with
      | none => rw [hz] at h'; exact h'.elim
      | some w =>
        rw [hz] at h'
        exact ⟨P, ms2, cs2, [.lst zs], w, B.rel, Reps.toB (Reps.one q), hz, fun H3 vz A3 r3 => h' ms2 H3 vz (B.trans A3 A1.rel) r3⟩
end
end Ev

set_option Elab.async false
set_option linter.all false
set_option maxRecDepth 100000
set_option maxHeartbeats 4000000
/-! Ev: slices, chains of comparisons, types as values. -/
namespace Ev
open PySem PySem.Spec PyProof.Rows L2

def cutP (xs : List PV) (lo hi : Option Int) : List PV := (xs.drop (HT.sIx xs.length 0 lo)).take (HT.sIx xs.length xs.length hi - HT.sIx xs.length 0 lo)
/-- a bound of a slice -/
abbrev OF := Sg → Cs → Res (Option Int)
def oNo : OF := fun _ cs => .ok none cs
def oSo (f : EF) : OF := fun sg cs => (f sg cs).bind fun x c => match x with
  | .int i => .ok (some i) c
  | _ => .stuck
def eSl (a : EV) (lo hi : OF) : EF := fun sg cs => (a sg cs).bind fun s c1 => (lo sg c1).bind fun l c2 => (hi sg c2).bind fun h c3 => match derefS c3 s with
  | some (.tup xs) => .ok (.tup (cutP xs l h)) c3
  | some (.lst xs) => .ok (.lst (cutP xs l h)) c3
  | some (.str z) => if z.length ≤ 16777216 then .ok (.str (cutS z l h)) c3 else .stuck
  | _ => .stuck
section
variable {g : Gx} {X : Cx} {W : WX} {k : Nat} {H : Hp} {N : Addr → Prop} {e a b c : Expr} {fa : EV} {pos p2 : Pos} {lo hi : Option Expr} {fl fh : OF}
abbrev RpO : Hp → (Addr → Prop) → List Addr → Option Int → Option Int → Prop := fun _ _ _ x y => y = x
def rdO (g : Gx) (f : OF) (W : WX) : TO := fun σ H Q => ∃ P ms cs sg, At g P ms cs sg σ H ∧ Post g RpO P ms cs H (f sg cs) Q fun c d H' => W c d σ H'
abbrev SO (g : Gx) (X : Cx) (W : WX) (e : Option Expr) (f : OF) : Prop := PO X e (rdO g f W)
theorem _root_.L2.PO.imp {X : Cx} {e : Option Expr} {t t' : TO} (h : PO X e t) (i : ∀ σ H Q, t' σ H Q → t σ H Q) : PO X e t' := ⟨fun pins s σ H Q I q => h.run pins s σ H Q I (i σ H Q q)⟩
theorem so_no : SO g X W none oNo := po_none.imp fun σ H Q ⟨P, ms, cs, sg, A, h⟩ => h ms H none (.refl A.rel) rfl
theorem so_so {f : EF} (h : SE g X W e f) : SO g X W (some e) (oSo f) := (po_some h).imp fun σ H Q ⟨P, ms, cs, sg, A, h⟩ => by
  refine ⟨P, ms, cs, sg, A, ?_⟩
  unfold oSo at h
  revert h
  cases f sg cs with
  | stuck => exact id
  | exc e c => exact fun h => h
  | ok v c =>
    cases v with
    | int i =>
      intro h ms' H' vv B q
      have q : Rep g H' (Exl P ms' c) (.int i) vv := q
      simp only [Rep] at q
      subst q
      exact ⟨i, rfl, h ms' H' (some i) B rfl⟩
    | _ => exact fun h => h.elim
theorem reps_cut {xs : List PV} {vs : List V} {l h : Option Int} (r : Reps g H N xs vs) : Reps g H N (cutP xs l h) (cutV vs l h) := by
  unfold cutP cutV
  rw [r.length]
  exact (r.drop _).take _
theorem cut_whole {xs : List PV} {l h : Option Int} (w : HT.sIx xs.length 0 l = 0 ∧ HT.sIx xs.length xs.length h = xs.length) : cutP xs l h = xs := by
  unfold cutP
  rw [w.1, w.2]
  simp
def rSl3 (K : PySem.W.Frag) : V → Option Int → Option Int → Hp → VK → Prop := fun x l h H Q => (rSlA K x l h H Q ∨ rSlL K x l h H Q) ∨ rSlS x l h H Q
theorem sl_3 : SlR X (rSl3 X.K) := (sl_tupA.or sl_list).or sl_str
theorem se_slice (hK : X.K = g.K) (ha : SVj g X W a fa) (hl : SO g X W lo fl) (hh : SO g X W hi fh) : SE g X W (.Subscript a (.Slice lo hi none p2) pos) (eSl fa fl fh) :=
  (pe_slice sl_3 ha hl hh).imp fun σ H Q ⟨P, ms, cs, sg, A, h⟩ => by
    refine ⟨P, ms, cs, sg, A, ?_⟩
    unfold eSl at h
    revert h
    cases fa sg cs with
    | stuck => exact id
    | exc e c => exact fun h => h
    | ok s c1 =>
      intro h ms1 H1 v A1 q1
      refine ⟨P, ms1, c1, sg, A.aft A1, ?_⟩
      simp only [Res.bind] at h
      revert h
      cases fl sg c1 with
      | stuck => exact id
      | exc e c => exact fun h ms2 H2 c d A2 q2 => h ms2 H2 c d (A1.trans A2 A.rel) q2
      | ok l c2 =>
        intro h ms2 H2 lv A2 ql
        obtain rfl : lv = l := ql
        refine ⟨P, ms2, c2, sg, (A.aft A1).aft A2, ?_⟩
        dsimp only at h
        revert h
        cases fh sg c2 with
        | stuck => exact id
        | exc e c => exact fun h ms3 H3 c d A3 q3 => h ms3 H3 c d ((A1.trans A2 A.rel).trans A3 A.rel) q3
        | ok u c3 =>
          intro h ms3 H3 uv A3 qu
          obtain rfl : uv = u := qu
          have A123 := (A1.trans A2 A.rel).trans A3 A.rel
          have rs := ((rpV1_S q1).aft A1.rel A2).aft A2.rel A3
          dsimp only at h
          split at h
          · rename_i xs hd
            have rb : Rep g H3 (Exl P ms3 c3) (.tup xs) v := rs.deref A3.rel hd
            have rb0 := rb
            simp only [Rep] at rb
            obtain ⟨a, vs, rfl, h1, h2⟩ := rb
            refine .inl (.inl ⟨a, vs, rfl, by rw [hK]; exact h1, fun w => ?_, fun _ p hp => ?_⟩)
            · rw [← h2.length] at w
              rw [cut_whole w] at h
              exact h ms3 H3 _ A123 rb0
            · exact h ms3 _ _ (A123.trans (.new_ hp A3.rel) A.rel) (rep_tup A3.rel (reps_cut h2) hp)
          · rename_i xs hd
            have rb := rs.deref A3.rel hd
            simp only [RepB] at rb
            obtain ⟨a, vs, rfl, h1, h2⟩ := rb
            exact .inl (.inr ⟨a, vs, rfl, .of h1, fun p hp => h ms3 _ _ (A123.trans (.new_ hp A3.rel) A.rel) (rep_lst A3.rel (reps_cut h2) hp)⟩)
          · rename_i z hd
            split at h
            · rename_i hz
              have rb : Rep g H3 (Exl P ms3 c3) (.str z) v := rs.deref A3.rel hd
              simp only [Rep] at rb
              subst rb
              exact .inr ⟨z, rfl, sizeL hz, h ms3 H3 _ A123 rep_str⟩
            · exact h.elim
          · exact h.elim
/-! ### a op b op' c -/
def eChain (f f' : PV → PV → Option PV) (a b c : EF) : EF := fun sg cs => (a sg cs).bind fun x c1 => (b sg c1).bind fun y c2 => match f x y with
  | some (.bl true) => (c sg c2).bind fun z c3 => .lift (f' y z) c3
  | some (.bl false) => .ok (.bl false) c2
  | _ => .stuck
variable {ea eb ec : EF}
theorem rdE_chain {f f' : PV → PV → Option PV} {σ : L2.St} {H : Hp} {Q : VK} (h : rdE g (eChain f f' ea eb ec) W σ H Q) : tChain (r2 g f) (r2 g f') (rdE g ea W) (rdE g eb W) (rdE g ec W) σ H Q := by
  obtain ⟨P, ms, cs, sg, A, h⟩ := h
  refine ⟨P, ms, cs, sg, A, ?_⟩
  unfold eChain at h
  revert h
  cases ea sg cs with
  | stuck => exact id
  | exc e c => exact fun h => h
  | ok x c1 =>
    intro h ms1 H1 vx A1 q1
    refine ⟨P, ms1, c1, sg, A.aft A1, ?_⟩
    simp only [Res.bind] at h
    revert h
    cases eb sg c1 with
    | stuck => exact id
    | exc e c => exact fun h ms2 H2 c d A2 q2 => h ms2 H2 c d (A1.trans A2 A.rel) q2
    | ok y c2 =>
      intro h ms2 H2 vy A2 q2
      have A12 := A1.trans A2 A.rel
      dsimp only at h
      split at h
      · rename_i hf
        refine ⟨P, ms2, c2, x, y, .bl true, A2.rel, (q1.aft A1.rel A2).toB, q2.toB, hf, fun H' vz B rz => ?_⟩
        have rz : Rep g H' (Exl P ms2 c2) (.bl true) vz := rz
        simp only [Rep] at rz
        refine ⟨true, rz, ?_⟩
        rw [if_pos rfl]
        refine ⟨P, ms2, c2, sg, ((A.aft A1).aft A2).aft B, ?_⟩
        revert h
        cases ec sg c2 with
        | stuck => exact id
        | exc e c => exact fun h ms3 H3 c d A3 q3 => h ms3 H3 c d ((A12.trans B A.rel).trans A3 A.rel) q3
        | ok z c3 =>
          intro h ms3 H3 vz3 A3 q3
          have A4 := (A12.trans B A.rel).trans A3 A.rel
          cases hz : f' y z with
          | none => simp only [hz, Res.lift] at h; exact h.elim
          | some w =>
            simp only [hz, Res.lift] at h
            exact ⟨P, ms3, c3, y, z, w, A3.rel, ((q2.aft A2.rel B).aft B.rel A3).toB, q3.toB, hz, fun H' vz A5 r5 => h ms3 H' vz (A4.trans A5 A.rel) r5⟩
      · rename_i hf
        refine ⟨P, ms2, c2, x, y, .bl false, A2.rel, (q1.aft A1.rel A2).toB, q2.toB, hf, fun H' vz B rz => ?_⟩
        have rz : Rep g H' (Exl P ms2 c2) (.bl false) vz := rz
        simp only [Rep] at rz
        refine ⟨false, rz, ?_⟩
        rw [if_neg Bool.false_ne_true]
        exact h ms2 H' _ (A12.trans B A.rel) rep_bl
      · exact h.elim
theorem se_chain {op op' : CmpOp} {f f' : PV → PV → Option PV} (ho : OpR X (compareOp op) (r2 g f)) (ho' : OpR X (compareOp op') (r2 g f')) (ha : SE g X W a ea) (hb : SE g X W b eb) (hc : SE g X W c ec)
    (hm : lastMarks [op, op'] [b, c] = false := by with_unfolding_all rfl) : SE g X W (.Compare a [op, op'] [b, c] pos) (eChain f f' ea eb ec) := (pe_chain ho ho' ha hb hc hm).imp fun _ _ _ => rdE_chain
theorem st_chain {op op' : CmpOp} {f f' : PV → PV → Option PV} (ho : OpR X (compareOp op) (r2 g f)) (ho' : OpR X (compareOp op') (r2 g f')) (ha : SE g X W a ea) (hb : SE g X W b eb) (hc : SE g X W c ec)
    (hm : lastMarks [op, op'] [b, c] = false := by with_unfolding_all rfl) : ST g X W (.Compare a [op, op'] [b, c] pos) (tB (eChain f f' ea eb ec)) := (pt_chain ho ho' ha hb hc hm).imp fun σ H Q h => by
  obtain ⟨P, ms, cs, sg, A, h⟩ := rdT_B h
  have := rdE_chain ⟨P, ms, cs, sg, A, h⟩
  exact this
/-! ### a built-in type as a value -/
theorem se_ty {x : Str} {T : String} (hg : Gl X x) (hm : X.mg x = none) (hv : bootBuiltins x = some (.type T)) (hn : x ≠ "__name__" := by decide) (hd : (x == ("__debug__" : Str)) = false := by decide) : SE g X W (.Name x pos) (eC (.ty T)) :=
  se_c (pe_bltn hg hm hv (v := .ty T) rfl hn hd) fun _ _ => by simp only [Rep]
/-- what is never reached -/
def eStuck : EF := fun _ _ => .stuck
theorem se_stuck : SE g X W e eStuck := ⟨fun pins s σ H Q I ⟨P, ms, cs, sg, A, h⟩ => h.elim⟩
def sStuck : BF := fun _ _ => .stuck
theorem sb_stuck {st : List Stmt} : SB g X W st sStuck := ⟨fun pins s σ H D I ⟨P, ms, cs, sg, A, h⟩ => h.elim⟩
theorem ss_stuck {st : Stmt} : SS g X W st sStuck := ⟨fun pins s σ H D I ⟨P, ms, cs, sg, A, h⟩ => h.elim⟩
end
end Ev

set_option Elab.async false
set_option linter.all false
set_option maxRecDepth 100000
set_option maxHeartbeats 4000000
/-! Ev: within an except suite: lists walked, tuples taken apart, list comprehensions. -/
namespace Ev
open PySem PySem.Spec PyProof.Rows L2 L2H HotX

section
variable {prog : Program} {w : World} {A : Around} {E : Value → Shared → Prop} {s : Shared}
theorem raise_stop_hot {x1 : Addr} {Q : Option Value → Shared → Prop} (hot : HotAt A x1 s.heap) (hQ : ∀ h', (∀ b o, s.heap.get? b = some o → h'.get? b = some o) → Q none { s with heap := h' }) : True := trivial
theorem next_list_endH {it l x1 : Addr} {i : Nat} {items} {Q : Option Value → Shared → Prop} (hot : HotAt A x1 s.heap) (hx1 : x1 ≠ it)
    (hit : s.heap.IsListIter it l i) (hl : s.heap.IsList l items) (hx : items[i]? = none)
    (hQ : ∀ h', Heap.ExtBut it s.heap h' → Q none { s with heap := h' }) : wpAny (model prog w) A (pyNext (.ref it)) Q E s := by
  obtain ⟨o, ho, hc, hd⟩ := id hit
  obtain ⟨ol, hol, _, nl, hdl⟩ := hl
  obtain ⟨hh, o1, vs1, h1, d1, c1⟩ := hot
  unfold pyNext
  refine wpAny_bind (wpAny_attempt (wpAny_callSpecial?_slot (name := Str.ofString "__next__") hit.typeIs slot_listiter_next
    (wpAny_call_entry slot_listiter_next hit.typeIs entry_listiter_next ?_ (args_listiter_next _))))
  show wpAny _ _ (field (.ref it) 0 >>= _) _ _ s
  refine wpAny_bind (wpAny_field ho hd (x := .ref l) rfl ?_)
  show wpAny _ _ (if (Value.ref l == Value.none) = true then _ else _) _ _ s
  rw [if_neg (show ¬ ((Value.ref l == Value.none) = true) from Bool.false_ne_true)]
  show wpAny _ _ (field (.ref it) 1 >>= _) _ _ s
  refine wpAny_bind (wpAny_field ho hd (x := .int i 0) rfl ?_)
  show wpAny _ _ (seqItems? (.ref l) >>= _) _ _ s
  refine wpAny_bind (wpAny_seqItems hol hdl ?_)
  simp only [Int.toNat_natCast, hx]
  refine wpAny_bind (wpAny_rule (wpAny_bind (wpAny_setField ho hd (by simp) ?_)))
  show wpAny _ _ (newExc (.type "StopIteration") [] >>= _) _ _ _
  refine wpAny_bind ?_
  simp only [newExc, newTuple]
  refine wpAny_bind (wpAny_newObj_type ?_ (by size_fits))
  refine wpAny_bind (m := firstArgMember _ _) (wpAny_of_eq (a := Value.none) (by first | rfl | (simp only [firstArgMember]; rfl)) ?_)
  refine wpAny_newObj_type ?_ (by size_fits)
  have kx : ∀ {o : Obj} {f : Obj → Obj}, s.heap.get? x1 = some o → (s.heap.update it f).get? x1 = some o := fun e => (Heap.get?_update_other _ _ (Ne.symm hx1)).trans e
  refine raiseNew_hot ⟨hh, o1, vs1, Heap.get?_push_of_some _ (Heap.get?_push_of_some _ (kx h1)), d1, c1⟩ (Nat.ne_of_lt (Heap.lt_size (Heap.get?_push_of_some _ (kx h1)))) (Heap.get?_push_size _ rfl) rfl (by first | (simp; done) | (simp; omega) | (simp only [Array.size_append]; simp; omega)) ?_
  refine wpAny_bind (wpAny_isInstance (T := "StopIteration") (b := true) ⟨_, Heap.get?_update_self _ (Heap.get?_push_size _ rfl) rfl, rfl⟩ isSubtype_stop ?_)
  refine wpAny_pure (hQ _ fun b o hb e => ?_)
  have e1 : (s.heap.update it (Obj.mapFields (fun vs => vs.setIfInBounds 0 Value.none))).get? b = some o := (Heap.get?_update_other _ _ (Ne.symm hb)).trans e
  rw [Heap.get?_update_other _ _ (Nat.ne_of_gt (Heap.lt_size (Heap.get?_push_of_some _ e1)))]
  exact Heap.get?_push_of_some _ (Heap.get?_push_of_some _ e1)
theorem next_tuple_endH {it t x1 : Addr} {i : Nat} {items} {Q : Option Value → Shared → Prop} (hot : HotAt A x1 s.heap) (hx1 : x1 ≠ it)
    (hit : IsTupIter s.heap it t i) (ht : IsTup s.heap t items) (hx : items[i]? = none)
    (hQ : ∀ h', Heap.ExtBut it s.heap h' → Q none { s with heap := h' }) : wpAny (model prog w) A (pyNext (.ref it)) Q E s := by
  obtain ⟨o, ho, hc, hd⟩ := id hit
  obtain ⟨ol, hol, _, nl, hdl⟩ := ht
  obtain ⟨hh, o1, vs1, h1, d1, c1⟩ := hot
  unfold pyNext
  refine wpAny_bind (wpAny_attempt (wpAny_callSpecial?_slot (name := Str.ofString "__next__") hit.typeIs slot_tupleiter_next
    (wpAny_call_entry slot_tupleiter_next hit.typeIs entry_tupleiter_next ?_ (args_tupleiter_next _))))
  show wpAny _ _ (field (.ref it) 0 >>= _) _ _ s
  refine wpAny_bind (wpAny_field ho hd (x := .ref t) rfl ?_)
  show wpAny _ _ (if (Value.ref t == Value.none) = true then _ else _) _ _ s
  rw [if_neg (show ¬ ((Value.ref t == Value.none) = true) from Bool.false_ne_true)]
  show wpAny _ _ (field (.ref it) 1 >>= _) _ _ s
  refine wpAny_bind (wpAny_field ho hd (x := .int i 0) rfl ?_)
  show wpAny _ _ (seqItems? (.ref t) >>= _) _ _ s
  refine wpAny_bind (wpAny_seqItems hol hdl ?_)
  simp only [Int.toNat_natCast, hx]
  refine wpAny_bind (wpAny_rule (wpAny_bind (wpAny_setField ho hd (by simp) ?_)))
  show wpAny _ _ (newExc (.type "StopIteration") [] >>= _) _ _ _
  refine wpAny_bind ?_
  simp only [newExc, newTuple]
  refine wpAny_bind (wpAny_newObj_type ?_ (by size_fits))
  refine wpAny_bind (m := firstArgMember _ _) (wpAny_of_eq (a := Value.none) (by first | rfl | (simp only [firstArgMember]; rfl)) ?_)
  refine wpAny_newObj_type ?_ (by size_fits)
  have kx : ∀ {o : Obj} {f : Obj → Obj}, s.heap.get? x1 = some o → (s.heap.update it f).get? x1 = some o := fun e => (Heap.get?_update_other _ _ (Ne.symm hx1)).trans e
  refine raiseNew_hot ⟨hh, o1, vs1, Heap.get?_push_of_some _ (Heap.get?_push_of_some _ (kx h1)), d1, c1⟩ (Nat.ne_of_lt (Heap.lt_size (Heap.get?_push_of_some _ (kx h1)))) (Heap.get?_push_size _ rfl) rfl (by first | (simp; done) | (simp; omega) | (simp only [Array.size_append]; simp; omega)) ?_
  refine wpAny_bind (wpAny_isInstance (T := "StopIteration") (b := true) ⟨_, Heap.get?_update_self _ (Heap.get?_push_size _ rfl) rfl, rfl⟩ isSubtype_stop ?_)
  refine wpAny_pure (hQ _ fun b o hb e => ?_)
  have e1 : (s.heap.update it (Obj.mapFields (fun vs => vs.setIfInBounds 0 Value.none))).get? b = some o := (Heap.get?_update_other _ _ (Ne.symm hb)).trans e
  rw [Heap.get?_update_other _ _ (Nat.ne_of_gt (Heap.lt_size (Heap.get?_push_of_some _ e1)))]
  exact Heap.get?_push_of_some _ (Heap.get?_push_of_some _ e1)
theorem _root_.HotX.HotAt.ext {x1 : Addr} {h h' : Heap} (hot : HotAt A x1 h) (e : ∀ o, h.get? x1 = some o → h'.get? x1 = some o) : HotAt A x1 h' := by
  obtain ⟨hh, o1, vs1, h1, d1, c1⟩ := hot
  exact ⟨hh, o1, vs1, e _ h1, d1, c1⟩
theorem _root_.HotX.HotAt.lt {x1 : Addr} {h : Heap} (hot : HotAt A x1 h) : x1 < h.objs.size := by
  obtain ⟨hh, o1, vs1, h1, d1, c1⟩ := hot
  exact Heap.lt_size h1
theorem unpackItems_tupleH {t x1 : Addr} {items : Array Value} {Q : List Value → Shared → Prop} (hot : HotAt A x1 s.heap) (ht : IsTup s.heap t items)
    (hQ : ∀ h', Heap.ExtBut s.heap.objs.size s.heap h' → Q items.toList { s with heap := h' }) : wpAny (model prog w) A (unpackItems (.ref t) items.size none) Q E s := by
  have hlt : t ≠ s.heap.objs.size := by obtain ⟨o, ho, _⟩ := ht; exact Nat.ne_of_lt (Heap.lt_size ho)
  have hx1 : x1 ≠ s.heap.objs.size := Nat.ne_of_lt hot.lt
  unfold unpackItems
  refine wpAny_bind ?_
  · unfold notIterableAtAll
    refine wpAny_bind (wpAny_specialOf ht.typeIs slot_tuple_iter.lookup ?_)
    refine wpAny_pure ?_
    simp only [Bool.false_eq_true, if_false]
    refine wpAny_bind (wpAny_holding (iter_tuple ht ?_))
    refine wpAny_bind (wpAny_holding (draw_tuple hlt items.size 0 _ _ ⟨_, Heap.get?_push_size _ rfl, rfl, rfl⟩ (ht.push _) (by omega) fun h₁ hit₁ hs₁ => ?_))
    have hall : List.take items.size (List.drop 0 items.toList) = items.toList := by
      rw [List.drop_zero]; exact List.take_of_length_le (by simp)
    rw [hall]
    rw [if_neg (by simp)]
    have ht₁ : IsTup h₁ t items := (ht.push _).extBut hs₁.extBut hlt
    have hot₁ : HotAt A x1 h₁ := hot.ext fun o e => hs₁.extBut _ _ hx1 (Heap.get?_push_of_some _ e)
    refine wpAny_bind (wpAny_holding (next_tuple_endH (s := { s with heap := h₁ }) hot₁ hx1 hit₁ ht₁ (by simp) fun h₂ he₂ => ?_))
    simp only [Option.isSome_none, Bool.false_eq_true, if_false]
    refine wpAny_pure (hQ h₂ fun b o hb e => he₂ b o hb (hs₁.extBut b o hb (Heap.get?_push_of_some _ e)))
theorem unpack_tupleH {t x1 : Addr} {items : Array Value} {targets : List (Bool × (Value → Sem Unit))} {Q : Unit → Shared → Prop} (hot : HotAt A x1 s.heap) (ht : IsTup s.heap t items)
    (hn : targets.length = items.size) (hstar : targets.findIdx? (·.1) = none)
    (h : ∀ h', Heap.ExtBut s.heap.objs.size s.heap h' → wpAny (model prog w) A (assignInOrder (targets.map (·.2)) items.toList) Q E { s with heap := h' }) :
    wpAny (model prog w) A (unpack (.ref t) targets) Q E s := by
  unfold unpack
  rw [hn, hstar]
  exact wpAny_bind (wpAny_holding (unpackItems_tupleH hot ht h))
end
section
variable {X : Cx} {pos : Pos}
theorem pg_tupH {es : List Expr} {k : Nat} {t : TGs} {n : Nat} (hc : HotC X) (h : PGs X es t)
    (hn : (assignEach es X.env).length = n := by rfl) (hst : (assignEach es X.env).findIdx? (·.1) = none := by rfl) : PG X (.Tuple es k pos) (gTup X.K n t) := by
  refine ⟨fun pins s σ H v u Q I r hw => ?_⟩
  obtain ⟨a, xs, e1, hq, hl, hw⟩ := hw
  subst e1
  cases r
  obtain ⟨its, rv, ht, hz⟩ := I.tuple hq
  obtain ⟨x1, hot⟩ := hc.at I
  rw [assign_Tuple]
  refine wpAny_bind (wpAny_standAt (unpack_tupleH hot ht (by simp [hn, ← hl, rv.length]) hst fun h' hx => ?_))
  have I1 : Inv X pins σ H { s with heap := h' } := I.kept (t' := s.toks) fun b o e => hx b o (Nat.ne_of_lt (Heap.lt_size e)) e
  exact h.run pins _ σ H xs _ Q I1 (by simpa using rv) hw
end
/-! ### the block of a comprehension, the handled exception still known -/
abbrev _root_.L2.Cx.blkH (X : Cx) (s : Shared) (H : Hp) (scope : Scope) (cenv : Env) (fp : List Addr) : Cx := { X with s_0 := s, H_0 := H, env := cenv, outer := X.stack, ex := fp, fn := fun x => scope.names.lookup x == some .cell, xe := fun _ _ => False }
section
variable {X : Cx} {pins : List (Addr × Obj)} {σ : L2.St} {H : Hp} {s : Shared}
theorem block_startH {scope : Scope} {own : List (Str × Nat)} {fp : List Addr} (I : Inv X pins σ H s) (ok : BlkOk X.N X.env.scope scope own) (hN : X.N.Nodup) (hfp : ∀ b ∈ fp, FpOk X pins H b ∧ b < s.heap.objs.size) :
    Inv (X.blkH s H scope (compEnvC scope (cellsFrom (s.heap.objs.size + 1) scope.names (cloFrom X.env.cells scope.names [])) s.heap.objs.size X.env) fp) [] (wipe σ (own.map (·.2))) H { s with heap := pushCells (s.heap.push { cls := .type "dict", data := .dict #[] }) scope.names } := by
  have J := block_start I ok hN hfp
  have o := J.ok
  refine ⟨⟨o.mod, o.kind, o.glob, o.blt, o.above, o.inj, o.has, o.cab, o.hd, o.frames, o.stk, o.exf, o.bs, o.bsz, o.noex, o.exfs, o.funs, o.frf⟩, J.os, J.bare, J.base, J.loc, J.cell, J.free, J.freeC, fun p hp => ?_, J.hok, J.len⟩
  have hp : p ∈ X.pn := by simpa using hp
  obtain ⟨h1, h2, h3, h4, h5⟩ := I.pin p (List.mem_append_left _ hp)
  refine ⟨pushCells_keeps _ _ _ _ (Heap.get?_push_of_some _ h1), h2, ?_, fun hm => ?_, h5⟩
  · exact Nat.ne_of_lt (Heap.lt_size h1)
  · rcases List.mem_cons.mp (I.stkSub p.1 hm) with z | z
    · exact h3 z
    · exact h4 z
theorem hotB {X : Cx} {s : Shared} {H : Hp} {scope : Scope} {cenv : Env} {fp : List Addr} (h : HotC X) : HotC (X.blkH s H scope cenv fp) := h
end
section
variable {X : Cx}
theorem lc_coreH {pins : List (Addr × Obj)} {s : Shared} {σ : L2.St} {H : Hp} {Q : VK} {elt tg iter : Expr} {ifs : List Expr} {scope : Scope} {own : List (Str × Nat)} {pos pos' : Pos} {wi : TI} {g : TG} {tt : TT} {te : TE} {use : Option (Value → Sem Unit)} {Qf : Value → Shared → Prop}
    (hc : HotC X) (hN : X.N.Nodup) (I : Inv X pins σ H s) (hi : PIH X tg iter wi) (ok : BlkOk X.N X.env.scope scope own)
    (hg : ∀ (s : Shared) (H : Hp) (C : Addr) (cl : List (Str × Addr)) (fp : List Addr), PG (X.blkH s H scope (compEnvC scope cl C X.env) fp) tg g) (ht : ∀ (s : Shared) (H : Hp) (C : Addr) (cl : List (Str × Addr)) (fp : List Addr), PTs (X.blkH s H scope (compEnvC scope cl C X.env) fp) ifs tt)
    (he : ∀ (s : Shared) (H : Hp) (C : Addr) (cl : List (Str × Addr)) (fp : List Addr), PE (X.blkH s H scope (compEnvC scope cl C X.env) fp) elt te) (hs : ∀ x, foldedSetIterable iter X.env x = pure x)
    (h : tLc wi g tt te (own.map (·.2)) σ H Q)
    (hRR : ∀ D C s' m H', Inv X pins σ H' s' → Q (.ref D) H' → s'.heap.Ns C m → FpOk X pins H' C → compPost (model X.prog X.w) X.A X.xe use Qf (.ref D) C (.ok .next) s') :
    wpAny (model X.prog X.w) X.A (comprehension (.ListComp elt [⟨tg, iter, ifs, 0⟩] scope pos) scope X.env pos' (newList []) false (eval iter X.env) use) Qf X.xe s := by
  have hfree : ∀ y ∈ scope.names, y.2 = .free → ∃ c, X.env.cells.lookup y.1 = some c := fun y hy e => by
    rcases ok.free y hy e with k | k
    · exact I.ok.has _ (.inl k)
    · exact I.ok.has _ (.inr k)
  refine wpAny_comprehension_free (use := use) rfl hs (closure_ok hfree) ok.kind (fun y hy e => by rw [ok.uniq y hy, e])
    (thn (hi.run pins s σ H _ I h) fun xv s1 hx => thn hx fun itv s2 h2 => ?_)
  obtain ⟨it, fp, tn, J, H2, e, I2, T, st2, f2, q⟩ := h2
  subst e
  refine wpAny_newObj_type (newEnv_comp ?_) (by show 0 ≤ sizeLine; decide)
  generalize hD : s2.heap.objs.size = D
  have hDn : H2 D = none := I2.hok.fresh (Nat.le_of_eq hD)
  obtain ⟨W, ⟨m0, w0⟩, turn⟩ := q D hDn
  -- the new list
  generalize hs3 : ({ s2 with heap := s2.heap.push { cls := .type "list", data := .seq ([] : List Value).toArray } } : Shared) = s3
  have I3 : Inv X pins σ (upd H2 D (.lst [])) s3 := by
    rw [← hs3]
    refine I2.laid (t' := s2.toks) (fun b o e => Heap.get?_push_of_some _ e) (Nat.le_of_eq hD) ⟨Nat.zero_le _, [], 0, .nil, ?_⟩
    rw [← hD]
    exact Heap.get?_push_size _ rfl
  have h3 : s3.heap = s2.heap.push { cls := .type "list", data := .seq ([] : List Value).toArray } := by rw [← hs3]
  have sz : ∀ b ∈ fp, b < s2.heap.objs.size := fun b hb => by
    obtain ⟨o, e, _⟩ := T.obj _ _ st2 b hb
    exact Heap.lt_size e
  have f3 : ∀ b ∈ fp, FpOk X pins (upd H2 D (.lst [])) b ∧ b < s3.heap.objs.size := fun b hb => by
    have hlt := sz b hb
    refine ⟨⟨?_, (f2 b hb).2⟩, by rw [h3, Heap.size_push]; exact Nat.lt_succ_of_lt hlt⟩
    rw [upd_ne (by rw [← hD]; exact Nat.ne_of_lt hlt)]
    exact (f2 b hb).1
  have st3 : tn 0 s3.heap := T.keep _ _ _ st2 fun b _ o e => by rw [h3]; exact Heap.get?_push_of_some _ e
  have I4 := block_startH I3 ok hN f3
  have pg := hg s3 (upd H2 D (.lst [])) s3.heap.objs.size (cellsFrom (s3.heap.objs.size + 1) scope.names (cloFrom X.env.cells scope.names [])) fp
  have pt := ht s3 (upd H2 D (.lst [])) s3.heap.objs.size (cellsFrom (s3.heap.objs.size + 1) scope.names (cloFrom X.env.cells scope.names [])) fp
  have pe := he s3 (upd H2 D (.lst [])) s3.heap.objs.size (cellsFrom (s3.heap.objs.size + 1) scope.names (cloFrom X.env.cells scope.names [])) fp
  show codeAny _ _ (.compStart (.ListComp elt [⟨tg, iter, ifs, 0⟩] scope pos) 0 (.ref it) (.ref D) (compEnvC scope (cellsFrom (s3.heap.objs.size + 1) scope.names (cloFrom X.env.cells scope.names [])) s3.heap.objs.size X.env)) (compPost (model X.prog X.w) X.A X.xe use Qf (.ref D) s3.heap.objs.size) { s3 with heap := pushCells (s3.heap.push { cls := .type "dict", data := .dict #[] }) scope.names }
  have nfp : ∀ b ∈ fp, (upd H2 D (.lst [])) b = none := fun b hb => (f3 b hb).1.1
  generalize hce : compEnvC scope (cellsFrom (s3.heap.objs.size + 1) scope.names (cloFrom X.env.cells scope.names [])) s3.heap.objs.size X.env = ce at I4 pg pt pe ⊢
  have cL : ce.locals = s3.heap.objs.size := by subst hce; rfl
  generalize hH3 : upd H2 D (.lst []) = H3 at I3 I4 pg pt pe w0 nfp f3
  generalize hs4 : ({ s3 with heap := pushCells (s3.heap.push { cls := .type "dict", data := .dict #[] }) scope.names } : Shared) = s4 at I4 ⊢
  have st4 : tn 0 s4.heap := T.keep _ _ _ st3 fun b _ o e => by rw [← hs4]; exact pushCells_keeps _ _ _ _ (Heap.get?_push_of_some _ e)
  have stat : ∀ {σ' : L2.St} {H' : Hp} {s' : Shared}, Inv (X.blkH s3 H3 scope ce fp) [] σ' H' s' → (∀ b ∈ fp, H' b = none) → ∀ b ∈ fp, FpOk (X.blkH s3 H3 scope ce fp) [] H' b := fun {σ' H' s'} I' hn b hb =>
    ⟨hn b hb, (I'.ok.exf b hb).1, I'.ok.exfs b hb, .inl hb, fun x c e => (I'.ok.exf b hb).2 x c e, fun p hp => (f3 b hb).1.2.2.2.2.2 p (List.mem_append_left _ (by simpa using hp))⟩
  have loop : codeAny (model X.prog X.w) X.A (.compLoop (.ListComp elt [⟨tg, iter, ifs, 0⟩] scope pos) 0 (.ref it) (.ref D) ce) (compPost (model X.prog X.w) X.A X.xe use Qf (.ref D) s3.heap.objs.size) s4 := by
    refine compLoop_any (fun n s' => ∃ i H', Inv (X.blkH s3 H3 scope ce fp) [] (wipe σ (own.map (·.2))) H' s' ∧ tn i s'.heap ∧ (∀ b ∈ fp, H' b = none) ∧ W i n H') ?_ m0 ⟨0, H3, I4, st4, nfp, w0⟩
    rintro n s5 ⟨i, H5, I5, st5, n5, w5⟩
    rcases turn i n H5 w5 with ⟨stop, qq⟩ | ⟨go, Nx, hNx, step⟩
    · have td := T.done (X.blkH s3 H3 scope ce fp) rfl rfl rfl (hotB hc) i [] s5 _ H5 (fun _ _ => False) I5 (stat I5 n5) st5 stop
      refine thnF td fun r s6 ⟨hr, I6⟩ => ?_
      subst hr
      -- back in the def's context
      have I7 : Inv X pins σ H5 s6 := I3.call' (ch := fp) I6.os I6.base I6.hok I6.bare fun b hb => ⟨(f3 b hb).1.2.2.2.1, (f3 b hb).1.2.1, (f3 b hb).1.2.2.2.2.1, (f3 b hb).1.2.2.2.2.2⟩
      have nC : H5 s3.heap.objs.size = none := by
        have z : H5 ce.locals = none := I6.free
        rw [cL] at z
        exact z
      obtain ⟨m, hn, _⟩ := I6.loc
      have hn : s6.heap.Ns ce.locals m := hn
      rw [cL] at hn
      exact hRR D s3.heap.objs.size s6 m H5 I7 qq hn (I3.fpOk (Nat.le_refl _) nC)
    · have ti := T.item (X.blkH s3 H3 scope ce fp) rfl rfl rfl (hotB hc) i [] s5 _ H5 (fun _ _ => False) I5 (stat I5 n5) st5 go
      refine thnF ti fun r s6 ⟨u, hr, h6⟩ => ?_
      subst hr
      refine thnF h6 fun _ s7 ⟨x, H7, I7, r7, y7, st7, n7⟩ => ?_
      have I7' := I7.pinned (stat I7 n7) (T.obj _ _ st7)
      refine thnF (pg.run _ s7 _ H7 x u _ I7' r7 (step x H7 y7)) fun _ s8 ⟨σ8, H8, I8, hw8, q8⟩ => ?_
      refine thnF (pt.run _ s8 σ8 H8 _ I8 q8) fun b s9 ⟨H9, I9, q9⟩ => ?_
      -- the turn's end
      have fin : ∀ {s' : Shared} {H' : Hp}, Inv (X.blkH s3 H3 scope ce fp) ([] ++ pinsAt fp s7.heap) σ8 H' s' → Nx H' → ∃ m, m < n ∧ ∃ i H', Inv (X.blkH s3 H3 scope ce fp) [] (wipe σ (own.map (·.2))) H' s' ∧ tn i s'.heap ∧ (∀ b ∈ fp, H' b = none) ∧ W i m H' := fun {s' H'} I' nx => by
        obtain ⟨m', hm, w'⟩ := hNx H' nx
        have pin' : ∀ b ∈ fp, ∀ o, s7.heap.get? b = some o → s'.heap.get? b = some o ∧ H' b = none := fun b hb o e =>
          let z := I'.pin (b, o) (List.mem_append_right _ (List.mem_append_right _ (mem_pinsAt hb e)))
          ⟨z.1, z.2.1⟩
        have hl : (wipe σ (own.map (·.2))).length = σ8.length := by rw [← hw8, wipe_length]
        refine ⟨m', hm, i + 1, H', (I'.unpinned (pins := [])).weak hl (fun j v e => ?_), T.keep _ _ _ st7 fun b hb o e => (pin' b hb o e).1, fun b hb => ?_, w'⟩
        · rw [← hw8] at e
          exact (wipe_some e).1
        · obtain ⟨o, e, _⟩ := T.obj _ _ st7 b hb
          exact (pin' b hb o e).2
      cases b with
      | false =>
        simp only [Bool.false_eq_true, if_false] at q9 ⊢
        exact fin I9 q9
      | true =>
        simp only [if_true] at q9 ⊢
        refine thnF (pe.run _ s9 σ8 H9 _ I9 q9) fun z s10 ⟨yv, H10, I10, r10, acc, hD10, hz10, nx⟩ => ?_
        exact app_ok (X := X.blkH s3 H3 scope ce fp) I10 hD10 hz10 r10 fun s11 I11 => fin I11 nx
  exact codeAny_compStart_list loop (T.self X.A 0 _ _ _ st4 loop)
/-- as a value -/
theorem pe_lcH {elt tg iter : Expr} {ifs : List Expr} {scope : Scope} {own : List (Str × Nat)} {pos : Pos} {wi : TI} {g : TG} {tt : TT} {te : TE} (hc : HotC X) (hN : X.N.Nodup) (hi : PIH X tg iter wi) (ok : BlkOk X.N X.env.scope scope own)
    (hg : ∀ (s : Shared) (H : Hp) (C : Addr) (cl : List (Str × Addr)) (fp : List Addr), PG (X.blkH s H scope (compEnvC scope cl C X.env) fp) tg g) (ht : ∀ (s : Shared) (H : Hp) (C : Addr) (cl : List (Str × Addr)) (fp : List Addr), PTs (X.blkH s H scope (compEnvC scope cl C X.env) fp) ifs tt)
    (he : ∀ (s : Shared) (H : Hp) (C : Addr) (cl : List (Str × Addr)) (fp : List Addr), PE (X.blkH s H scope (compEnvC scope cl C X.env) fp) elt te) (hs : ∀ x, foldedSetIterable iter X.env x = pure x := by intro _; rfl) :
    PE X (.ListComp elt [⟨tg, iter, ifs, 0⟩] scope pos) (tLc wi g tt te (own.map (·.2))) := by
  refine ⟨fun pins s σ H Q I h => ?_⟩
  rw [eval_ListComp]
  refine lc_coreH hc hN I hi ok hg ht he hs h fun D C s' m H' I' q hn f => ⟨m, hn, fun h'' sb => ?_⟩
  obtain ⟨f0, f1, f2, f3, f4, f5⟩ := f
  exact ⟨.ref D, H', I'.turned (t' := s'.toks) (fun b o hb e => (sb.2 b hb).trans e) f0 f1 f3 f4 f5, rfl, q⟩
end
theorem turn_listH {P : Program} {w : World} {K : PySem.W.Frag} {tg : Expr} (a it : Addr) : TurnH P w K tg (Itl K a) [it] it (fun i h => h.IsListIter it a i) where
  mem := by simp
  obj := (turn_list (P := P) (w := w) (K := K) (tg := tg) a it).obj
  keep := (turn_list (P := P) (w := w) (K := K) (tg := tg) a it).keep
  item := by
    intro X hP hw hK hc i pins s σ H E I hf st hg
    subst hP hw hK
    obtain ⟨xs, x, hq, hx⟩ := hg
    obtain ⟨its, rv, p, hz⟩ := I.list hq
    obtain ⟨u, hu, ru⟩ := rv.get hx
    obtain ⟨f0, f1, f2, f3, f4, f5⟩ := hf it (by simp)
    refine wpAny_pyNext_list_item st p.isList (x := u) (by simpa using hu) fun h' st' sb => ?_
    have I1 : Inv X pins σ H { s with heap := h' } := I.turned (t' := s.toks) (fun b o hb e => (sb.2 b hb).trans e) f0 f1 f3 f4 f5
    obtain ⟨o, e, c, d⟩ := id st'
    exact ⟨u, rfl, go_of (s := { s with heap := h' }) e c d (by decide) ⟨x, H, I1, ru, ⟨rfl, fun ys hy => by rw [I.list_inj hy hq]; exact hx⟩, st', fun b hb => (hf b hb).1⟩⟩
  done := by
    intro X hP hw hK hc i pins s σ H E I hf st hg
    subst hP hw hK
    obtain ⟨xs, hq, hx⟩ := hg
    obtain ⟨its, rv, p, hz⟩ := I.list hq
    obtain ⟨f0, f1, f2, f3, f4, f5⟩ := hf it (by simp)
    have hl := rv.length
    obtain ⟨q, hq1, hqm⟩ := hc
    obtain ⟨hh, v1, e1, c1⟩ := hq1
    have hne : q.1 ≠ it := f5 q (List.mem_append_left _ hqm)
    exact next_list_endH (x1 := q.1) ⟨hh, q.2, v1, (I.pin q (List.mem_append_left _ hqm)).1, e1, c1⟩ hne st p.isList (by simp; omega) fun h' eb => ⟨rfl, I.turned (t' := s.toks) (fun b o hb e => eb b o hb e) f0 f1 f3 f4 f5⟩
  self := fun _ _ _ _ _ st h => wpAny_pyIter_listiter st h
theorem pi_listH {X : Cx} {tg l : Expr} {tl : TE} (hl : PE X l tl) : PIH X tg l (iList X.K tl) := by
  refine ⟨fun pins s σ H R I h => ?_⟩
  refine thn (hl.run pins s σ H _ I h) fun v s1 ⟨x, H1, I1, r1, q1⟩ => ?_
  obtain ⟨a, e, ⟨xs, hq⟩, q⟩ := q1
  subst e
  cases r1
  obtain ⟨its, rv, p, hz⟩ := I1.list hq
  refine wpAny_pyIter_list p.isList ?_
  refine ⟨s1.heap.objs.size, [s1.heap.objs.size], _, _, H1, rfl, I1.kept (t' := s1.toks) fun b o e => Heap.get?_push_of_some _ e, turn_listH a _, ⟨_, Heap.get?_push_size _ rfl, rfl, rfl⟩, fun b hb => ?_, q⟩
  have e : b = s1.heap.objs.size := by simpa using hb
  subst e
  exact I1.fpOk (Nat.le_refl _) (I1.hok.fresh (Nat.le_refl _))
end Ev

set_option Elab.async false
set_option linter.all false
set_option maxRecDepth 100000
set_option maxHeartbeats 4000000
/-! Ev: a lambda handed to a def that catches what it lets out. -/
namespace Ev
open PySem PySem.Spec PyProof.Rows L2 LamX
/-- the context of the lambda's body -/
def lamCxN (X : Cx) (A : Around) (outer : List Env) (s : Shared) (H : Hp) (E : XK) (scope : Scope) (f c' : Addr) : Cx :=
  { lamCx X A outer s H E scope f c' with
    xe := fun e s' => wpAny (model X.prog X.w) (A.deeper (lamEnv X scope s.heap.objs.size f c')) (leaving (lamEnv X scope s.heap.objs.size f c') e) (fun _ s'' => L2N.CX X.prog X.w outer H s E e s'') (fun e' s'' => L2N.CX X.prog X.w outer H s E e' s'') s' }
/-- all but the tables stay, and these are there -/
def ExtT (H H' : Hp) : Prop := ExtN H H' ∧ ∀ b, H b ≠ none → H' b ≠ none
section
variable {X : Cx} {pins : List (Addr × Obj)} {σ : L2.St} {H : Hp} {s : Shared}
theorem lam_make2N {T : List (Addr × Str)} {c P : Addr} {params : Arguments} {body : Expr} {scope : Scope} {pos : Pos} {E : Value → Shared → Prop} {Q : Value → Shared → Prop} (I : Inv X pins σ H s) (TB : TabB X.base X.mg c P) (hcode : X.env.code = .ref c)
    (hm : (P, X.env.qual ++ "<lambda>") ∈ T) (hu : ∀ p ∈ T, p.1 = P → p.2 = X.env.qual ++ "<lambda>") (hT : Tabs T H) (hdef : defaultsOf params X.env = ([], [])) (hfree : ∀ y ∈ scope.names, y.2 = .free → ∃ c, X.env.cells.lookup y.1 = some c)
    (h : ∀ (f c' : Addr) (pm ctv : Value) (H1 : Hp) (s' : Shared), Inv X pins σ H1 s' → ExtT H H1 → Tabs T H1 →
      s'.heap.get? f = some (PySem.W.kla_obj "<lambda>" (X.env.qual ++ "<lambda>") params body scope (cloFrom X.env.cells scope.names []) pm c' ctv) → H1 f = none → f ∉ frs X.stack → H1 c' = some (CodeO c' (X.env.qual ++ "<lambda>")) → Q (.ref f) s') :
    wpAny (model X.prog X.w) X.A (eval (.Lambda params body scope pos) X.env) Q E s := by
  obtain ⟨ps, hP, ht, ha⟩ := hT _ hm
  refine PySem.W.kla_eval hdef ?_
  have bP : s.heap.BuiltinsAt X.mg P := TB.bm.keeps I.bk
  have hP' : s.heap.get? P = some { cls := .none, data := .fields ps } := I.hok P _ hP
  have nofr : ∀ f, s.heap.objs.size ≤ f → f ∉ frs X.stack := fun f hf z => by
    rcases List.mem_cons.mp (I.stkSub _ z) with e | e
    · have h1 := I.lt
      rw [← e] at h1
      exact Nat.lt_irrefl _ (Nat.lt_of_lt_of_le h1 hf)
    · exact I.nofs hf e
  cases hc : codeAmong pos ps.toList with
  | none =>
    refine PySem.W.kla_makeFunction (mg := X.mg) (c := c) (P := P) (ps := ps) (closure_ok hfree) I.ok.glob (I.mod.glob.keeps I.bk) hcode (TB.code.keeps I.bk) hP' ht hc TB.gP bP fun c' ctv h' tk hx hge hlt hrec htb => ?_
    obtain ⟨c2, oc, vs, t, e2, hoc, hd, hv⟩ := hrec
    cases e2
    have hsz : s.heap.objs.size ≤ h'.objs.size := Nat.le_trans hge (Nat.le_of_lt hlt)
    have nC : H c' = none := I.hok.fresh hge
    have I1 := inv_table (t' := tk) (more := #[rawInt pos.line, rawInt pos.col, .ref c']) (h' := h'.push (PySem.W.kla_obj "<lambda>" (X.env.qual ++ "<lambda>") params body scope (cloFrom X.env.cells scope.names []) ((X.mg "__name__").getD .none) c' ctv)) I hP
      (fun b o hb e => Heap.get?_push_of_some _ (hx b o hb e)) (Heap.get?_push_of_some _ htb) hge ⟨oc, vs, t, Heap.get?_push_of_some _ hoc, hd, hv⟩
    have hE : ExtN H (upd (upd H P (.tbl (ps ++ #[rawInt pos.line, rawInt pos.col, .ref c']))) c' (CodeO c' (X.env.qual ++ "<lambda>"))) := fun b o e n => by
      rw [upd_ne (ne_of_none e nC), upd_ne (fun z => n ps (Option.some.inj (e.symm.trans (by rw [z]; exact hP))))]
      exact e
    have eL : (ps ++ #[rawInt pos.line, rawInt pos.col, .ref c']).toList = ps.toList ++ [rawInt pos.line, rawInt pos.col, .ref c'] := by simp
    have thr : ∀ b, H b ≠ none → (upd (upd H P (.tbl (ps ++ #[rawInt pos.line, rawInt pos.col, .ref c']))) c' (CodeO c' (X.env.qual ++ "<lambda>"))) b ≠ none := fun b hb => by
      by_cases h1 : b = c'
      · rw [h1, upd_same]; exact fun z => nomatch z
      · rw [upd_ne h1]
        by_cases h2 : b = P
        · rw [h2, upd_same]; exact fun z => nomatch z
        · rw [upd_ne h2]; exact hb
    refine h h'.objs.size c' ((X.mg "__name__").getD .none) ctv _ _ I1 ⟨hE, thr⟩ (fun p hp => ?_) (Heap.get?_push_size _ rfl) ?_ (nofr _ hsz) upd_same
    · by_cases hb : p.1 = P
      · rw [hu p hp hb, hb]
        refine ⟨_, by rw [upd_ne (ne_of_none hP nC), upd_same], by rw [eL]; exact PySem.TriplesOk_snoc _ _ _ _ ht, fun p' cv hcv => ?_⟩
        rw [eL] at hcv
        rcases among_app _ ht hcv with z | z
        · obtain ⟨c0, e1, e2⟩ := ha p' cv z
          exact ⟨c0, e1, hE _ _ e2 codeO_ne⟩
        · exact ⟨c', z, upd_same⟩
      · obtain ⟨ps', a1, a2, a3⟩ := hT p hp
        refine ⟨ps', by rw [upd_ne (ne_of_none a1 nC), upd_ne hb]; exact a1, a2, fun p' cv hcv => ?_⟩
        obtain ⟨c0, e1, e2⟩ := a3 p' cv hcv
        exact ⟨c0, e1, hE _ _ e2 codeO_ne⟩
    · have n1 : h'.objs.size ≠ c' := Nat.ne_of_gt hlt
      have n2 : h'.objs.size ≠ P := Nat.ne_of_gt (Nat.lt_of_lt_of_le (Heap.lt_size hP') hsz)
      rw [upd_ne n1, upd_ne n2]
      exact I.hok.fresh hsz
  | some cv =>
    obtain ⟨c', e, hco⟩ := ha pos cv hc
    subst e
    refine PySem.W.kla_makeFunctionHit (mg := X.mg) (c := c) (P := P) (ps := ps) (closure_ok hfree) I.ok.glob (I.mod.glob.keeps I.bk) hcode (TB.code.keeps I.bk) hP' ht hc bP fun ctv h' tk hx hsz => ?_
    have I1 : Inv X pins σ H { s with heap := h'.push (PySem.W.kla_obj "<lambda>" (X.env.qual ++ "<lambda>") params body scope (cloFrom X.env.cells scope.names []) ((X.mg "__name__").getD .none) c' ctv), toks := tk } := I.kept fun b o e => Heap.get?_push_of_some _ (hx b o e)
    exact h h'.objs.size c' ((X.mg "__name__").getD .none) ctv H _ I1 ⟨ExtN.refl H, fun _ z => z⟩ hT (Heap.get?_push_size _ rfl) (I.hok.fresh hsz) (nofr _ hsz) hco
end
def tLamN (T : List (Addr × Str)) (TT : (XK → Hp → VK → Prop) → Hp → VK → Prop) (t : XK → TE) : TE := fun σ H Q => Tabs T H ∧ ∀ H1, ExtT H H1 → Tabs T H1 → TT (fun E H' Q' => t E σ H' Q') H1 Q
section
variable {X : Cx} {pins : List (Addr × Obj)} {σ : L2.St} {H HZ : Hp} {s s1 : Shared}
theorem lam_start2N {A : Around} {outer : List Env} {E : XK} {scope : Scope} {f c' : Addr} {h₁ : Heap} {tk : Nat} (I : Inv X pins σ H s) (L : LamS X.env.scope scope) (e0 : Env0 X.prog X.w X.K X.mg X.base A outer s1 HZ) (hd : A.handled = none)
    (un : Un (frs X.stack) [] H HZ s.heap s1.heap) (hns : h₁.Ns s1.heap.objs.size fun y => ([] : List (Str × Value)).reverse.lookup y) (kp : ∀ b o, s1.heap.get? b = some o → h₁.get? b = some o) :
    Inv (lamCxN X A outer s1 HZ E scope f c') [] σ HZ { s1 with heap := h₁, toks := tk } := by
  have J := lam_start2 (E := E) (f := f) (c' := c') (tk := tk) I L e0 hd un hns kp
  have o := J.ok
  exact ⟨⟨o.mod, o.kind, o.glob, o.blt, o.above, o.inj, o.has, o.cab, o.hd, o.frames, o.stk, o.exf, o.bs, o.bsz, o.noex, o.exfs, o.funs, o.frf⟩, J.os, J.bare, J.base, J.loc, J.cell, J.free, J.freeC, J.pin, J.hok, J.len⟩
theorem pe_actN {CXg : CXT} {Eg : XK} {Ng : List Str} {qg : Str} {sg : Scope} {g f c' : Addr} {cdg pm ctv : Value} {params : Arguments} {body : Expr} {scope : Scope} {k i : Nat} {a : Str} {pn : List (Addr × Obj)} {xe : Value → Shared → Prop} {W : WX} {E : XK} {tb : TE} {p1 p2 : Pos}
    (I : Inv X pins σ H s) (L : LamS X.env.scope scope) (hf : s.heap.get? f = some (PySem.W.kla_obj "<lambda>" (X.env.qual ++ "<lambda>") params body scope (cloFrom X.env.cells scope.names []) pm c' ctv)) (hfn : H f = none) (hfr : f ∉ frs X.stack)
    (hbind : bindArgs (PySem.W.kla_fn "<lambda>" (X.env.qual ++ "<lambda>") params body scope (cloFrom X.env.cells scope.names []) pm (.ref c') ctv) ⟨[], []⟩ = pure [])
    (tk : L2N.Takes ((cxOf CXg X.prog X.w X.K X.mg X.base Ng qg sg g cdg X.A X.stack s H Eg).tr pn xe) W) (hW : ∀ cls d σ' H', E cls d H' → W cls d σ' H') (hr : Room (k + 1) (X.A.deeper (envOfC qg sg s.heap.objs.size g cdg)))
    (hbody : ∀ (A : Around) (outer : List Env) (s : Shared) (H : Hp), Room k (A.deeper (lamEnv X scope s.heap.objs.size f c')) → PE (lamCxN X A outer s H E scope f c') body tb)
    (hN : Ng[i]? = some a) (hv : Vis sg a) (hd : (a == ("__debug__" : Str)) = false := by decide) (hcd : (a == ("__classdict__" : Str)) = false := by decide) :
    PE ((cxOf CXg X.prog X.w X.K X.mg X.base Ng qg sg g cdg X.A X.stack s H Eg).tr pn xe) (.Call (.Name a p1) [] [] p2)
      (fun σZ HZ Q => σZ[i]? = some (some (.ref f)) ∧ HZ c' = some (CodeO c' (X.env.qual ++ "<lambda>")) ∧ tb σ HZ Q) := by
  refine ⟨fun pinsZ sZ σZ HZ Q IZ h => ?_⟩
  obtain ⟨hs, hc, ht⟩ := h
  refine wpAny_Call_Name_kw (thn ((pe_var (pos := p1) (i := i) hN hv hd hcd).run pinsZ sZ σZ HZ (fun v H1 => v = .ref f ∧ H1 = HZ) IZ ⟨.ref f, hs, rfl, rfl⟩) fun u s1 ⟨v, H1, I1, r1, q1⟩ => ?_)
  obtain ⟨ev, eH⟩ := q1
  subst ev
  rw [eH] at I1
  obtain rfl : u = Value.ref f := r1
  have of1 : s1.heap.get? f = some (PySem.W.kla_obj "<lambda>" (X.env.qual ++ "<lambda>") params body scope (cloFrom X.env.cells scope.names []) pm c' ctv) := I1.base.keep f _ hf hfn hfr (fun z => nomatch (show f ∈ ([] : List Addr) from z))
  refine PySem.W.callWith_F0 ⟨_, _, _, _, of1⟩ ?_
  have un : Un (frs X.stack) [] H HZ s.heap s1.heap := I1.base
  obtain ⟨⟨oc, vs, t, hoc, hdc, hvc⟩, _, _⟩ := I1.hok c' _ hc
  have rc : codeAny (model X.prog X.w) (X.A.deeper (envOfC qg sg s.heap.objs.size g cdg)) (.call (.ref f) ⟨[], []⟩) (CR (L2N.CX X.prog X.w) (envOfC qg sg s.heap.objs.size g cdg :: X.stack) X.prog X.w HZ s1 Q E) s1 := by
    refine PySem.W.kla_callFunE hr.depth of1 rfl L.co L.gen rfl ⟨c', oc, vs, t, rfl, hoc, hdc, hvc⟩ ?_
    rw [hbind]
    refine wpAny_pure (wpAny_newFunctionEnv (fun y hy => (L.own y hy).2) (fun y hy => absurd hy (by simp)) (fun h₁ hns hsb => ⟨I1.nolimit.fresh _ hsb, ?_⟩) L.kind)
    show codeAny _ _ (.expr body (lamEnv X scope s1.heap.objs.size f c')) _ _
    have kp : ∀ b o, s1.heap.get? b = some o → h₁.get? b = some o := fun b o e => hsb.extBut b o (Nat.ne_of_lt (Heap.lt_size e)) (Heap.get?_push_of_some _ e)
    have J : Inv (lamCxN X (X.A.deeper (envOfC qg sg s.heap.objs.size g cdg)) (envOfC qg sg s.heap.objs.size g cdg :: X.stack) s1 HZ E scope f c') [] σ HZ { s1 with heap := h₁, toks := s1.toks + ([] : List (Str × Value)).length } :=
      lam_start2N I L I1.env0 hr.hd un hns kp
    refine PySem.W.kla_codeExpr (wpAny_mono ((hbody _ _ s1 HZ (hr.deeper _)).run [] _ _ HZ Q J ht) (fun v s' hq => ?_) fun e s' hq => hq)
    obtain ⟨w', H', J', rv, q⟩ := hq
    exact ⟨w', H', J'.os, J'.bare, J'.base, J'.hok, rv, q⟩
  have hx : L2.Passes (L2N.CX X.prog X.w) ((cxOf CXg X.prog X.w X.K X.mg X.base Ng qg sg g cdg X.A X.stack s H Eg).tr pn xe) E := L2N.passes_call tk hW
  refine wpAny_call (codeAny_mono rc fun r s' hq => ?_)
  cases r with
  | error e => exact hx pinsZ σZ HZ s1 e s' I1 hq
  | ok fl =>
    cases fl with
    | ret u => exact I1.after hq
    | next => exact False.elim hq
    | brk => exact False.elim hq
    | cont => exact False.elim hq
end
/-- the def that calls what it got -/
def GivesToN (X : Cx) (Ng : List Str) (x : Str) (sg : Scope) (g : Addr) (cdg : Value) (bg : List Stmt) (a : Str) (q : Str) (TT : (XK → Hp → VK → Prop) → Hp → VK → Prop) : Prop :=
  ∀ (f c' : Addr) (s : Shared) (H : Hp) (Q : VK) (tl : XK → Hp → VK → Prop),
    (∀ (W : WX) (pn : List (Addr × Obj)) (xe : Value → Shared → Prop) (E : XK) (p1 p2 : Pos), L2N.Takes ((cxOf C8.CX0 X.prog X.w X.K X.mg X.base Ng x sg g cdg X.A X.stack s H C8.E0).tr pn xe) W → (∀ cls d σ' H', E cls d H' → W cls d σ' H') →
      PE ((cxOf C8.CX0 X.prog X.w X.K X.mg X.base Ng x sg g cdg X.A X.stack s H C8.E0).tr pn xe) (.Call (.Name a p1) [] [] p2) (fun σZ HZ Q => σZ[0]? = some (some (.ref f)) ∧ HZ c' = some (CodeO c' q) ∧ tl E HZ Q)) →
    H c' = some (CodeO c' q) → TT tl H Q →
    ∃ t, PSs (cxOf C8.CX0 X.prog X.w X.K X.mg X.base Ng x sg g cdg X.A X.stack s H C8.E0).nox bg t ∧ t { nx := fun _ H' => Q .non H', rt := Q } (L2.start Ng [.ref f]) H
section
variable {X : Cx}
/-- x(lambda: body) -/
theorem pe_lamcallN {T : List (Addr × Str)} {TT : (XK → Hp → VK → Prop) → Hp → VK → Prop} {x a : Str} {g c P : Addr} {k : Nat} {pg : Arguments} {bg : List Stmt} {sg : Scope} {dV kV doc pm cdv ct oc : Value} {an od : Option Addr} {osl : Array (Option Value)} {Ng : List Str}
    {params : Arguments} {body : Expr} {scope : Scope} {t : XK → TE} {p lpos pos : Pos} (hg : Gl X x) (hm : X.mg x = some (.ref g)) (hk : PySem.W.keepIn X.K (.ref g) = true)
    (lk : X.K.lookup g = some ⟨oc, od, .func (PySem.W.fnOf x x pg bg sg dV kV doc pm an cdv ct), osl⟩) (hcg : PySem.W.codeIn X.K cdv x = true) (hb : L2.Binds X.K (PySem.W.fnOf x x pg bg sg dV kV doc pm an cdv ct) [a] []) (Sg : FnScope Ng [a] sg) (hNg : Ng[0]? = some a) (hva : Vis sg a)
    (hG : GivesToN X Ng x sg g cdv bg a (X.env.qual ++ "<lambda>") TT)
    (TB : TabB X.base X.mg c P) (hcode : X.env.code = .ref c) (hmT : (P, X.env.qual ++ "<lambda>") ∈ T) (hu : ∀ p ∈ T, p.1 = P → p.2 = X.env.qual ++ "<lambda>") (hr : Room (k + 2) X.A) (L : LamS X.env.scope scope) (hdef : defaultsOf params X.env = ([], []))
    (hbind : ∀ (q : Str) (cl : List (Str × Addr)) (pm cv ctv : Value), bindArgs (PySem.W.kla_fn "<lambda>" q params body scope cl pm cv ctv) ⟨[], []⟩ = pure [])
    (hbody : ∀ (A : Around) (outer : List Env) (s : Shared) (H : Hp) (E : XK) (f c' : Addr), Room k (A.deeper (lamEnv X scope s.heap.objs.size f c')) → PE (lamCxN X A outer s H E scope f c') body (t E))
    (hdb : (x == ("__debug__" : Str)) = false := by decide) (hd : (a == ("__debug__" : Str)) = false := by decide) (hcd : (a == ("__classdict__" : Str)) = false := by decide) :
    PE X (.Call (.Name x p) [.Lambda params body scope lpos] [] pos) (tLamN T TT t) := by
  refine ⟨fun pins s σ H Q I h => ?_⟩
  obtain ⟨hT, h⟩ := h
  refine wpAny_Call_Name_kw (ld_glob I hg hm ?_ hdb)
  refine PySem.W.callWith_K (h₀ := X.base) I.ok.mod.kin hk ?_ (by rfl) (by rfl)
  show wpAny _ _ (spliced ((false, eval (.Lambda params body scope lpos) X.env) :: backTo pos (starEach [] X.env))) _ _ s
  refine Calls.spliced_cons (lam_make2N I TB hcode hmT hu hT hdef (L.has I.ok) fun f c' pm' ctv H1 s' I1 eN T1 hf hfn hfr hco => ?_)
  refine Calls.spliced_nil ⟨I1.kIn, ?_⟩
  have rc : codeAny (model X.prog X.w) X.A (.call (.ref g) ⟨[.ref f], []⟩) (CR C8.CX0 X.stack X.prog X.w H1 s' Q C8.E0) s' := by
    refine run_ofS (N := Ng) (ps := [a]) (us := [.ref f]) (vs := [.ref f]) lk hcg Sg hr I1.env0 (hb s' [.ref f] I1.kIn rfl) (.cons rfl .nil) rfl fun hr' => ?_
    obtain ⟨t', ht', hq'⟩ := hG f c' s' H1 Q (fun E H' Q' => t E σ H' Q') (fun W pn xe E p1 p2 tk hW => pe_actN (i := 0) I1 L hf hfn hfr (hbind _ _ _ _ _) tk hW hr' (fun A outer s H hr2 => hbody A outer s H E f c' hr2) hNg hva hd hcd) hco (h H1 eN T1)
    exact ⟨t', ht'.nox, hq'⟩
  refine wpAny_call (codeAny_mono rc fun r s2 hq => ?_)
  cases r with
  | error e => exact (show False from hq).elim
  | ok fl =>
    cases fl with
    | ret u => exact I1.after hq
    | next => exact False.elim hq
    | brk => exact False.elim hq
    | cont => exact False.elim hq
end
end Ev

set_option Elab.async false
set_option linter.all false
set_option maxRecDepth 100000
set_option maxHeartbeats 4000000
/-! Ev: raising, and a def that tells what its lambda lets out. -/
namespace Ev
open PySem PySem.Spec PyProof.Rows L2 L2H LamX

/-! ### raise -/
def sRaise (n : Nat) : BF := fun sg cs => .exc ⟨n, []⟩ sg cs
section
variable {g : Gx} {X : Cx} {W : WX} {k : Nat} {pos pos' p p2 : Pos}
theorem ss_raise {n : Nat} {x m : Str} {j : Nat} {bmB : List Value} {B newId initId : String} (ok : Ok g X W k) (F : ExcBaseFacts B newId initId bmB) (q : PySem.W.excIn X.K (g.fa n) bmB newId = true) (gC : X.mg x = some (.ref (g.fa n))) (kC : PySem.W.keepIn X.K (.ref (g.fa n)) = true) (r : Raises X (.ref (g.fa n))) (hg : Gl X x)
    (hdb : (x == ("__debug__" : Str)) = false := by decide) : SS g X W (.Raise (some (.Call (.Name x p) [.Constant (.str m) j p2] [] pos)) none pos') (sRaise n) :=
  PS.imp (L2N.ps_raise ok.calm ok.tk (L2N.pmk_own F q gC kC r hg hdb)) fun D σ H ⟨P, ms, cs, sg, A, h⟩ =>
    h ms H σ (.ref (g.fa n)) none (.refl A.rel) A.sl ⟨rfl, .inl ⟨rfl, rfl⟩⟩
end

/-! ### within a suite -/
def aSeqL (f : EF) : AF := fun sg cs => (f sg cs).bind fun v c => match v with
  | .lst xs => .ok xs c
  | _ => .stuck
def strsOf : List PV → Option (List Str)
  | [] => some []
  | .str s :: r => (strsOf r).map (s :: ·)
  | _ => none
def pJoin (x y : PV) : Option PV := match x, y with
  | .str z, .lst xs => (strsOf xs).bind fun ys => if (ys.map (·.length)).sum + ys.length * z.length ≤ 16777216 then some (.str (Txt.join z ys)) else none
  | _, _ => none
def eJoin (a b : EF) : EF := fun sg cs => (a sg cs).bind fun x c1 => match x with
  | .str z => (b sg c1).bind fun y c2 => .lift (pJoin (.str z) y) c2
  | _ => .stuck
section
variable {g : Gx} {X : Cx} {W : WX} {k : Nat} {H : Hp} {N : Addr → Prop} {e l o tg : Expr} {fe fl : EF} {pos apos cpos : Pos} {is : List Nat}
theorem strsOf_eq : ∀ {xs : List PV} {ns : List Str}, strsOf xs = some ns → xs = ns.map PV.str
  | [], ns, e => by simp only [strsOf] at e; cases e; rfl
  | .str i :: r, ns, e => by
    simp only [strsOf, Option.map_eq_some_iff] at e
    obtain ⟨m, e1, rfl⟩ := e
    simp [← strsOf_eq e1]
  | .non :: _, _, e | .bl _ :: _, _, e | .int _ :: _, _, e | .tup _ :: _, _, e | .lst _ :: _, _, e | .adr _ :: _, _, e | .ty _ :: _, _, e | .dK _ :: _, _, e | .scr _ :: _, _, e => by simp only [strsOf] at e; cases e
theorem reps_strs : ∀ {ns : List Str} {vs : List V}, Reps g H N (ns.map PV.str) vs → vs = ns.map V.str
  | [], vs, h => by simpa [Reps] using h
  | n :: ns, vs, h => by
    simp only [List.map_cons, Reps, Rep] at h
    obtain ⟨v, r, rfl, rfl, h2⟩ := h
    rw [reps_strs h2]; rfl
theorem si_listH (hK : X.K = g.K) (he : SE g X W l fl) : PIH X tg l (rdI g (aSeqL fl) W) := by
  have h0 := pi_listH (tg := tg) he
  refine ⟨fun pins s σ H R I ⟨P, ms, cs, sg, A, h⟩ => h0.run pins s σ H R I ?_⟩
  refine ⟨P, ms, cs, sg, A, ?_⟩
  unfold aSeqL at h
  revert h
  cases fl sg cs with
  | stuck => exact fun h => h
  | exc e c => exact fun h => h
  | ok v c =>
    cases v with
    | lst xs =>
      intro h ms' H' vv B q
      have q : Rep g H' (Exl P ms' c) (.lst xs) vv := q
      simp only [Rep] at q
      obtain ⟨a, vs, rfl, h1, h2, h3⟩ := q
      exact ⟨a, rfl, ⟨vs, .of h1⟩, h ms' H' _ B (walks_1 (k := .L) hK ⟨h1, h2⟩ h3)⟩
    | _ => exact fun h => h.elim
theorem sf_compH {elt iter : Expr} {ifs : List Expr} {scope : Scope} {own : List (Str × Nat)} {fi : AF} {ft : GF} {tt : TF} {te : EF} (hot : HotC X) (nd : X.N.Nodup) (hi : PIH X tg iter (rdI g fi W)) (bk : BlkOk X.N X.env.scope scope own) (hsub : ∀ i ∈ is, i ∈ own.map (·.2))
    (hg : ∃ t : TG, (∀ s H C cl fp, PG (X.blkH s H scope (compEnvC scope cl C X.env) fp) tg t) ∧ ∀ (P : Addr → Prop) (ms : List Addr) (cs : Cs) (sg sg' : Sg) (σ : L2.St) (H : Hp) (v : PV) (x : V) (Q : L2.St → Hp → Prop), At g P ms cs sg σ H → Rep g H (Exl P ms cs) v x → ft v sg = some sg' →
      (∀ σ', Slots g H P ms cs sg' σ' → Only is σ σ' → Q σ' H) → t x σ H Q)
    (ht : ∀ s H C cl fp, STs g (X.blkH s H scope (compEnvC scope cl C X.env) fp) W0 ifs tt) (he : ∀ s H C cl fp, SE g (X.blkH s H scope (compEnvC scope cl C X.env) fp) W0 elt te)
    (hs : ∀ x, foldedSetIterable iter X.env x = pure x := by intro _; rfl) : SFr g X W (.ListComp elt [⟨tg, iter, ifs, 0⟩] scope pos) (fComp fi ft tt te (own.map (·.2))) := by
  obtain ⟨t, g1, g2⟩ := hg
  exact (pe_lcH hot nd hi bk g1 ht he hs).imp fun σ H Q h => comp_read hsub g2 h
theorem sg_tupH {es : List Expr} {r : List PV → Sg → Option Sg} {n k : Nat} (hc : HotC X) (hK : X.K = g.K) (h : SGs g X es is r) (hn : (assignEach es X.env).length = n := by rfl) (hst : (assignEach es X.env).findIdx? (·.1) = none := by rfl) : SG g X (.Tuple es k pos) is (gT n r) := by
  obtain ⟨u, k1, k2⟩ := h
  refine ⟨_, pg_tupH hc k1 hn hst, fun P ms cs sg sg' σ H v y Q A rr e q => ?_⟩
  cases v with
  | tup xs =>
    simp only [gT] at e
    split at e
    · rename_i hl
      simp only [Rep] at rr
      obtain ⟨a, vs, e1, h1, h2⟩ := rr
      refine ⟨a, vs, e1, by rw [hK]; exact h1, by rw [← h2.length]; exact hl, ?_⟩
      exact k2 P ms cs sg sg' σ H xs vs Q A h2 e q
    · cases e
  | _ => cases e
theorem se_join (hK : X.K = g.K) (ho : SE g X W o fl) (he : SE g X W e fe)
    (hbase : attributeBase o "join" X.env (eval o X.env) = eval o X.env := by rfl)
    (hfew : ((backTo cpos (starEach [e] X.env)).all (fun x => !x.1) && (backToKw cpos (keywordEach [] X.env)).all (fun x => x.1.isSome)
      && decide ([e].length + ([] : List Keyword).length + (if ([] : List Keyword).isEmpty then 0 else 1) < 30)) = true := by rfl)
    (hline : (apos.endLine == cpos.line) = true := by rfl) (hs : starEach [e] X.env = (false, eval e X.env) :: starEach [] X.env := by rfl) (hplain : (backTo cpos (starEach [] X.env)).any (·.1) = false := by rfl) :
    SE g X W (.Call (.Attribute o "join" apos) [e] [] cpos) (eJoin fl fe) :=
  (pe_bm PySem.F.plainAttrs_str PySem.F.slot_str_join PySem.F.type_str_join mt_join ho (pa_cons he pa_nil hs) hbase hfew hline hs hplain).imp fun σ H Q ⟨P, ms, cs, sg, A, h⟩ => by
    refine ⟨P, ms, cs, sg, A, ?_⟩
    unfold eJoin at h
    revert h
    cases fl sg cs with
    | stuck => exact id
    | exc e c => exact fun h => h
    | ok v c1 =>
      cases v with
      | str z =>
        intro h ms1 H1 vv A1 q1
        have q1 : Rep g H1 (Exl P ms1 c1) (.str z) vv := q1
        simp only [Rep] at q1
        subst q1
        refine ⟨rfl, P, ms1, c1, sg, A.aft A1, ?_⟩
        simp only [Res.bind] at h
        revert h
        cases fe sg c1 with
        | stuck => exact id
        | exc e c => exact fun h ms2 H2 c d A2 q2 => h ms2 H2 c d (A1.trans A2 A.rel) q2
        | ok y c2 =>
          cases y with
          | lst xs =>
            intro h ms2 H2 ww A2 q2
            have q2 : Rep g H2 (Exl P ms2 c2) (.lst xs) ww := q2
            simp only [Rep] at q2
            obtain ⟨a, vs, rfl, h1, _, h2⟩ := q2
            dsimp only [pJoin] at h
            cases hy : strsOf xs with
            | none => rw [hy] at h; exact h.elim
            | some ys =>
              rw [hy] at h
              simp only [Option.bind_some] at h
              by_cases hz : (ys.map (·.length)).sum + ys.length * z.length ≤ 16777216
              · rw [if_pos hz] at h
                have := strsOf_eq hy
                subst this
                have := reps_strs h2
                subst this
                exact ⟨z, a, ys, rfl, rfl, .inl (.of h1), hz, h ms2 H2 _ (A1.trans A2 A.rel) rep_str⟩
              · rw [if_neg hz] at h; exact h.elim
          | _ => exact fun h => h.elim
      | _ => exact fun h => h.elim
end

/-! ### what the classes say -/
structure ClsT (g : Gx) (sub : Nat → Nat → Bool) (cl tst : List Nat) (reg : Nat) : Prop where
  exC : ∀ c ∈ cl, ExcC g.K (g.fa c)
  is_ : ∀ c ∈ cl, ∀ j ∈ tst, PySem.W.kitOne g.K (.ref (g.fa c)) (.ref (g.fa j)) = some (sub c j)
  exm : ∀ c ∈ cl, PySem.W.exmOne g.K (.ref (g.fa c)) (.ref (g.fa reg)) = some true
/-- the suite's own world: 0 is the exception, n + 1 the class n -/
def gS (g : Gx) (a : Addr) : Gx := ⟨g.K, fun n => match n with | 0 => a | n + 1 => g.fa n, g.T⟩
def bIsE (sub : Nat → Nat → Bool) (tst : List Nat) (c : Nat) : List PV → Option PV
  | [.adr 0, .adr (j + 1)] => if j ∈ tst then some (.bl (sub c j)) else none
  | _ => none
theorem cs_isE {g : Gx} {X : Cx} {sub : Nat → Nat → Bool} {cl tst : List Nat} {reg c : Nat} {a : Addr} {oe : Obj} {pn : List (Addr × Obj)} (C : ClsT g sub cl tst reg) (hK : X.K = g.K) (hc : c ∈ cl) (hz : L2.Zc (.ref (g.fa c)) none oe) (hf : ∃ vs, oe.data = .fields vs) :
    CallR (X.suite a ((a, oe) :: pn)) (.builtin "isinstance") (rC (gS g a) (bIsE sub tst c)) := by
  intro pins s σ H xs us Q I r ⟨P, ms, cs, ps, z, R, hx, hf', hq⟩
  unfold bIsE at hf'
  split at hf'
  · rename_i j
    split at hf'
    · rename_i hj
      cases hf'
      obtain ⟨v, w, rfl, h1, h2⟩ := repBs_two hx
      simp only [RepB, Rep, gS] at h1 h2
      subst h1 h2
      refine call_isE (D := g.fa c) (by rw [hK]; exact C.exC c hc) hz hf pins s σ H _ us Q I r ⟨.ref (g.fa j), .ref (g.fa j), sub c j, rfl, fun u hu => hu, by rw [hK]; exact C.is_ c hc j hj, hq _ _ (.refl R) rep_bl⟩
    · cases hf'
  · cases hf'

/-! ### the def that tells -/
/-- what the suite tells of class c: e's slot i among n -/
def tellOf (suite : Nat → BF) (n i c : Nat) : Option Str := match suite c ((List.replicate n (none : Option SV)).set i (some (.val (.adr 0)))) [] with
  | .rt (.str w) [] => some w
  | _ => none
def TTerr (g : Gx) (cl : List Nat) (tell : Nat → Option Str) : (XK → Hp → VK → Prop) → Hp → VK → Prop := fun tl H Q =>
  tl (fun cls d H' => ∃ c w, cls = .ref (g.fa c) ∧ d = none ∧ c ∈ cl ∧ tell c = some w ∧ Tabs g.T H' ∧ ∀ H'', ExtN H' H'' → (∀ b, H' b ≠ none → H'' b ≠ none) → Tabs g.T H'' → Q (.str w) H'') H (fun _ H' => Q (.str "none") H')
theorem gives_err {g : Gx} {X : Cx} {sub : Nat → Nat → Bool} {cl tst : List Nat} {reg : Nat} {suite : Nat → BF} {Ng : List Str} {x a e q none_ : Str} {RE : Str} {sg : Scope} {gf : Addr} {cdg : Value} {i jn n : Nat} {b₀ : Stmt} {bs : List Stmt} {p1 p2 p3 p4 p5 p6 p7 p8 : Pos}
    (C : ClsT g sub cl tst reg) (hK : X.K = g.K) (hn : Ng.length = n) (nd : Ng.Nodup) (hi : Ng[i]? = some e) (hle : sg.names.lookup e = some .local) (hge : sg.names.lookup RE = some .globalImplicit) (hme : X.mg RE = some (.ref (g.fa reg))) (hde : (RE == ("__debug__" : Str)) = false)
    (hnone : none_ = "none") (h0 : ∀ f : Addr, (L2.start Ng [V.ref f])[0]? = some (some (V.ref f)))
    (hsuite : ∀ c ∈ cl, ∀ (s : Shared) (H : Hp) (ad : Addr) (oe : Obj) (pn : List (Addr × Obj)), HotC ((cxOf C8.CX0 X.prog X.w X.K X.mg X.base Ng x sg gf cdg X.A X.stack s H C8.E0).nox.suite ad ((ad, oe) :: pn)) →
      CallR ((cxOf C8.CX0 X.prog X.w X.K X.mg X.base Ng x sg gf cdg X.A X.stack s H C8.E0).nox.suite ad ((ad, oe) :: pn)) (.builtin "isinstance") (rC (gS g ad) (bIsE sub tst c)) → SB (gS g ad) ((cxOf C8.CX0 X.prog X.w X.K X.mg X.base Ng x sg gf cdg X.A X.stack s H C8.E0).nox.suite ad ((ad, oe) :: pn)) W0 (b₀ :: bs) (suite c)) :
    GivesToN X Ng x sg gf cdg [.Try [.Expr (.Call (.Name a p1) [] [] p2) p3] [.ExceptHandler (some (.Name RE p4)) (some e) (b₀ :: bs) p5] [] [] p6, .Return (some (.Constant (.str none_) jn p7)) p8] a q (TTerr g cl (tellOf suite n i)) := by
  intro f c' s H Q tl act hc' h
  subst hnone
  have hgl : Gl (cxOf C8.CX0 X.prog X.w X.K X.mg X.base Ng x sg gf cdg X.A X.stack s H C8.E0).nox RE := hge
  have hi' : i < Ng.length := (List.getElem?_eq_some_iff.mp hi).1
  refine ⟨_, pss_cons (L2N.ps_try_as (X := (cxOf C8.CX0 X.prog X.w X.K X.mg X.base Ng x sg gf cdg X.A X.stack s H C8.E0).nox) (c := .ref (g.fa reg)) (i := i) (Wout := fun _ _ _ _ => False)
      (tb := fun W D σ H => ∃ Ech : XK, (∀ cls d σ' H', Ech cls d H' → W cls d σ' H') ∧ σ[0]? = some (some (.ref f)) ∧ H c' = some (CodeO c' q) ∧ tl Ech H (fun _ H1 => D.nx σ H1))
      (ts := fun ad cls d D σ H => ∃ c w σ0, cls = .ref (g.fa c) ∧ d = none ∧ c ∈ cl ∧ tellOf suite n i c = some w ∧ Tabs g.T H ∧ σ = List.set σ0 i (some (.ref ad)) ∧ ∀ H'', ExtN H H'' → (∀ b, H b ≠ none → H'' b ≠ none) → Tabs g.T H'' → D.rt (.str w) H'')
      rfl rfl nd hi hle ⟨hgl, hde, .inl hme⟩ takesN0 (fun W pn xe tk _ => ?_) (fun ad oe cls d pn hz hf => ?_)) (pss_one (ps_ret pe_str)), ?_⟩
  · refine ⟨fun pins s' σ H' D I h' => ?_⟩
    obtain ⟨Ech, hW, h1, h2, h3⟩ := h'
    have hp := act W pn xe Ech p1 p2 tk hW
    have hq := pss_one (ps_expr (pos := p3) hp)
    exact hq.run pins s' σ H' D I ⟨h1, h2, h3⟩
  · refine ⟨fun pins s' σ H' D I h' => ?_⟩
    obtain ⟨c, w, σ0, rfl, rfl, hcl, htell, hT, hσ, k⟩ := h'
    have hz' : L2.Zc (.ref (g.fa c)) none oe := L2N.Zn.zc hz
    have hot : HotC ((cxOf C8.CX0 X.prog X.w X.K X.mg X.base Ng x sg gf cdg X.A X.stack s H C8.E0).nox.suite ad ((ad, oe) :: pn)) := by
      obtain ⟨vs, hv⟩ := hf
      exact ⟨(ad, oe), ⟨rfl, vs, hv, hz.2.2 vs hv⟩, List.mem_cons_self⟩
    have key := hsuite c hcl s H ad oe pn hot (cs_isE C hK hcl hz' hf)
    have hlen : σ.length = Ng.length := I.len
    have hl0 : σ0.length = n := by rw [← hn, ← hlen, hσ, List.length_set]
    have hR : Rel (gS g ad) H' (fun _ => False) [] [] := ⟨rfl, fun i j a h => (by simp at h), fun i a c h => (by simp at h), fun a h => h.elim, fun i a h => (by simp at h), fun i a h => (by simp at h), hT⟩
    refine key.run pins s' σ H' D I ⟨fun _ => False, [], [], (List.replicate n (none : Option SV)).set i (some (.val (.adr 0))), ⟨hR, ⟨by simp [hlen, hn], fun j t e => ?_⟩⟩, ?_⟩
    · rw [List.getElem?_set] at e
      split at e
      · rename_i hij
        subst hij
        split at e
        · cases e
          refine ⟨.ref ad, ?_, ?_⟩
          · rw [hσ, List.getElem?_set_self (by rw [hl0, ← hn]; exact hi')]
          · show Rep (gS g ad) H' (Exl (fun _ => False) [] []) (.adr 0) (.ref ad)
            simp only [Rep, gS]
        · cases e
      · rw [List.getElem?_replicate] at e
        split at e <;> cases e
    · unfold tellOf at htell
      split at htell
      · rename_i w' hs
        cases htell
        rw [hs]
        intro ms' H'' vv A q
        have q : Rep (gS g ad) H'' (Exl (fun _ => False) ms' []) (.str w) vv := q
        simp only [Rep] at q
        subst q
        refine k H'' (fun b o e nt => A.frame b o e (fun ⟨i, c, h1, _⟩ => by simp at h1) nt) A.there A.rel.tabs
      · cases htell
  · refine ⟨fun cls d H' => ∃ c w, cls = .ref (g.fa c) ∧ d = none ∧ c ∈ cl ∧ tellOf suite n i c = some w ∧ Tabs g.T H' ∧ ∀ H'', ExtN H' H'' → (∀ b, H' b ≠ none → H'' b ≠ none) → Tabs g.T H'' → Q (.str w) H'', ?_, h0 f, hc', h⟩
    rintro cls d σ' H' ⟨c, w, rfl, rfl, hcl, ht, hT, k⟩
    refine ⟨true, by rw [show (cxOf C8.CX0 X.prog X.w X.K X.mg X.base Ng x sg gf cdg X.A X.stack s H C8.E0).nox.K = g.K from hK]; exact C.exm c hcl, fun _ ad _ => ⟨c, w, σ', rfl, rfl, hcl, ht, hT, rfl, k⟩, fun z => by cases z⟩

/-! ### the call -/
def eErr (cl : List Nat) (tell : Nat → Option Str) (fb : EF) : EF := fun sg cs => match fb sg cs with
  | .ok _ cs' => .ok (.str "none") cs'
  | .exc e cs' => (match e.fs with
    | [] => if e.c ∈ cl then (match tell e.c with
      | some w => .ok (.str w) cs'
      | none => .stuck) else .stuck
    | _ => .stuck)
  | .stuck => .stuck
section
variable {g : Gx} {X : Cx} {W : WX} {k : Nat}
theorem Aft.extN {P : Addr → Prop} {ms : List Addr} {cs : Cs} {H H1 : Hp} (R : Rel g H P ms cs) (E : ExtN H H1) (th : ∀ b, H b ≠ none → H1 b ≠ none) (T : Tabs g.T H1) : Aft g P ms cs H P ms cs H1 := by
  have c : Car H (Exl P ms cs) H1 (Exl P ms cs) := ⟨fun b vs h => h.imp (fun h => E b _ h (fun ps z => by cases z)) (fun ⟨o, h⟩ => ⟨o, E b _ h (fun ps z => by cases z)⟩), fun b o h _ ht => E b o h ht, fun _ _ h => h, th⟩
  refine ⟨fun _ _ h => h, fun _ h => h, Nat.le_refl _, fun i a h hl => (by rw [List.getElem?_eq_none hl] at h; cases h), fun b o h _ ht => E b o h ht, th, fun _ h => .inl h, ⟨R.len, R.inj, fun i a k h1 h2 => ?_, fun a h => th a (R.priv a h), fun i a h => th a (R.msin i a h), R.apart, T⟩⟩
  have hk := R.cells i a k h1 h2
  cases k with
  | lst xs => obtain ⟨us, e1, e2⟩ := hk; exact ⟨us, E _ _ e1 (fun ps z => by cases z), Reps.mono c _ _ e2⟩
  | dK xs => obtain ⟨us, e1, e2⟩ := hk; exact ⟨us, E _ _ e1 (fun ps z => by cases z), RepK.mono c _ _ e2⟩
  | dead => trivial
theorem rdE_err {cl : List Nat} {tell : Nat → Option Str} {fb : EF} {σ : L2.St} {H : Hp} {Q : VK} (h : rdE g (eErr cl tell fb) W σ H Q) : tLamN g.T (TTerr g cl tell) (fun E => rdE g fb (fun cls d _ H => E cls d H)) σ H Q := by
  obtain ⟨P, ms, cs, sg, A, h⟩ := h
  refine ⟨A.rel.tabs, fun H1 e1 T1 => ?_⟩
  have A1 := Aft.extN A.rel e1.1 e1.2 T1
  refine ⟨P, ms, cs, sg, A.aft A1, ?_⟩
  unfold eErr at h
  revert h
  cases fb sg cs with
  | stuck => exact fun h => h
  | ok v c => exact fun h ms' H' vv B q => h ms' H' (.str "none") (A1.trans B A.rel) rep_str
  | exc e c =>
    intro h ms' H' cc d B q
    dsimp only at h
    split at h
    · rename_i hfs
      split at h
      · rename_i hcl
        split at h
        · rename_i w hw
          obtain ⟨rfl, q⟩ := q
          have hd : d = none := by
            rcases q with ⟨_, q⟩ | ⟨dd, fs, q, _⟩
            · exact q
            · exact absurd hfs q
          exact ⟨e.c, w, rfl, hd, hcl, hw, B.rel.tabs, fun H'' e2 th T2 => h ms' H'' _ ((A1.trans B A.rel).trans (Aft.extN B.rel e2 th T2) A.rel) rep_str⟩
        · exact h.elim
      · exact h.elim
    · exact h.elim
end
end Ev

set_option Elab.async false
set_option linter.all false
set_option maxRecDepth 100000
set_option maxHeartbeats 4000000
/-! Ev: calls without arguments, calls of what a variable holds, names of defs as values. -/
namespace Ev
open PySem PySem.Spec PyProof.Rows L2

/-- what is known of the def of the number n -/
structure DefE (g : Gx) (Pr : Program) (w : World) (mg : Str → Option Value) (base : Heap) (k n ar : Nat) (F : FF) : Prop where
  ex : ∃ fd ps, FnOk Pr w g.K mg base (L2N.CX Pr w) k (g.fa n) fd ps (spEv g ar F) ∧ Binds g.K fd ps []
  keep : PySem.W.keepIn g.K (.ref (g.fa n)) = true
def lookF : List (Nat × FF) → Nat → Option FF
  | [], _ => none
  | (m, F) :: r, n => if m = n then some F else lookF r n
def eCV (i : Nat) (tab : List (Nat × FF)) (as : SF) : EF := fun sg cs => match sg[i]? with
  | some (some (.val (.adr n))) => (match lookF tab n with
    | some F => (as sg cs).bind fun xs cs1 => F xs cs1
    | none => .stuck)
  | _ => .stuck
section
variable {g : Gx} {X : Cx} {W : WX} {k : Nat} {e : Expr} {es : List Expr} {fs : SF} {pos p : Pos} {x : Str}
theorem se_fnD {j n ar : Nat} {F : FF} (ok : Ok g X W k) (D : DefE g X.prog X.w X.mg X.base j n ar F) (hj : j ≤ k) (hg : Gl X x) (hm : X.mg x = some (.ref (g.fa n))) (ha : SSA g X W (e :: es) fs) (hz : ∀ sg cs xs cs', fs sg cs = .ok xs cs' → xs.length = ar)
    (hdb : (x == ("__debug__" : Str)) = false := by decide) (he : starEach (e :: es) X.env = (false, eval e X.env) :: starEach es X.env := by rfl) (hpl : (backTo pos (starEach es X.env)).any (·.1) = false := by rfl) :
    SE g X W (.Call (.Name x p) (e :: es) [] pos) (eFn F fs) := by
  obtain ⟨fd, ps, G, hb⟩ := D.ex
  have hK := ok.K
  exact se_fn (by rw [hK]; exact G) ok.tk (ok.room.mono hj) hg hm (by rw [hK]; exact D.keep) (by rw [hK]; exact hb) ha hz hdb he hpl
theorem se_fn0 {j n : Nat} {F : FF} (ok : Ok g X W k) (D : DefE g X.prog X.w X.mg X.base j n 0 F) (hj : j ≤ k) (hg : Gl X x) (hm : X.mg x = some (.ref (g.fa n)))
    (hdb : (x == ("__debug__" : Str)) = false := by decide) :
    SE g X W (.Call (.Name x p) [] [] pos) (eFn F zNil) := by
  obtain ⟨fd, ps, G, hb⟩ := D.ex
  have hK := ok.K
  refine ⟨fun pins s σ H Q I h => ?_⟩
  have h' := rdE_fn (fs := zNil) (n := 0) (fun sg cs xs cs' e => by cases e; rfl) h
  refine wpAny_Call_Name_kw (ld_glob I hg hm ?_ hdb)
  refine PySem.W.callWith_K0 (K := X.K) I.kIn (by rw [hK]; exact D.keep) ?_
  exact run_fnS (us := []) (by rw [hK]; exact G) (ok.room.mono hj) (by rw [hK]; exact hb) (L2N.passAt ok.tk σ) I .nil (by
    obtain ⟨P, ms, cs, sg, A, q⟩ := h'
    exact q ms H [] (.refl A.rel) (by simp only [RepSs]))
theorem se_cv {i ar : Nat} {tab : List (Nat × FF)} (ok : Ok g X W k) (D : ∀ n F, lookF tab n = some F → ∃ j, j ≤ k ∧ DefE g X.prog X.w X.mg X.base j n ar F) (hN : X.N[i]? = some x) (hv : Vis X.env.scope x) (ha : SSA g X W (e :: es) fs) (hz : ∀ sg cs xs cs', fs sg cs = .ok xs cs' → xs.length = ar)
    (hdb : (x == ("__debug__" : Str)) = false := by decide) (hcd : (x == ("__classdict__" : Str)) = false := by decide) (he : starEach (e :: es) X.env = (false, eval e X.env) :: starEach es X.env := by rfl) (hpl : (backTo pos (starEach es X.env)).any (·.1) = false := by rfl) :
    SE g X W (.Call (.Name x p) (e :: es) [] pos) (eCV i tab fs) := by
  refine ⟨fun pins s σ H Q I ⟨P, ms, cs, sg, A, h⟩ => ?_⟩
  unfold eCV at h
  split at h
  · rename_i n hs
    split at h
    · rename_i F hF
      obtain ⟨j, hj, DD⟩ := D n F hF
      obtain ⟨fd, ps, G, hb⟩ := DD.ex
      have hK := ok.K
      obtain ⟨y, e1, e2⟩ := A.sl.at_ _ _ hs
      have e2 : Rep g H (Exl P ms cs) (.adr n) y := e2
      simp only [Rep] at e2
      subst e2
      have h' := rdE_fn (fs := fs) (n := ar) hz ⟨P, ms, cs, sg, A, h⟩
      refine wpAny_Call_Name_kw (thn ((pe_var (pos := p) hN hv hdb hcd).run pins s σ H (fun v H1 => v = .ref (g.fa n) ∧ H1 = H) I ⟨.ref (g.fa n), e1, rfl, rfl⟩) fun u s1 ⟨v, H1, I1, r1, q1⟩ => ?_)
      obtain ⟨rfl, rfl⟩ := q1
      cases r1
      refine PySem.W.callWith_K (h₀ := X.base) I.ok.mod.kin (by rw [hK]; exact DD.keep) (thn (ha.run pos pins s1 σ _ _ I1 h') fun us s2 ⟨vs, H2, I2, r, q⟩ => ⟨I2.kIn, ?_⟩) he hpl
      exact run_fnS (by rw [hK]; exact G) (ok.room.mono hj) (by rw [hK]; exact hb) (L2N.passAt ok.tk σ) I2 r q
    · exact h.elim
  · exact h.elim
/-- a def, a class by name -/
theorem se_def {n : Nat} (hg : Gl X x) (hm : X.mg x = some (.ref (g.fa n))) (hd : (x == ("__debug__" : Str)) = false := by decide) : SE g X W (.Name x pos) (eC (.adr n)) :=
  se_glob (v := .adr n) (vv := .ref (g.fa n)) hg hm rfl (fun _ _ => by simp only [Rep]) hd
/-- a number of the module -/
theorem se_gint {i : Int} {t : Tok} (hg : Gl X x) (hm : X.mg x = some (.int i t)) (hd : (x == ("__debug__" : Str)) = false := by decide) : SE g X W (.Name x pos) (eC (.int i)) :=
  se_glob (v := .int i) (vv := .int i) hg hm ⟨t, rfl⟩ (fun _ _ => by simp only [Rep]) hd
end
end Ev

set_option Elab.async false
set_option linter.all false
set_option maxRecDepth 100000
set_option maxHeartbeats 4000000
/-! Ev: defs that return a new list; a tuple times a number. -/
namespace Ev
open PySem PySem.Spec PyProof.Rows L2

abbrev FFL := List SV → Cs → Res (List PV)
def PostDF (g : Gx) (P : Addr → Prop) (ms : List Addr) (cs : Cs) (H : Hp) (r : Res (List PV)) (Q : VK) (E : XK) : Prop :=
  match r with
  | .ok xs cs' => ∀ H' p vs, H p = none → Aft g P ms cs H (pls P p) ms cs' H' → H' p = some (.lst vs) → Reps g H' (Exl (pls P p) ms cs') xs vs → Q (.ref p) H'
  | .exc e cs' => ∀ H' c d, Aft g P ms cs H P ms cs' H' → ExR g H' (Exl P ms cs') e c d → E c d H'
  | .stuck => False
def spEvF (g : Gx) (n : Nat) (F : FFL) : Sp := fun vs H Q E => ∃ P ms cs xs, Rel g H P ms cs ∧ RepSs g H (Exl P ms cs) ms xs vs ∧ vs.length = n ∧ PostDF g P ms cs H (F xs cs) Q E
def fnEvF (n m : Nat) (b : BF) : FFL := fun xs cs => match b (xs.map some ++ List.replicate (m - n) none) cs with
  | .rtF v cs' => .ok v (cs'.take cs.length)
  | .exc e _ cs' => .exc e (cs'.take cs.length)
  | _ => .stuck
section
variable {g : Gx} {P P' : Addr → Prop} {ms ms1 : List Addr} {cs cs1 : Cs} {H H1 : Hp}
theorem Aft.backP (A : Aft g P ms cs H P' ms1 cs1 H1) (R : Rel g H P ms cs) : Aft g P ms cs H P' ms (cs1.take cs.length) H1 := by
  have hlen : cs.length ≤ cs1.length := A.le
  have tk : ∀ {i c}, (cs1.take cs.length)[i]? = some c → cs1[i]? = some c := fun {i c} h => by
    rw [List.getElem?_take] at h
    split at h
    · exact h
    · cases h
  have less : ∀ b, Exl P' ms (cs1.take cs.length) b → Exl P' ms1 cs1 b := fun b hb => hb.imp id (fun ⟨i, c, h1, h2, h3⟩ => ⟨i, c, A.pre i b h1, tk h2, h3⟩)
  refine ⟨fun _ _ h => h, fun i h => ?_, by simp; omega, fun i a h hl => (by rw [List.getElem?_eq_none hl] at h; cases h), A.frame, A.there, A.pri,
    ⟨by rw [List.length_take, R.len]; omega, R.inj, fun i a c h1 h2 => (A.rel.cells i a c (A.pre i a h1) (tk h2)).less less, A.rel.priv, fun i a h => A.there a (R.msin i a h), fun i a h => A.rel.apart i a (A.pre i a h), A.rel.tabs⟩⟩
  have hi : i < cs.length := (List.getElem?_eq_some_iff.mp h).1
  rw [List.getElem?_take_of_lt hi]
  exact A.dead i h
theorem exl_backP (A : Aft g P ms cs H P' ms1 cs1 H1) : ∀ b, Exl P' ms (cs1.take cs.length) b → Exl P' ms1 cs1 b := fun b hb => hb.imp id (fun ⟨i, c, h1, h2, h3⟩ => ⟨i, c, A.pre i b h1, (by
    rw [List.getElem?_take] at h2
    split at h2
    · exact h2
    · cases h2), h3⟩)
end
theorem fn_evF {g : Gx} {Pr : Program} {w : World} {mg : Str → Option Value} {base : Heap} {x qual : Str} {params : Arguments} {body : List Stmt} {scope : Scope} {dvs : List V} {kws : List (Str × V)} {f : Addr} {fd : FuncData} {N ps : List Str} {k n m : Nat} {b : BF}
    (F : FunD g.K x qual params body scope dvs kws f fd) (S : FnScope N ps scope) (hn : ps.length = n) (hm : N.length = m)
    (hb : ∀ (X : Cx) (W : WX), Ok g X W k → InDef X Pr w mg base N scope qual → SB g X W body b) :
    FnOk Pr w g.K mg base (L2N.CX Pr w) (k + 1) f fd ps (spEvF g n (fnEvF n m b)) := by
  have hnm : n ≤ m := by
    have := congrArg List.length S.pre
    rw [List.length_take] at this
    omega
  obtain ⟨oc, od, dV, kV, doc, pm, an, cdv, ct, osl, rfl, lk, hcd, _, _⟩ := F.ex
  refine fn_of lk hcd S (fun vs H Q E ⟨P, ms, cs, xs, _, _, h, _⟩ => h.trans hn.symm) fun A outer s H vs Q E hr h => ?_
  obtain ⟨P, ms, cs, xs, R, hx, hl, hp⟩ := h
  have tk : L2N.Takes (cxOf (L2N.CX Pr w) Pr w g.K mg base N qual scope f cdv A outer s H E) (fun cls d _ H => E cls d H) := L2N.takes_of rfl rfl rfl rfl
  have ok : Ok g (cxOf (L2N.CX Pr w) Pr w g.K mg base N qual scope f cdv A outer s H E) (fun cls d _ H => E cls d H) k := ⟨rfl, rfl, S.nd, tk, hr⟩
  refine ⟨_, hb _ _ ok ⟨rfl, rfl, rfl, rfl, rfl, rfl, rfl, rfl, hcd, passes_of rfl, rfl, rfl, rfl⟩, P, ms, cs, _, ⟨R, Slots.start (m := m) hx hm (by omega)⟩, ?_⟩
  rw [hl]
  unfold fnEvF at hp
  revert hp
  cases b (xs.map some ++ List.replicate (m - n) none) cs with
  | nx s c => exact fun hp => hp.elim
  | rt v c => exact fun hp => hp.elim
  | rtF v c => exact fun hp ms' H' p vs hq B h1 h2 => hp H' p vs hq (B.backP R) h1 (h2.less (exl_backP B))
  | exc e s c => exact fun hp ms' H' σ' c' d B q1 q2 => hp H' c' d (B.back R) (q2.less (exl_back B))
  | bk s c => exact fun hp => hp.elim
  | ct s c => exact fun hp => hp.elim
  | stuck => exact fun hp => hp
/-- the def of the number n gives a new list -/
structure DefF (g : Gx) (Pr : Program) (w : World) (mg : Str → Option Value) (base : Heap) (k n ar : Nat) (F : FFL) : Prop where
  ex : ∃ fd ps, FnOk Pr w g.K mg base (L2N.CX Pr w) k (g.fa n) fd ps (spEvF g ar F) ∧ Binds g.K fd ps []
  keep : PySem.W.keepIn g.K (.ref (g.fa n)) = true
def fFn (F : FFL) (as : SF) : AF := fun sg cs => (as sg cs).bind fun xs cs1 => F xs cs1
section
variable {g : Gx} {X : Cx} {W : WX} {k : Nat} {e : Expr} {es : List Expr} {fs : SF} {pos p : Pos} {x : Str}
theorem rdF_fn {n : Nat} {F : FFL} {σ : L2.St} {H : Hp} {Q : VK} (hz : ∀ sg cs xs cs', fs sg cs = .ok xs cs' → xs.length = n) (h : rdF g (fFn F fs) W σ H Q) : tCallS (spEvF g n F) (WE W) (rdSA g fs W) σ H Q := by
  obtain ⟨P, ms, cs, sg, A, h⟩ := h
  refine ⟨P, ms, cs, sg, A, ?_⟩
  unfold fFn at h
  have hz' := hz sg cs
  revert h hz'
  cases fs sg cs with
  | stuck => exact fun h _ => h
  | exc e cs' => exact fun h _ => h
  | ok v cs1 =>
    intro h hz' ms1 H1 vv A1 q1
    refine ⟨P, ms1, cs1, v, A1.rel, q1, by rw [← q1.length]; exact hz' v cs1 rfl, ?_⟩
    simp only [Res.bind] at h
    revert h
    cases F v cs1 with
    | stuck => exact id
    | exc e cs2 => exact fun h H2 c d A2 q2 => h ms1 H2 c d (A1.trans A2 A.rel) q2
    | ok w cs2 => exact fun h H2 p vs hp A2 q1 q2 => h ms1 H2 p vs (none_back A1 hp) (A1.trans A2 A.rel) q1 q2
theorem sf_fnD {j n ar : Nat} {F : FFL} (ok : Ok g X W k) (D : DefF g X.prog X.w X.mg X.base j n ar F) (hj : j ≤ k) (hg : Gl X x) (hm : X.mg x = some (.ref (g.fa n))) (ha : SSA g X W (e :: es) fs) (hz : ∀ sg cs xs cs', fs sg cs = .ok xs cs' → xs.length = ar)
    (hdb : (x == ("__debug__" : Str)) = false := by decide) (he : starEach (e :: es) X.env = (false, eval e X.env) :: starEach es X.env := by rfl) (hpl : (backTo pos (starEach es X.env)).any (·.1) = false := by rfl) :
    SFr g X W (.Call (.Name x p) (e :: es) [] pos) (fFn F fs) := by
  obtain ⟨fd, ps, G, hb⟩ := D.ex
  have hK := ok.K
  exact (pe_callS (by rw [hK]; exact G) (ok.room.mono hj) hg hm (by rw [hK]; exact D.keep) (by rw [hK]; exact hb) (fun σ => L2N.passAt ok.tk σ) ha hdb he hpl).imp fun _ _ _ h => rdF_fn hz h
end
/-! ### a tuple times a number -/
def pMulA (x y : PV) : Option PV := match x, y with
  | .tup a, .int k => if a ≠ [] ∧ 2 ≤ k ∧ k ≤ 1000 ∧ a.length ≤ 1000 then some (.tup (List.replicate k.toNat a).flatten) else none
  | x, y => pMul x y
theorem os_mulA {g : Gx} {X : Cx} (hK : X.K = g.K) : OpR X (binaryOp .Mult) (r2 g pMulA) := by
  intro pins s σ H vx vy v u Q I rx ry ⟨P, ms, cs, x, y, z, R, hx, hy, hf, hq⟩
  by_cases h : ∃ a k, x = .tup a ∧ y = .int k
  · obtain ⟨a, k, rfl, rfl⟩ := h
    simp only [pMulA] at hf
    split at hf
    · rename_i c
      cases hf
      simp only [RepB, Rep] at hx hy
      subst hy
      obtain ⟨l, vs, rfl, h1, h2⟩ := hx
      have hl := h2.length
      refine op_repT pins s σ H _ _ v u Q I rx ry ⟨l, k, vs, rfl, rfl, by rw [hK]; exact h1, ?_, c.2.1, c.2.2.1, (by rw [← hl]; exact c.2.2.2), fun p hp => hq _ _ (.new_ hp R) (rep_tup R (reps_rep h2 _) hp)⟩
      intro e
      subst e
      exact c.1 (List.eq_nil_of_length_eq_zero hl)
    · cases hf
  · have e : pMulA x y = pMul x y := by
      cases x <;> cases y <;> first | rfl | exact absurd ⟨_, _, rfl, rfl⟩ h
    rw [e] at hf
    exact os_mul pins s σ H vx vy v u Q I rx ry ⟨P, ms, cs, x, y, z, R, hx, hy, hf, hq⟩
end Ev

set_option Elab.async false
set_option linter.all false
set_option maxRecDepth 100000
set_option maxHeartbeats 4000000
/-! Ev: defs of the text, with the context written out; a comprehension assigned on one line. -/
namespace Ev
open PySem PySem.Spec PyProof.Rows L2 LamX

def visB (sc : Scope) (x : Str) : Bool := match sc.names.lookup x with
  | some .local => true | some .cell => true | some .free => true | _ => false
theorem vis_by {sc : Scope} {x : Str} (h : visB sc x = true) : Vis sc x := by
  unfold visB at h
  unfold Vis
  split at h
  · rename_i e; exact .inl e
  · rename_i e; exact .inr (.inl e)
  · rename_i e; exact .inr (.inr e)
  · cases h
def locB (sc : Scope) (x : Str) : Bool := match sc.names.lookup x with
  | some .local => true | some .cell => true | _ => false
theorem loc_by {sc : Scope} {x : Str} (h : locB sc x = true) : L2.Loc sc x := by
  unfold locB at h
  unfold L2.Loc
  split at h
  · rename_i e; exact .inl e
  · rename_i e; exact .inr e
  · cases h
/-- where the code object of a def with lambdas stands -/
def LamAt (g : Gx) (mg : Str → Option Value) (base : Heap) (cdv : Value) (q : Str) : Prop := ∃ c P, cdv = .ref c ∧ TabB base mg c P ∧ (P, q) ∈ g.T ∧ ∀ p ∈ g.T, p.1 = P → p.2 = q
abbrev cD (g : Gx) (Pr : Program) (w : World) (mg : Str → Option Value) (base : Heap) (N : List Str) (qual : Str) (scope : Scope) (f : Addr) (cdv : Value) (A : Around) (outer : List Env) (s : Shared) (H : Hp) (E : XK) : Cx := cxOf (L2N.CX Pr w) Pr w g.K mg base N qual scope f cdv A outer s H E
abbrev wD (E : XK) : WX := fun cls d _ H => E cls d H
section
variable {g : Gx} {Pr : Program} {w : World} {mg : Str → Option Value} {base : Heap} {x qual : Str} {params : Arguments} {body : List Stmt} {scope : Scope} {dvs : List V} {kws : List (Str × V)} {f : Addr} {fd : FuncData} {N ps : List Str} {k n m : Nat} {b : BF}
theorem fn_evX (F : FunD g.K x qual params body scope dvs kws f fd) (S : FnScope N ps scope) (hn : ps.length = n) (hm : N.length = m)
    (hb : ∀ (cdv : Value) (A : Around) (outer : List Env) (s : Shared) (H : Hp) (E : XK), (∃ oc od osl, g.K.lookup f = some ⟨oc, od, .func fd, osl⟩ ∧ fd.code = cdv) → Ok g (cD g Pr w mg base N qual scope f cdv A outer s H E) (wD E) k → SB g (cD g Pr w mg base N qual scope f cdv A outer s H E) (wD E) body b) :
    FnOk Pr w g.K mg base (L2N.CX Pr w) (k + 1) f fd ps (spEv g n (fnEv n m b)) := by
  have hnm : n ≤ m := by
    have := congrArg List.length S.pre
    rw [List.length_take] at this
    omega
  obtain ⟨oc, od, dV, kV, doc, pm, an, cdv, ct, osl, rfl, lk, hcd, _, _⟩ := F.ex
  refine fn_of lk hcd S (fun vs H Q E ⟨P, ms, cs, xs, _, _, h, _⟩ => h.trans hn.symm) fun A outer s H vs Q E hr h => ?_
  obtain ⟨P, ms, cs, xs, R, hx, hl, hp⟩ := h
  have tk : L2N.Takes (cD g Pr w mg base N qual scope f cdv A outer s H E) (wD E) := L2N.takes_of rfl rfl rfl rfl
  have ok : Ok g (cD g Pr w mg base N qual scope f cdv A outer s H E) (wD E) k := ⟨rfl, rfl, S.nd, tk, hr⟩
  refine ⟨_, hb cdv A outer s H E ⟨oc, od, osl, lk, rfl⟩ ok, P, ms, cs, _, ⟨R, Slots.start (m := m) hx hm (by omega)⟩, ?_⟩
  rw [hl]
  unfold fnEv at hp
  revert hp
  cases b (xs.map some ++ List.replicate (m - n) none) cs with
  | nx s c => exact fun hp ms' H' σ' B q => hp H' .non (B.back R) (by simp only [Rep])
  | rt v c => exact fun hp ms' H' vv B q => hp H' vv (B.back R) (q.less (exl_back B))
  | exc e s c => exact fun hp ms' H' σ' c' d B q1 q2 => hp H' c' d (B.back R) (q2.less (exl_back B))
  | bk s c => exact fun hp => False.elim hp
  | ct s c => exact fun hp => False.elim hp
  | rtF s c => exact fun hp => hp.elim
  | stuck => exact fun hp => hp
theorem fn_evFX (F : FunD g.K x qual params body scope dvs kws f fd) (S : FnScope N ps scope) (hn : ps.length = n) (hm : N.length = m)
    (hb : ∀ (cdv : Value) (A : Around) (outer : List Env) (s : Shared) (H : Hp) (E : XK), (∃ oc od osl, g.K.lookup f = some ⟨oc, od, .func fd, osl⟩ ∧ fd.code = cdv) → Ok g (cD g Pr w mg base N qual scope f cdv A outer s H E) (wD E) k → SB g (cD g Pr w mg base N qual scope f cdv A outer s H E) (wD E) body b) :
    FnOk Pr w g.K mg base (L2N.CX Pr w) (k + 1) f fd ps (spEvF g n (fnEvF n m b)) := by
  have hnm : n ≤ m := by
    have := congrArg List.length S.pre
    rw [List.length_take] at this
    omega
  obtain ⟨oc, od, dV, kV, doc, pm, an, cdv, ct, osl, rfl, lk, hcd, _, _⟩ := F.ex
  refine fn_of lk hcd S (fun vs H Q E ⟨P, ms, cs, xs, _, _, h, _⟩ => h.trans hn.symm) fun A outer s H vs Q E hr h => ?_
  obtain ⟨P, ms, cs, xs, R, hx, hl, hp⟩ := h
  have tk : L2N.Takes (cD g Pr w mg base N qual scope f cdv A outer s H E) (wD E) := L2N.takes_of rfl rfl rfl rfl
  have ok : Ok g (cD g Pr w mg base N qual scope f cdv A outer s H E) (wD E) k := ⟨rfl, rfl, S.nd, tk, hr⟩
  refine ⟨_, hb cdv A outer s H E ⟨oc, od, osl, lk, rfl⟩ ok, P, ms, cs, _, ⟨R, Slots.start (m := m) hx hm (by omega)⟩, ?_⟩
  rw [hl]
  unfold fnEvF at hp
  revert hp
  cases b (xs.map some ++ List.replicate (m - n) none) cs with
  | nx s c => exact fun hp => hp.elim
  | rt v c => exact fun hp => hp.elim
  | rtF v c => exact fun hp ms' H' p vs hq B h1 h2 => hp H' p vs hq (B.backP R) h1 (h2.less (exl_backP B))
  | exc e s c => exact fun hp ms' H' σ' c' d B q1 q2 => hp H' c' d (B.back R) (q2.less (exl_back B))
  | bk s c => exact fun hp => hp.elim
  | ct s c => exact fun hp => hp.elim
  | stuck => exact fun hp => hp
end
/-! ### name = [..] on one line -/
section
variable {g : Gx} {X : Cx} {W : WX} {k : Nat} {pos spos py : Pos} {is : List Nat}
theorem set_read {i : Nat} {fe : EF} {D : Ends} {σ : L2.St} {H : Hp} (h : rdS g (sSet i fe) W D σ H) : tAsg (rdE g fe W) (gName i) D σ H := by
  obtain ⟨P, ms, cs, sg, A, h⟩ := h
  refine ⟨P, ms, cs, sg, A, ?_⟩
  unfold sSet at h
  revert h
  cases fe sg cs with
  | ok v c => exact fun h ms' H' vv B q => h ms' H' _ B ((A.sl.aft A.rel B).set q)
  | exc e c => exact fun h ms' H' c' d B q => h ms' H' σ c' d B (A.sl.aft A.rel B) q
  | stuck => exact fun h => h
theorem fr_read {f : AF} {σ : L2.St} {H : Hp} {Q : VK} (h : rdE g (eFr f) W σ H Q) : rdF g f W σ H Q := by
  obtain ⟨P, ms, cs, sg, A, h⟩ := h
  exact ⟨P, ms, cs, sg, A, PostF.toE A.rel h⟩
theorem cell_read {i : Nat} {f : AF} {D : Ends} {σ : L2.St} {H : Hp} (h : rdS g (sCell i f) W D σ H) : tAsg (rdF g f W) (gName i) D σ H := by
  obtain ⟨P, ms, cs, sg, A, h⟩ := h
  refine ⟨P, ms, cs, sg, A, ?_⟩
  unfold sCell at h
  revert h
  cases f sg cs with
  | ok v c =>
    intro h ms' H' p vs hp B hl hr
    have B' := Aft.cell A.rel hp B hl hr
    refine h _ H' _ B' ((A.sl.aft A.rel B').set ?_)
    exact ⟨p, by rw [← B.rel.len]; simp, rfl⟩
  | exc e c => exact fun h ms' H' c' d B q => h ms' H' σ c' d B (A.sl.aft A.rel B) q
  | stuck => exact fun h => h
variable {i : Nat} {y : Str} {elt tg iter : Expr} {ifs : List Expr} {scope : Scope} {own : List (Str × Nat)} {fi : AF} {fs : IV} {ft : GF} {tt : TF} {te : EF}
theorem ss_setLc (ok : Ok g X W k) (hy : X.N[i]? = some y) (hyl : X.env.scope.names.lookup y = some .local) (hsw : swapsWith (.ListComp elt [⟨tg, iter, ifs, 0⟩] scope pos) (some (.Name y py)) spos.line X.env = pure true)
    (hi : SI g X W tg iter fi) (bk : BlkOk X.N X.env.scope scope own) (hsub : ∀ i ∈ is, i ∈ own.map (·.2))
    (hg : ∃ t : TG, (∀ s H C cl fp, PG (Blk X scope s H C cl fp) tg t) ∧ ∀ (P : Addr → Prop) (ms : List Addr) (cs : Cs) (sg sg' : Sg) (σ : L2.St) (H : Hp) (v : PV) (x : V) (Q : L2.St → Hp → Prop), At g P ms cs sg σ H → Rep g H (Exl P ms cs) v x → ft v sg = some sg' →
      (∀ σ', Slots g H P ms cs sg' σ' → Only is σ σ' → Q σ' H) → t x σ H Q)
    (ht : ∀ s H C cl fp, Ok g (Blk X scope s H C cl fp) W0 k → STs g (Blk X scope s H C cl fp) W0 ifs tt) (he : ∀ s H C cl fp, Ok g (Blk X scope s H C cl fp) W0 k → SE g (Blk X scope s H C cl fp) W0 elt te)
    (hs : ∀ x, foldedSetIterable iter X.env x = pure x := by intro _; rfl) : SS g X W (.Assign [.Name y py] (.ListComp elt [⟨tg, iter, ifs, 0⟩] scope pos) spos) (sSet i (eFr (fComp fi ft tt te (own.map (·.2))))) := by
  obtain ⟨t, g1, g2⟩ := hg
  exact PS.imp (ps_setLc ok.calm ok.nd hy hyl hsw hi bk g1 (fun s H C cl fp => ht s H C cl fp (ok.blk ..)) (fun s H C cl fp => he s H C cl fp (ok.blk ..)) hs) fun D σ H h => comp_read hsub g2 (fr_read (set_read h))
theorem ss_setLcS (ok : Ok g X W k) (hy : X.N[i]? = some y) (hyl : X.env.scope.names.lookup y = some .local) (hsw : swapsWith (.ListComp elt [⟨tg, iter, ifs, 0⟩] scope pos) (some (.Name y py)) spos.line X.env = pure true)
    (hi : SIS g X W tg iter fs) (bk : BlkOk X.N X.env.scope scope own) (hsub : ∀ i ∈ is, i ∈ own.map (·.2))
    (hg : ∃ t : TG, (∀ s H C cl fp, PG (Blk X scope s H C cl fp) tg t) ∧ ∀ (P : Addr → Prop) (ms : List Addr) (cs : Cs) (sg sg' : Sg) (σ : L2.St) (H : Hp) (v : PV) (x : V) (Q : L2.St → Hp → Prop), At g P ms cs sg σ H → Rep g H (Exl P ms cs) v x → ft v sg = some sg' →
      (∀ σ', Slots g H P ms cs sg' σ' → Only is σ σ' → Q σ' H) → t x σ H Q)
    (ht : ∀ s H C cl fp, Ok g (Blk X scope s H C cl fp) W0 k → STs g (Blk X scope s H C cl fp) W0 ifs tt) (he : ∀ s H C cl fp, Ok g (Blk X scope s H C cl fp) W0 k → SE g (Blk X scope s H C cl fp) W0 elt te)
    (hs : ∀ x, foldedSetIterable iter X.env x = pure x := by intro _; rfl) : SS g X W (.Assign [.Name y py] (.ListComp elt [⟨tg, iter, ifs, 0⟩] scope pos) spos) (sSet i (eFr (fCompS fs ft tt te (own.map (·.2))))) := by
  obtain ⟨t, g1, g2⟩ := hg
  exact PS.imp (ps_setLc ok.calm ok.nd hy hyl hsw hi bk g1 (fun s H C cl fp => ht s H C cl fp (ok.blk ..)) (fun s H C cl fp => he s H C cl fp (ok.blk ..)) hs) fun D σ H h => comp_readS hsub g2 (fr_read (set_read h))
theorem ss_cellLc (ok : Ok g X W k) (hy : X.N[i]? = some y) (hyl : X.env.scope.names.lookup y = some .local) (hsw : swapsWith (.ListComp elt [⟨tg, iter, ifs, 0⟩] scope pos) (some (.Name y py)) spos.line X.env = pure true)
    (hi : SI g X W tg iter fi) (bk : BlkOk X.N X.env.scope scope own) (hsub : ∀ i ∈ is, i ∈ own.map (·.2))
    (hg : ∃ t : TG, (∀ s H C cl fp, PG (Blk X scope s H C cl fp) tg t) ∧ ∀ (P : Addr → Prop) (ms : List Addr) (cs : Cs) (sg sg' : Sg) (σ : L2.St) (H : Hp) (v : PV) (x : V) (Q : L2.St → Hp → Prop), At g P ms cs sg σ H → Rep g H (Exl P ms cs) v x → ft v sg = some sg' →
      (∀ σ', Slots g H P ms cs sg' σ' → Only is σ σ' → Q σ' H) → t x σ H Q)
    (ht : ∀ s H C cl fp, Ok g (Blk X scope s H C cl fp) W0 k → STs g (Blk X scope s H C cl fp) W0 ifs tt) (he : ∀ s H C cl fp, Ok g (Blk X scope s H C cl fp) W0 k → SE g (Blk X scope s H C cl fp) W0 elt te)
    (hs : ∀ x, foldedSetIterable iter X.env x = pure x := by intro _; rfl) : SS g X W (.Assign [.Name y py] (.ListComp elt [⟨tg, iter, ifs, 0⟩] scope pos) spos) (sCell i (fComp fi ft tt te (own.map (·.2)))) := by
  obtain ⟨t, g1, g2⟩ := hg
  exact PS.imp (ps_setLc ok.calm ok.nd hy hyl hsw hi bk g1 (fun s H C cl fp => ht s H C cl fp (ok.blk ..)) (fun s H C cl fp => he s H C cl fp (ok.blk ..)) hs) fun D σ H h => comp_read hsub g2 (cell_read h)
end
/-! ### a target told in every block of a comprehension -/
abbrev BkF := Shared → Hp → Addr → List (Str × Addr) → List Addr → Cx
abbrev HGB (g : Gx) (B : BkF) (tg : Expr) (is : List Nat) (f : GF) : Prop :=
  ∃ t : TG, (∀ s H C cl fp, PG (B s H C cl fp) tg t) ∧ ∀ (P : Addr → Prop) (ms : List Addr) (cs : Cs) (sg sg' : Sg) (σ : L2.St) (H : Hp) (v : PV) (x : V) (Q : L2.St → Hp → Prop), At g P ms cs sg σ H → Rep g H (Exl P ms cs) v x → f v sg = some sg' →
      (∀ σ', Slots g H P ms cs sg' σ' → Only is σ σ' → Q σ' H) → t x σ H Q
abbrev HGBs (g : Gx) (B : BkF) (tg : List Expr) (is : List Nat) (f : List PV → Sg → Option Sg) : Prop :=
  ∃ t : TGs, (∀ s H C cl fp, PGs (B s H C cl fp) tg t) ∧ ∀ (P : Addr → Prop) (ms : List Addr) (cs : Cs) (sg sg' : Sg) (σ : L2.St) (H : Hp) (v : List PV) (x : List V) (Q : L2.St → Hp → Prop), At g P ms cs sg σ H → Reps g H (Exl P ms cs) v x → f v sg = some sg' →
      (∀ σ', Slots g H P ms cs sg' σ' → Only is σ σ' → Q σ' H) → t x σ H Q
section
variable {g : Gx} {B : BkF} {pos : Pos} {e : Expr} {es : List Expr} {is js : List Nat}
theorem hg_name {x : Str} {j : Nat} (nd : ∀ s H C cl fp, (B s H C cl fp).N.Nodup) (hi : ∀ s H C cl fp, (B s H C cl fp).N[j]? = some x) (hl : ∀ s H C cl fp, L2.Loc (B s H C cl fp).env.scope x) (hf : ∀ s H C cl fp, (B s H C cl fp).fn x = true ∨ (B s H C cl fp).env.scope.names.lookup x = some .local) : HGB g B (.Name x pos) [j] (gN j) :=
  ⟨gName j, fun s H C cl fp => pg_name (nd ..) (hi ..) (hl ..) (hf ..), fun P ms cs sg sg' σ H v y Q A r e q => by
    cases e
    refine q _ (A.sl.set r) ⟨by simp, fun j' hj => ?_⟩
    rw [List.getElem?_set_ne (fun e => hj (by simp [e]))]⟩
theorem hgs_nil : HGBs g B [] [] gNil_ := ⟨gNil, fun _ _ _ _ _ => pgs_nil, fun P ms cs sg sg' σ H v y Q A r e q => by
    cases v with
    | nil => simp only [Reps] at r; cases e; exact ⟨r, q σ A.sl (.refl _ _)⟩
    | cons a b => cases e⟩
theorem hgs_cons {f : GF} {r : List PV → Sg → Option Sg} (h : HGB g B e is f) (k : HGBs g B es js r) (hs : ∀ s H C cl fp, (assignEach (e :: es) (B s H C cl fp).env).map (·.2) = assign e (B s H C cl fp).env :: (assignEach es (B s H C cl fp).env).map (·.2) := by intro _ _ _ _ _; rfl) : HGBs g B (e :: es) (is ++ js) (gCons_ f r) := by
  obtain ⟨t, h1, h2⟩ := h
  obtain ⟨u, k1, k2⟩ := k
  refine ⟨_, fun s H C cl fp => pgs_cons (h1 ..) (k1 ..) (hs ..), fun P ms cs sg sg' σ H v y Q A rr e q => ?_⟩
  cases v with
  | nil => cases e
  | cons a b =>
    simp only [Reps] at rr
    obtain ⟨w, ws, e1, r1, r2⟩ := rr
    refine ⟨w, ws, e1, ?_⟩
    simp only [gCons_] at e
    cases hf : f a sg with
    | none => rw [hf] at e; cases e
    | some sg1 =>
      rw [hf] at e
      refine h2 P ms cs sg sg1 σ H a w _ A r1 hf fun σ1 S1 O1 => ?_
      refine k2 P ms cs sg1 sg' σ1 H b ws Q ⟨A.rel, S1⟩ r2 e fun σ2 S2 O2 => q σ2 S2 ⟨O2.len.trans O1.len, fun j hj => ?_⟩
      simp only [List.mem_append, not_or] at hj
      rw [O2.at_ j hj.2, O1.at_ j hj.1]
theorem tup_go {K : PySem.W.Frag} {u : TGs} {r : List PV → Sg → Option Sg} {n : Nat} (hK : K = g.K) (k2 : ∀ (P : Addr → Prop) (ms : List Addr) (cs : Cs) (sg sg' : Sg) (σ : L2.St) (H : Hp) (v : List PV) (x : List V) (Q : L2.St → Hp → Prop), At g P ms cs sg σ H → Reps g H (Exl P ms cs) v x → r v sg = some sg' →
      (∀ σ', Slots g H P ms cs sg' σ' → Only is σ σ' → Q σ' H) → u x σ H Q) (P : Addr → Prop) (ms : List Addr) (cs : Cs) (sg sg' : Sg) (σ : L2.St) (H : Hp) (v : PV) (y : V) (Q : L2.St → Hp → Prop) (A : At g P ms cs sg σ H) (rr : Rep g H (Exl P ms cs) v y) (e : gT n r v sg = some sg')
      (q : ∀ σ', Slots g H P ms cs sg' σ' → Only is σ σ' → Q σ' H) : gTup K n u y σ H Q := by
  cases v with
  | tup xs =>
    simp only [gT] at e
    split at e
    · rename_i hl
      simp only [Rep] at rr
      obtain ⟨a, vs, e1, h1, h2⟩ := rr
      refine ⟨a, vs, e1, by rw [hK]; exact h1, by rw [← h2.length]; exact hl, ?_⟩
      exact k2 P ms cs sg sg' σ H xs vs Q A h2 e q
    · cases e
  | _ => cases e
theorem hg_tup {r : List PV → Sg → Option Sg} {n k : Nat} (hc : ∀ s H C cl fp, (B s H C cl fp).calm = true) (hK : ∀ s H C cl fp, (B s H C cl fp).K = g.K) (h : HGBs g B es is r)
    (hn : ∀ s H C cl fp, (assignEach es (B s H C cl fp).env).length = n := by intro _ _ _ _ _; rfl) (hst : ∀ s H C cl fp, (assignEach es (B s H C cl fp).env).findIdx? (·.1) = none := by intro _ _ _ _ _; rfl) : HGB g B (.Tuple es k pos) is (gT n r) := by
  obtain ⟨u, k1, k2⟩ := h
  refine ⟨gTup g.K n u, fun s H C cl fp => ?_, tup_go rfl k2⟩
  have := pg_tup (pos := pos) (k := k) (hc s H C cl fp) (k1 s H C cl fp) (hn ..) (hst ..)
  rw [hK] at this
  exact this
theorem hg_tupH {r : List PV → Sg → Option Sg} {n k : Nat} (hc : ∀ s H C cl fp, L2H.HotC (B s H C cl fp)) (hK : ∀ s H C cl fp, (B s H C cl fp).K = g.K) (h : HGBs g B es is r)
    (hn : ∀ s H C cl fp, (assignEach es (B s H C cl fp).env).length = n := by intro _ _ _ _ _; rfl) (hst : ∀ s H C cl fp, (assignEach es (B s H C cl fp).env).findIdx? (·.1) = none := by intro _ _ _ _ _; rfl) : HGB g B (.Tuple es k pos) is (gT n r) := by
  obtain ⟨u, k1, k2⟩ := h
  refine ⟨gTup g.K n u, fun s H C cl fp => ?_, tup_go rfl k2⟩
  have := pg_tupH (pos := pos) (k := k) (hc s H C cl fp) (k1 s H C cl fp) (hn ..) (hst ..)
  rw [hK] at this
  exact this
end
end Ev

set_option Elab.async false
set_option linter.all false
set_option maxRecDepth 100000
set_option maxHeartbeats 4000000
/-! Ev: what gen.py's texts lean on: raising by facts, the telling def called, names. -/
namespace Ev
open PySem PySem.Spec PyProof.Rows L2 LamX

/-- a class of errors below ValueError, as the head tells it -/
def ExcK (K : PySem.W.Frag) (C : Addr) : Prop := PySem.W.excIn K C He.veBase "ValueError.__new__" = true ∧ PySem.W.keepIn K (.ref C) = true ∧ PySem.W.subIn K (.ref C) (.type "BaseException") = some true ∧ PySem.W.typeIn K (.ref C) = some (.type "type")
section
variable {g : Gx} {X : Cx} {W : WX} {k kb : Nat} {pos pos' p p2 lpos : Pos} {x : Str}
theorem se_gi {i : Int} (hg : Gl X x) (hm : ∃ t, X.mg x = some (.int i t)) (hd : (x == ("__debug__" : Str)) = false := by decide) : SE g X W (.Name x pos) (eC (.int i)) := by
  obtain ⟨t, h⟩ := hm
  exact se_gint hg h hd
theorem se_lamErr {nE : Nat} {fd : FuncData} {pg params : Arguments} {bg : List Stmt} {sg scope : Scope} {Ng : List Str} {a : Str} {body : Expr} {cl : List Nat} {tell : Nat → Option Str} {fb : EF} (ok : Ok g X W k) (hk2 : kb + 2 ≤ k)
    (FE : FunD g.K x x pg bg sg [] [] (g.fa nE) fd) (Sg : FnScope Ng [a] sg) (hbnd : ∀ (kV doc pm : Value) (an : Option Addr) (cdv ct : Value) (us : List Value), us.length = [a].length → bindArgs (PySem.W.fnOf x x pg bg sg .none kV doc pm an cdv ct) ⟨us, []⟩ = pure ([a].zip us))
    (hg : Gl X x) (hm : X.mg x = some (.ref (g.fa nE))) (hva : Vis sg a) (hNg : Ng[0]? = some a)
    (hG : ∀ cdv, GivesToN X Ng x sg (g.fa nE) cdv bg a (X.env.qual ++ "<lambda>") (TTerr g cl tell)) (LA : LamAt g X.mg X.base X.env.code (X.env.qual ++ "<lambda>")) (L : LamS X.env.scope scope) (hdef : defaultsOf params X.env = ([], []))
    (hbind : ∀ (q : Str) (cl : List (Str × Addr)) (pm cv ctv : Value), bindArgs (PySem.W.kla_fn "<lambda>" q params body scope cl pm cv ctv) ⟨[], []⟩ = pure [])
    (hbody : ∀ (A : Around) (outer : List Env) (s : Shared) (H : Hp) (E : XK) (f c' : Addr), Ok g (lamCxN X A outer s H E scope f c') (wD E) kb → SE g (lamCxN X A outer s H E scope f c') (wD E) body fb)
    (hdb : (x == ("__debug__" : Str)) = false := by decide) (hd : (a == ("__debug__" : Str)) = false := by decide) (hcd : (a == ("__classdict__" : Str)) = false := by decide) :
    SE g X W (.Call (.Name x p) [.Lambda params body scope lpos] [] pos) (eErr cl tell fb) := by
  obtain ⟨c, P, hc, TB, hmT, hu⟩ := LA
  have kp := FE.kp
  have hb := FE.bindsN (ps := [a]) hbnd
  obtain ⟨oc, od, dV, kV, doc, pm, an, cdv, ct, osl, rfl, lk, hcg, _, _⟩ := FE.ex
  have hK := ok.K
  exact (pe_lamcallN (k := kb) (T := g.T) (t := fun E => rdE g fb (wD E)) hg hm (by rw [hK]; exact kp) (by rw [hK]; exact lk) (by rw [hK]; exact hcg) (by rw [hK]; exact hb) Sg hNg hva (hG cdv) TB hc hmT hu (ok.room.mono hk2) L hdef hbind
    (fun A outer s H E f c' hr => hbody A outer s H E f c' ⟨hK, rfl, ok.nd, L2N.takes_of rfl rfl rfl rfl, hr⟩) hdb hd hcd).imp fun σ H Q h => rdE_err h
theorem ss_raiseK {n j : Nat} {m : Str} (ok : Ok g X W k) (E : ExcK X.K (g.fa n)) (gC : X.mg x = some (.ref (g.fa n))) (hg : Gl X x)
    (hdb : (x == ("__debug__" : Str)) = false := by decide) : SS g X W (.Raise (some (.Call (.Name x p) [.Constant (.str m) j p2] [] pos)) none pos') (sRaise n) :=
  ss_raise ok PySem.F.excBase_ValueError E.1 gC E.2.1 (raises_own E.2.2.1 E.2.2.2) hg hdb
end
/-- the defs a variable may hold -/
def TabOk (g : Gx) (Pr : Program) (w : World) (mg : Str → Option Value) (base : Heap) (k ar : Nat) (tab : List (Nat × FF)) : Prop := ∀ n F, lookF tab n = some F → ∃ j, j ≤ k ∧ DefE g Pr w mg base j n ar F
theorem tabOk_nil {g : Gx} {Pr : Program} {w : World} {mg : Str → Option Value} {base : Heap} {k ar : Nat} : TabOk g Pr w mg base k ar [] := fun n F h => by cases h
theorem tabOk_cons {g : Gx} {Pr : Program} {w : World} {mg : Str → Option Value} {base : Heap} {k ar j m : Nat} {F : FF} {r : List (Nat × FF)} (D : DefE g Pr w mg base j m ar F) (hj : j ≤ k) (h : TabOk g Pr w mg base k ar r) : TabOk g Pr w mg base k ar ((m, F) :: r) := fun n G e => by
  unfold lookF at e
  split at e
  · rename_i hm
    subst hm
    cases e
    exact ⟨j, hj, D⟩
  · exact h n G e
/-- a def from the head's fact -/
theorem defE_of {g : Gx} {Pr : Program} {w : World} {mg : Str → Option Value} {base : Heap} {x qual : Str} {params : Arguments} {body : List Stmt} {scope : Scope} {N ps : List Str} {k n ar m : Nat} {b : BF} (FD : ∃ fd, FunD g.K x qual params body scope [] [] (g.fa n) fd) (S : FnScope N ps scope) (hn : ps.length = ar) (hm : N.length = m)
    (hbd : ∀ (kV doc pm : Value) (an : Option Addr) (cdv ct : Value) (us : List Value), us.length = ps.length → bindArgs (PySem.W.fnOf x qual params body scope .none kV doc pm an cdv ct) ⟨us, []⟩ = pure (ps.zip us))
    (hb : ∀ (cdv : Value) (A : Around) (outer : List Env) (s : Shared) (H : Hp) (E : XK), (∃ oc od fd osl, g.K.lookup (g.fa n) = some ⟨oc, od, .func fd, osl⟩ ∧ fd.code = cdv) → Ok g (cD g Pr w mg base N qual scope (g.fa n) cdv A outer s H E) (wD E) k → SB g (cD g Pr w mg base N qual scope (g.fa n) cdv A outer s H E) (wD E) body b) :
    DefE g Pr w mg base (k + 1) n ar (fnEv ar m b) := by
  obtain ⟨fd, F⟩ := FD
  exact ⟨⟨fd, ps, fn_evX F S hn hm fun cdv A outer s H E ⟨oc, od, osl, h1, h2⟩ ok => hb cdv A outer s H E ⟨oc, od, fd, osl, h1, h2⟩ ok, F.bindsN hbd⟩, F.kp⟩
theorem defF_of {g : Gx} {Pr : Program} {w : World} {mg : Str → Option Value} {base : Heap} {x qual : Str} {params : Arguments} {body : List Stmt} {scope : Scope} {N ps : List Str} {k n ar m : Nat} {b : BF} (FD : ∃ fd, FunD g.K x qual params body scope [] [] (g.fa n) fd) (S : FnScope N ps scope) (hn : ps.length = ar) (hm : N.length = m)
    (hbd : ∀ (kV doc pm : Value) (an : Option Addr) (cdv ct : Value) (us : List Value), us.length = ps.length → bindArgs (PySem.W.fnOf x qual params body scope .none kV doc pm an cdv ct) ⟨us, []⟩ = pure (ps.zip us))
    (hb : ∀ (cdv : Value) (A : Around) (outer : List Env) (s : Shared) (H : Hp) (E : XK), (∃ oc od fd osl, g.K.lookup (g.fa n) = some ⟨oc, od, .func fd, osl⟩ ∧ fd.code = cdv) → Ok g (cD g Pr w mg base N qual scope (g.fa n) cdv A outer s H E) (wD E) k → SB g (cD g Pr w mg base N qual scope (g.fa n) cdv A outer s H E) (wD E) body b) :
    DefF g Pr w mg base (k + 1) n ar (fnEvF ar m b) := by
  obtain ⟨fd, F⟩ := FD
  exact ⟨⟨fd, ps, fn_evFX F S hn hm fun cdv A outer s H E ⟨oc, od, osl, h1, h2⟩ ok => hb cdv A outer s H E ⟨oc, od, fd, osl, h1, h2⟩ ok, F.bindsN hbd⟩, F.kp⟩
/-- the lambda's def, from the fact of its code object -/
def LamFact (g : Gx) (mg : Str → Option Value) (base : Heap) (n : Nat) (q : Str) : Prop := ∀ oc od fd osl, g.K.lookup (g.fa n) = some ⟨oc, od, .func fd, osl⟩ → LamAt g mg base fd.code q
theorem LamFact.at {g : Gx} {mg : Str → Option Value} {base : Heap} {n : Nat} {q : Str} {cdv : Value} (h : LamFact g mg base n q) (e : ∃ oc od fd osl, g.K.lookup (g.fa n) = some ⟨oc, od, .func fd, osl⟩ ∧ fd.code = cdv) : LamAt g mg base cdv q := by
  obtain ⟨oc, od, fd, osl, h1, rfl⟩ := e
  exact h _ _ _ _ h1
def ZL (n : Nat) (fs : SF) : Prop := ∀ sg cs xs cs', fs sg cs = .ok xs cs' → xs.length = n
theorem zl_nil : ZL 0 zNil := fun sg cs xs cs' e => by cases e; rfl
theorem zl_cons {n : Nat} {f : EV} {r : SF} (h : ZL n r) : ZL (n + 1) (zCons f r) := fun sg cs xs cs' e => by
  unfold zCons at e
  cases h1 : f sg cs with
  | stuck => rw [h1] at e; cases e
  | exc _ _ => rw [h1] at e; cases e
  | ok v c =>
    rw [h1] at e
    simp only [Res.bind] at e
    cases h2 : r sg c with
    | stuck => rw [h2] at e; cases e
    | exc _ _ => rw [h2] at e; cases e
    | ok w c2 => rw [h2] at e; cases e; simp [h _ _ _ _ h2]
theorem zl_val {n : Nat} {f : EF} {r : SF} (h : ZL n r) : ZL (n + 1) (zVal f r) := fun sg cs xs cs' e => by
  unfold zVal at e
  cases h1 : f sg cs with
  | stuck => rw [h1] at e; cases e
  | exc _ _ => rw [h1] at e; cases e
  | ok v c =>
    rw [h1] at e
    simp only [Res.bind] at e
    cases h2 : r sg c with
    | stuck => rw [h2] at e; cases e
    | exc _ _ => rw [h2] at e; cases e
    | ok w c2 => rw [h2] at e; cases e; simp [h _ _ _ _ h2]
theorem bt_len : bootBuiltins "len" = some (.builtin "len") := by decide +kernel
theorem bt_all : bootBuiltins "all" = some (.builtin "all") := by decide +kernel
theorem bt_any : bootBuiltins "any" = some (.builtin "any") := by decide +kernel
theorem bt_sum : bootBuiltins "sum" = some (.builtin "sum") := by decide +kernel
theorem bt_max : bootBuiltins "max" = some (.builtin "max") := by decide +kernel
theorem bt_min : bootBuiltins "min" = some (.builtin "min") := by decide +kernel
theorem bt_abs : bootBuiltins "abs" = some (.builtin "abs") := by decide +kernel
theorem bt_isinstance : bootBuiltins "isinstance" = some (.builtin "isinstance") := by decide +kernel
theorem bt_int : bootBuiltins "int" = some (.type "int") := by decide +kernel
theorem bt_bool : bootBuiltins "bool" = some (.type "bool") := by decide +kernel
theorem bt_str : bootBuiltins "str" = some (.type "str") := by decide +kernel
theorem bt_tuple : bootBuiltins "tuple" = some (.type "tuple") := by decide +kernel
theorem bt_list : bootBuiltins "list" = some (.type "list") := by decide +kernel
theorem bt_dict : bootBuiltins "dict" = some (.type "dict") := by decide +kernel
end Ev

set_option Elab.async false
set_option linter.all false
set_option maxRecDepth 100000
set_option maxHeartbeats 4000000
/-! Ev: xs.index(y). -/
namespace Ev
open PySem PySem.Spec PyProof.Rows L2

def pIndex (x y : PV) : Option PV := match x with
  | .lst xs => (match y.toD, PV.toDs xs with
    | some d, some ds => if shp d && shp (.list ds) then (ds.findIdx? fun z => PyData.eqv z d).map fun j => .int (j : Nat) else none
    | _, _ => none)
  | _ => none
def eIndex (o : EV) (e : EF) : EF := fun sg cs => (o sg cs).bind fun s c1 => match derefS c1 s with
  | some (.lst _) => (e sg c1).bind fun y c2 => match derefS c2 s with
    | some p => .lift (pIndex p y) c2
    | none => .stuck
  | _ => .stuck
section
variable {g : Gx} {X : Cx} {W : WX} {k : Nat} {e o : Expr} {fe : EF} {fo : EV} {apos cpos : Pos}
theorem se_index (ok : Ok g X W k) (ho : SVj g X W o fo) (he : SE g X W e fe)
    (hbase : attributeBase o "index" X.env (eval o X.env) = eval o X.env := by rfl)
    (hfew : ((backTo cpos (starEach [e] X.env)).all (fun x => !x.1) && (backToKw cpos (keywordEach [] X.env)).all (fun x => x.1.isSome)
      && decide ([e].length + ([] : List Keyword).length + (if ([] : List Keyword).isEmpty then 0 else 1) < 30)) = true := by rfl)
    (hline : (apos.endLine == cpos.line) = true := by rfl) (hs : starEach [e] X.env = (false, eval e X.env) :: starEach [] X.env := by rfl) (hplain : (backTo cpos (starEach [] X.env)).any (·.1) = false := by rfl) :
    SE g X W (.Call (.Attribute o "index" apos) [e] [] cpos) (eIndex fo fe) :=
  (pe_bm PySem.F.plainAttrs_list PySem.F.slot_list_index PySem.F.type_list_index (mt_indexD ok.hu65) ho (pa_cons he pa_nil hs) hbase hfew hline hs hplain).imp fun σ H Q ⟨P, ms, cs, sg, A, h⟩ => by
    refine ⟨P, ms, cs, sg, A, ?_⟩
    unfold eIndex at h
    revert h
    cases fo sg cs with
    | stuck => exact id
    | exc e c => exact fun h => h
    | ok s c1 =>
      intro h ms1 H1 vv A1 q1
      simp only [Res.bind] at h
      split at h
      · rename_i xs0 hd0
        have b1 := (rpV1_S q1).deref A1.rel hd0
        simp only [RepB] at b1
        obtain ⟨a, vs0, rfl, h1, _⟩ := b1
        refine ⟨.inl ⟨rfl, vs0, .of h1⟩, P, ms1, c1, sg, A.aft A1, ?_⟩
        revert h
        cases fe sg c1 with
        | stuck => exact id
        | exc e c => exact fun h ms2 H2 c d A2 q2 => h ms2 H2 c d (A1.trans A2 A.rel) q2
        | ok y c2 =>
          intro h ms2 H2 ww A2 q2
          dsimp only at h
          split at h
          · rename_i p hp
            have b2 := ((rpV1_S q1).aft A1.rel A2).deref A2.rel hp
            cases p with
            | lst xs =>
              simp only [pIndex] at h
              split at h
              · rename_i d ds hd hds
                by_cases hsh : (shp d && shp (.list ds)) = true
                · rw [if_pos hsh] at h
                  rw [Bool.and_eq_true] at hsh
                  cases hj : ds.findIdx? fun z => PyData.eqv z d with
                  | none => rw [hj] at h; exact h.elim
                  | some j =>
                    rw [hj] at h
                    have b2' := b2
                    have q2' : RepB g H2 (Exl P ms2 c2) y ww := Rep.toB q2
                    obtain ⟨l1, l2⟩ := PV.dpB ok.K (.lst xs) (.list ds) _ (by simp only [PV.toD, hds, Option.map_some]) b2
                    obtain ⟨d1, d2⟩ := PV.dpB ok.K y d _ hd q2'
                    have hlt := List.findIdx?_eq_some_iff_getElem.mp hj
                    obtain ⟨hl, hz, hno⟩ := hlt
                    refine ⟨a, ww, d, ds, j, ds[j], rfl, rfl, l1, d1, shaped_of l2 hsh.2, shaped_of d2 hsh.1, List.getElem?_eq_getElem hl, hz, fun m z' hm e => ?_, h ms2 H2 _ (A1.trans A2 A.rel) rep_int⟩
                    have := hno m hm
                    have hml : m < ds.length := by omega
                    rw [List.getElem?_eq_getElem hml] at e
                    cases e
                    simpa using this
                · rw [if_neg hsh] at h; exact h.elim
              · exact h.elim
            | _ => exact h.elim
          · exact h.elim
      · exact h.elim
end
end Ev

set_option Elab.async false
set_option linter.all false
set_option maxRecDepth 100000
set_option maxHeartbeats 4000000
/-! Ev: from the head's facts to the defs' promises; the law's end. -/
namespace Ev
open PySem PySem.Spec PyProof.Rows L2 LamX

/-- what is fixed, from the written part: the names by number, the defs with lambdas -/
def ggOf (nm : Nat → Str) (tf : List He.Defn) (K : PySem.W.Frag) : Gx := ⟨K, fun n => He.ga K (nm n), tf.map fun p => ((He.cT K p).2, (p.1 ++ ".<locals>.") ++ "<lambda>")⟩
theorem nodup_at {α β : Type} {f : α → β} : ∀ {l : List α}, (l.map f).Nodup → ∀ {a b : α}, a ∈ l → b ∈ l → f a = f b → a = b
  | [], _, _, _, h, _, _ => by cases h
  | x :: r, nd, a, b, ha, hb, e => by
    rw [List.map_cons, List.nodup_cons] at nd
    rcases List.mem_cons.mp ha with h1 | h1 <;> rcases List.mem_cons.mp hb with h2 | h2
    · rw [h1, h2]
    · exact absurd (List.mem_map.mpr ⟨b, h2, by rw [← e, h1]⟩) nd.1
    · exact absurd (List.mem_map.mpr ⟨a, h1, by rw [e, h2]⟩) nd.1
    · exact nodup_at nd.2 h1 h2 e
theorem lamFact_of {nm : Nat → Str} {tf : List He.Defn} {K : PySem.W.Frag} {mg : Str → Option Value} {base : Heap} {n : Nat} {x : Str} {params : Arguments} {body : List Stmt} {scope : Scope} (hn : nm n = x) (FD : ∃ fd, FunD K x x params body scope [] [] (He.ga K x) fd) (hp : (x, none) ∈ tf)
    (nd : (tf.map fun p => (He.cT K p).2).Nodup) (TB : ∀ p ∈ tf.map (He.cT K), TabB base mg p.1 p.2) : LamFact (ggOf nm tf K) mg base n ((x ++ ".<locals>.") ++ "<lambda>") := by
  intro oc od fd osl lk
  obtain ⟨fd0, F⟩ := FD
  obtain ⟨oc0, od0, dV, kV, doc, pm, an, cdv, ct, osl0, rfl, lk0, hcd, _, _⟩ := F.ex
  have lk' : K.lookup (He.ga K x) = some ⟨oc, od, .func fd, osl⟩ := by rw [← hn]; exact lk
  rw [lk0] at lk'
  cases lk'
  obtain ⟨c, e⟩ := He.codeIn_ref hcd
  have ec : He.codeOf K (x, none) = c := He.codeOf_eq (p := (x, none)) lk0 e
  refine ⟨c, (He.cT K (x, none)).2, e, ?_, List.mem_map.mpr ⟨(x, none), hp, rfl⟩, fun p hq he => ?_⟩
  · have := TB (He.cT K (x, none)) (List.mem_map.mpr ⟨(x, none), hp, rfl⟩)
    have e1 : (He.cT K (x, none)).1 = c := ec
    rw [e1] at this
    exact this
  · obtain ⟨p0, h0, rfl⟩ := List.mem_map.mp hq
    have := nodup_at nd h0 hp he
    subst this
    rfl
/-- what the head tells of the classes of errors -/
def clsB (nm : Nat → Str) (sub : Nat → Nat → Bool) (cl tst : List Nat) (reg : Nat) (K : PySem.W.Frag) : Bool :=
  (cl.all fun c => decide (PySem.W.findIn K (.ref (He.ga K (nm c))) "__getattribute__" = some (some (.builtin "BaseException.__getattribute__"))) && (decide (PySem.W.findIn K (.ref (He.ga K (nm c))) "__getattr__" = some none) && (decide (PySem.W.subIn K (.ref (He.ga K (nm c))) (.type "BaseException") = some true) &&
    (PySem.W.hasDictIn K (He.ga K (nm c)) && (decide (PySem.W.findIn K (.ref (He.ga K (nm c))) "__class__" = some (some (.builtin "object.__class__"))) && (decide (PySem.W.mroIn K (He.ga K (nm c)) (.type "object") = some true) &&
    (decide (PySem.W.exmOne K (.ref (He.ga K (nm c))) (.ref (He.ga K (nm reg))) = some true) && tst.all fun j => decide (PySem.W.kitOne K (.ref (He.ga K (nm c))) (.ref (He.ga K (nm j))) = some (sub c j))))))))) &&
  (decide (PySem.W.specialIn K (.builtin "object.__class__") "__get__" = some (some (.builtin "getset_descriptor.__get__"))) && decide (PySem.W.takesIn K (.builtin "object.__class__") = some true))
theorem clsT_of {nm : Nat → Str} {tf : List He.Defn} {sub : Nat → Nat → Bool} {cl tst : List Nat} {reg : Nat} {K : PySem.W.Frag} (h : clsB nm sub cl tst reg K = true) : ClsT (ggOf nm tf K) sub cl tst reg := by
  unfold clsB at h
  simp only [Bool.and_eq_true, List.all_eq_true, decide_eq_true_eq] at h
  obtain ⟨h1, h2, h3⟩ := h
  exact ⟨fun c hc => let ⟨a, b, d, e, f, i, _, _⟩ := h1 c hc; ⟨a, b, d, e, f, h2, h3, i⟩, fun c hc j hj => (h1 c hc).2.2.2.2.2.2.2 j hj, fun c hc => (h1 c hc).2.2.2.2.2.2.1⟩
/-- the law's promise -/
theorem law_end {l : PySem.W.OpenLaw} {w : World} {nm : Nat → Str} {tf : List He.Defn} {K : PySem.W.Frag} {mg : Str → Option Value} {fa : Addr} {h : Heap} {k n : Nat} {params : Arguments} {body : List Stmt} {scope : Scope} {F : FF} {fd : FuncData} (KX : K.In h)
    (FD : FunD K "law" "law" params body scope [] [] fa fd) (hbd : ∀ (s : Shared) (u : Value), BindsTo s fd ⟨[u], []⟩ [("script", u)])
    (em : ∀ p ∈ tf, h.get? (He.cT K p).2 = some { cls := .none, data := .fields #[] }) (out : ∀ p ∈ tf, K.lookup (He.cT K p).2 = none) (hd : ∀ p ∈ tf, PySem.W.codeHdIn K (He.cT K p).1 (He.cT K p).2 = true)
    (hF : ∀ base : Heap, K.In base → base.Ns mainGlobals mg → (∀ p ∈ tf.map (He.cT K), TabB base mg p.1 p.2) → FnOk l.prog w K mg base (L2N.CX l.prog w) k fa fd ["script"] (spEv (ggOf nm tf K) 1 F))
    (hT : ∀ ns : List Int, ns.length ≤ n → (∀ z ∈ ns, Builtin.Int.intBits z ≤ 1048576) → ∃ cs, F [.val (.scr ns)] [] = .ok (.bl true) cs) : LawAtS l w K (L2N.CX l.prog w) k n "script" mg fa h := by
  refine ⟨fd, tf.map (He.cT K), spEv (ggOf nm tf K) 1 F, fun p hp => ?_, fun p hp => ?_, fun p hp => ?_, hbd, fun H a ns hl hb hH hS => ?_, hF⟩
  · obtain ⟨q, hq, rfl⟩ := List.mem_map.mp hp
    exact em q hq
  · obtain ⟨q, hq, rfl⟩ := List.mem_map.mp hp
    exact out q hq
  · obtain ⟨q, hq, rfl⟩ := List.mem_map.mp hp
    exact PySem.W.codeHd_of_K KX (hd q hq)
  · obtain ⟨cs, e⟩ := hT ns hl hb
    have tabs : Tabs (ggOf nm tf K).T H := fun p hp => by
      obtain ⟨q, hq, rfl⟩ := List.mem_map.mp hp
      exact TabS.nil (hH _ (List.mem_map.mpr ⟨q, hq, rfl⟩))
    refine ⟨fun _ => False, [], [], [.val (.scr ns)], ⟨rfl, fun i j a h => (by simp at h), fun i a c h => (by simp at h), fun a h => h.elim, fun i a h => (by simp at h), fun i a h => (by simp at h), tabs⟩, ?_, rfl, ?_⟩
    · simp only [RepSs, Rep]
      refine ⟨.ref a, [], rfl, ⟨a, rfl, ?_⟩, rfl⟩
      rcases hS with hS | hS
      · exact .inl ⟨hS, fun z => by
          rcases z with z | ⟨i, c, h1, _⟩
          · exact z
          · simp at h1⟩
      · exact .inr hS
    · rw [e]
      intro H' vv A r
      have r : Rep (ggOf nm tf K) H' (Exl (fun _ => False) [] cs) (.bl true) vv := r
      simp only [Rep] at r
      exact r
theorem noCX {P : Program} {w : World} {H : Hp} {s : Shared} {e : Value} {s' : Shared} (h : L2N.CX P w [] H s (fun _ _ _ => False) e s') : False := by
  obtain ⟨_, _, _, _, _, _, _, _, _, _, _, _, z⟩ := h
  exact z
/-! ### a Hook that looks at what is named alone -/
/-- the globals' dict, the named defs with their code objects, the named classes with what they name -/
def asY (xs : List Str) (g : Addr → Option Obj) : List Addr := mainGlobals :: match g mainGlobals with
  | some ⟨_, _, .dict es _, _⟩ => es.toList.flatMap fun e => match e.key with
    | .str x _ => (match xs.contains x with
      | true => (match e.val with
        | .ref a => a :: (match g a with
          | some ⟨_, _, .func fd, _⟩ => He.refV fd.code
          | some ⟨_, _, .cls cd, _⟩ => [cd.ns]
          | _ => [])
        | _ => [])
      | false => [])
    | _ => []
  | _ => []
def obsY (xs : List Str) (fa : List He.Fa) (fn : List He.DefD) (tf : List He.Defn) (ex : PySem.W.Frag → Bool) (g : Addr → Option Obj) : He.AlX := (He.obsT fa fn [] (He.frT g (asY xs g)), ex (He.frT g (asY xs g)) && He.tabsB g tf (He.frT g (asY xs g)))
theorem saysY_of {xs : List Str} {fa : List He.Fa} {fn : List He.DefD} {tf : List He.Defn} {ex : PySem.W.Frag → Bool} {w : World} {h : Heap} (e : obsY xs fa fn tf ex h.get? = He.valX fn [] w) : He.SaysX fa fn [] tf ex w h (He.frT h.get? (asY xs h.get?)) := by
  have e1 : He.obsT fa fn [] (He.frT h.get? (asY xs h.get?)) = He.valT fn [] w := congrArg (fun z : He.AlX => z.1) e
  have e2 : (ex (He.frT h.get? (asY xs h.get?)) && He.tabsB h.get? tf (He.frT h.get? (asY xs h.get?))) = true := congrArg (fun z : He.AlX => z.2) e
  obtain ⟨h1, h2⟩ := He.ba e2
  have key : ∀ p ∈ tf, PySem.W.codeHdIn (He.frT h.get? (asY xs h.get?)) (He.cT (He.frT h.get? (asY xs h.get?)) p).1 (He.cT (He.frT h.get? (asY xs h.get?)) p).2 = true ∧ ∃ o, h.get? (He.cT (He.frT h.get? (asY xs h.get?)) p).2 = some o ∧ He.emptyTab o = true := fun p hp => by
    obtain ⟨h3, h4⟩ := He.ba (List.all_eq_true.mp h2 p hp)
    refine ⟨h3, ?_⟩
    cases q : h.get? (He.cT (He.frT h.get? (asY xs h.get?)) p).2 with
    | none =>
      rw [q] at h4
      cases h4
    | some o =>
      rw [q] at h4
      exact ⟨o, rfl, h4⟩
  exact ⟨e1, h1, fun p hp => (key p hp).1, fun p hp => by
    obtain ⟨_, o, q, z⟩ := key p hp
    exact He.frT_none q z, fun p hp => by
    obtain ⟨_, o, q, z⟩ := key p hp
    rw [q, He.emptyTab_eq z]⟩
def hookY (xs : List Str) (fa : List He.Fa) (fn : List He.DefD) (tf : List He.Defn) (ex : PySem.W.Frag → Bool) : PySem.W.Hook where
  α := He.AlX
  obs := fun s => obsY xs fa fn tf ex s.heap.get?
  val := fun w => He.valX fn [] w
  says := fun w h => ∃ K : PySem.W.Frag, K.In h ∧ He.SaysX fa fn [] tf ex w h K
  of := fun _ _ e => ⟨_, He.frT_in, saysY_of e⟩
  keeps := fun _ _ _ ⟨K, hK, c⟩ k => ⟨K, PySem.W.Frag.In.keeps hK k, ⟨c.t, c.more, c.hd, c.out, fun p hp => k _ _ (c.empty p hp)⟩⟩
theorem obsY_eq {xs : List Str} {fa : List He.Fa} {fn : List He.DefD} {tf : List He.Defn} {ex : PySem.W.Frag → Bool} {g : Addr → Option Obj} {s : Shared} (h : ∀ a, g a = s.heap.get? a) : obsY xs fa fn tf ex g = (hookY xs fa fn tf ex).obs s := by
  have e : g = s.heap.get? := funext h
  rw [e] <;> rfl
end Ev

set_option Elab.async false
set_option linter.all false
set_option maxRecDepth 100000
set_option maxHeartbeats 40000000
namespace K54
open PySem PySem.Spec PyProof.Rows L2 L2H LamX Ev
/-! printed by gen.py from the text of law_k54_errors_of_sales -/
def top (i : Nat) : Stmt := PySem.Challenge.pw_soleholder_k54_errors_of_sales.main.body.getD i (.Pass ⟨0, 0, 0, 0⟩)
abbrev s__law_error : Stmt := top 110
abbrev s__law_odd_allotments : Stmt := top 113
abbrev s_ways_from : Stmt := top 33
abbrev s_let_in : Stmt := top 34
abbrev s_surplus_of : Stmt := top 32
abbrev s_holders_of : Stmt := top 35
abbrev s_names_by : Stmt := top 46
abbrev s_other_ways : Stmt := top 50
abbrev s_greatest_in : Stmt := top 51
abbrev s_is_whole : Stmt := top 13
abbrev s_need_bidder : Stmt := top 26
abbrev s_is_tuple_of : Stmt := top 15
abbrev s_is_row : Stmt := top 22
abbrev s_is_sale : Stmt := top 23
abbrev s_need_sale : Stmt := top 24
abbrev s_sale_without : Stmt := top 92
abbrev s_menu : Stmt := top 93
abbrev s_need_row : Stmt := top 91
abbrev s_options_by : Stmt := top 94
abbrev s_need_prices : Stmt := top 25
abbrev s_checked : Stmt := top 65
abbrev s_gain_in : Stmt := top 30
abbrev s_holders_by : Stmt := top 37
abbrev s_goes_in : Stmt := top 47
abbrev s_is_pair : Stmt := top 27
abbrev s_is_allotment : Stmt := top 28
abbrev s_need_allotment : Stmt := top 29
abbrev s_checked_pair : Stmt := top 85
abbrev s_takes_chains : Stmt := top 89
abbrev s_worth_of : Stmt := top 41
abbrev s_worth_in : Stmt := top 36
abbrev s_is_competitive_in : Stmt := top 48
abbrev s_is_competitive : Stmt := top 67
abbrev s_overdemanded : Stmt := top 73
abbrev s_underdemanded : Stmt := top 74
abbrev s_loose : Stmt := top 75
abbrev s_takes_raises : Stmt := top 83
abbrev s_need_lots : Stmt := top 103
abbrev s_told_allotment : Stmt := top 105
abbrev s_with_bidder : Stmt := top 96
abbrev s_without_bidder : Stmt := top 98
abbrev s_need_whole : Stmt := top 14
abbrev s_without_name : Stmt := top 99
abbrev s_least_in : Stmt := top 49
abbrev s_risen : Stmt := top 100
abbrev s_gain_of : Stmt := top 39
abbrev s_demand_of : Stmt := top 40
abbrev s_goes_with : Stmt := top 66
abbrev s_need_set : Stmt := top 45
abbrev s_is_overdemanded : Stmt := top 70
abbrev s_is_underdemanded : Stmt := top 71
abbrev s_is_loose : Stmt := top 72
abbrev s_raised_by : Stmt := top 78
abbrev s_raised : Stmt := top 80
abbrev s_chain_paper : Stmt := top 87
abbrev s_with_name : Stmt := top 97
abbrev s_fallen : Stmt := top 101
abbrev s__law_bidders_right : Stmt := top 116
abbrev s__law_cup : Stmt := top 107
abbrev s__law_odd_sales : Stmt := top 111
abbrev s__law_odd_prices : Stmt := top 112
abbrev s__law_prices_right : Stmt := top 115
abbrev s__law_rows_right : Stmt := top 117
abbrev s_greatest_worth : Stmt := top 42
abbrev s_best_allotment : Stmt := top 43
abbrev s_least_prices : Stmt := top 68
abbrev s_greatest_prices : Stmt := top 69
abbrev s_raises : Stmt := top 81
abbrev s__law_sales_right : Stmt := top 114
abbrev s__law_roll : Stmt := top 108
abbrev s__law_some : Stmt := top 109
abbrev s_law : Stmt := top 118
def cl_ : List Nat := [1, 2, 3, 4, 5, 6, 7, 8, 9]
def tst_ : List Nat := [1, 2, 3, 4, 5, 6, 7, 8, 9, 10]
def sub_ (c j : Nat) : Bool := [(0, 0), (1, 0), (1, 1), (2, 0), (2, 2), (3, 0), (3, 3), (4, 0), (4, 4), (5, 0), (5, 5), (6, 0), (6, 6), (7, 0), (7, 7), (8, 0), (8, 8), (9, 0), (9, 9), (10, 0), (10, 10)].contains (c, j)
structure Zt (g : Gx) (mg : Str → Option Value) (base : Heap) : Prop where
  fr_abs : mg "abs" = none
  fr_all : mg "all" = none
  fr_bool : mg "bool" = none
  fr_enumerate : mg "enumerate" = none
  fr_int : mg "int" = none
  fr_isinstance : mg "isinstance" = none
  fr_len : mg "len" = none
  fr_list : mg "list" = none
  fr_max : mg "max" = none
  fr_range : mg "range" = none
  fr_set : mg "set" = none
  fr_sorted : mg "sorted" = none
  fr_str : mg "str" = none
  fr_sum : mg "sum" = none
  fr_tuple : mg "tuple" = none
  fr_zip : mg "zip" = none
  gl_InvalidAllotment : mg "InvalidAllotment" = some (.ref (g.fa 8))
  gl_InvalidBidder : mg "InvalidBidder" = some (.ref (g.fa 3))
  gl_InvalidBids : mg "InvalidBids" = some (.ref (g.fa 4))
  gl_InvalidLots : mg "InvalidLots" = some (.ref (g.fa 5))
  gl_InvalidNumber : mg "InvalidNumber" = some (.ref (g.fa 6))
  gl_InvalidPrices : mg "InvalidPrices" = some (.ref (g.fa 2))
  gl_InvalidSale : mg "InvalidSale" = some (.ref (g.fa 1))
  gl_InvalidSet : mg "InvalidSet" = some (.ref (g.fa 7))
  gl_NotPossible : mg "NotPossible" = some (.ref (g.fa 9))
  gl_RegistryError : mg "RegistryError" = some (.ref (g.fa 0))
  gl_TooMany : mg "TooMany" = some (.ref (g.fa 10))
  gl__law_bidders_right : mg "_law_bidders_right" = some (.ref (g.fa 100))
  gl__law_cup : mg "_law_cup" = some (.ref (g.fa 91))
  gl__law_error : mg "_law_error" = some (.ref (g.fa 94))
  gl__law_odd_allotments : mg "_law_odd_allotments" = some (.ref (g.fa 97))
  gl__law_odd_prices : mg "_law_odd_prices" = some (.ref (g.fa 96))
  gl__law_odd_sales : mg "_law_odd_sales" = some (.ref (g.fa 95))
  gl__law_prices_right : mg "_law_prices_right" = some (.ref (g.fa 99))
  gl__law_roll : mg "_law_roll" = some (.ref (g.fa 92))
  gl__law_rows_right : mg "_law_rows_right" = some (.ref (g.fa 101))
  gl__law_sales_right : mg "_law_sales_right" = some (.ref (g.fa 98))
  gl__law_some : mg "_law_some" = some (.ref (g.fa 93))
  gl_best_allotment : mg "best_allotment" = some (.ref (g.fa 35))
  gl_chain_paper : mg "chain_paper" = some (.ref (g.fa 75))
  gl_checked : mg "checked" = some (.ref (g.fa 56))
  gl_checked_pair : mg "checked_pair" = some (.ref (g.fa 73))
  gl_demand_of : mg "demand_of" = some (.ref (g.fa 32))
  gl_fallen : mg "fallen" = some (.ref (g.fa 87))
  gl_gain_in : mg "gain_in" = some (.ref (g.fa 22))
  gl_gain_of : mg "gain_of" = some (.ref (g.fa 31))
  gl_goes_in : mg "goes_in" = some (.ref (g.fa 38))
  gl_goes_with : mg "goes_with" = some (.ref (g.fa 57))
  gl_greatest_in : mg "greatest_in" = some (.ref (g.fa 42))
  gl_greatest_prices : mg "greatest_prices" = some (.ref (g.fa 60))
  gl_greatest_worth : mg "greatest_worth" = some (.ref (g.fa 34))
  gl_holders_by : mg "holders_by" = some (.ref (g.fa 29))
  gl_holders_of : mg "holders_of" = some (.ref (g.fa 27))
  gl_is_allotment : mg "is_allotment" = some (.ref (g.fa 20))
  gl_is_competitive : mg "is_competitive" = some (.ref (g.fa 58))
  gl_is_competitive_in : mg "is_competitive_in" = some (.ref (g.fa 39))
  gl_is_loose : mg "is_loose" = some (.ref (g.fa 63))
  gl_is_overdemanded : mg "is_overdemanded" = some (.ref (g.fa 61))
  gl_is_pair : mg "is_pair" = some (.ref (g.fa 19))
  gl_is_row : mg "is_row" = some (.ref (g.fa 14))
  gl_is_sale : mg "is_sale" = some (.ref (g.fa 15))
  gl_is_tuple_of : mg "is_tuple_of" = some (.ref (g.fa 13))
  gl_is_underdemanded : mg "is_underdemanded" = some (.ref (g.fa 62))
  gl_is_whole : mg "is_whole" = some (.ref (g.fa 11))
  gl_least_in : mg "least_in" = some (.ref (g.fa 40))
  gl_least_prices : mg "least_prices" = some (.ref (g.fa 59))
  gl_let_in : mg "let_in" = some (.ref (g.fa 26))
  gl_loose : mg "loose" = some (.ref (g.fa 66))
  gl_menu : mg "menu" = some (.ref (g.fa 80))
  gl_names_by : mg "names_by" = some (.ref (g.fa 37))
  gl_need_allotment : mg "need_allotment" = some (.ref (g.fa 21))
  gl_need_bidder : mg "need_bidder" = some (.ref (g.fa 18))
  gl_need_lots : mg "need_lots" = some (.ref (g.fa 88))
  gl_need_prices : mg "need_prices" = some (.ref (g.fa 17))
  gl_need_row : mg "need_row" = some (.ref (g.fa 78))
  gl_need_sale : mg "need_sale" = some (.ref (g.fa 16))
  gl_need_set : mg "need_set" = some (.ref (g.fa 36))
  gl_need_whole : mg "need_whole" = some (.ref (g.fa 12))
  gl_options_by : mg "options_by" = some (.ref (g.fa 81))
  gl_other_ways : mg "other_ways" = some (.ref (g.fa 41))
  gl_overdemanded : mg "overdemanded" = some (.ref (g.fa 64))
  gl_raised : mg "raised" = some (.ref (g.fa 69))
  gl_raised_by : mg "raised_by" = some (.ref (g.fa 67))
  gl_raises : mg "raises" = some (.ref (g.fa 70))
  gl_risen : mg "risen" = some (.ref (g.fa 86))
  gl_sale_without : mg "sale_without" = some (.ref (g.fa 79))
  gl_surplus_of : mg "surplus_of" = some (.ref (g.fa 24))
  gl_takes_chains : mg "takes_chains" = some (.ref (g.fa 77))
  gl_takes_raises : mg "takes_raises" = some (.ref (g.fa 72))
  gl_told_allotment : mg "told_allotment" = some (.ref (g.fa 90))
  gl_underdemanded : mg "underdemanded" = some (.ref (g.fa 65))
  gl_ways_from : mg "ways_from" = some (.ref (g.fa 25))
  gl_with_bidder : mg "with_bidder" = some (.ref (g.fa 82))
  gl_with_name : mg "with_name" = some (.ref (g.fa 83))
  gl_without_bidder : mg "without_bidder" = some (.ref (g.fa 84))
  gl_without_name : mg "without_name" = some (.ref (g.fa 85))
  gl_worth_in : mg "worth_in" = some (.ref (g.fa 28))
  gl_worth_of : mg "worth_of" = some (.ref (g.fa 33))
  gi_BIDDERS : ∃ t, mg "BIDDERS" = some (.int 30 t)
  gi_NAMES : ∃ t, mg "NAMES" = some (.int 16 t)
  gi_NONE : ∃ t, mg "NONE" = some (.int (-1) t)
  gi_NUMBER : ∃ t, mg "NUMBER" = some (.int 1000000 t)
  gi_PRICE : ∃ t, mg "PRICE" = some (.int 2000000 t)
  ex_InvalidAllotment : ExcK g.K (g.fa 8)
  ex_InvalidBidder : ExcK g.K (g.fa 3)
  ex_InvalidBids : ExcK g.K (g.fa 4)
  ex_InvalidLots : ExcK g.K (g.fa 5)
  ex_InvalidNumber : ExcK g.K (g.fa 6)
  ex_InvalidPrices : ExcK g.K (g.fa 2)
  ex_InvalidSale : ExcK g.K (g.fa 1)
  ex_InvalidSet : ExcK g.K (g.fa 7)
  ex_NotPossible : ExcK g.K (g.fa 9)
  fd__law_error : ∃ fd, FunD g.K "_law_error" "_law_error" (defArgs s__law_error) (defBody s__law_error) (defScope s__law_error) [] [] (g.fa 94) fd
  fd__law_odd_allotments : ∃ fd, FunD g.K "_law_odd_allotments" "_law_odd_allotments" (defArgs s__law_odd_allotments) (defBody s__law_odd_allotments) (defScope s__law_odd_allotments) [] [] (g.fa 97) fd
  fd_ways_from : ∃ fd, FunD g.K "ways_from" "ways_from" (defArgs s_ways_from) (defBody s_ways_from) (defScope s_ways_from) [] [] (g.fa 25) fd
  fd_let_in : ∃ fd, FunD g.K "let_in" "let_in" (defArgs s_let_in) (defBody s_let_in) (defScope s_let_in) [] [] (g.fa 26) fd
  fd_surplus_of : ∃ fd, FunD g.K "surplus_of" "surplus_of" (defArgs s_surplus_of) (defBody s_surplus_of) (defScope s_surplus_of) [] [] (g.fa 24) fd
  fd_holders_of : ∃ fd, FunD g.K "holders_of" "holders_of" (defArgs s_holders_of) (defBody s_holders_of) (defScope s_holders_of) [] [] (g.fa 27) fd
  fd_names_by : ∃ fd, FunD g.K "names_by" "names_by" (defArgs s_names_by) (defBody s_names_by) (defScope s_names_by) [] [] (g.fa 37) fd
  fd_other_ways : ∃ fd, FunD g.K "other_ways" "other_ways" (defArgs s_other_ways) (defBody s_other_ways) (defScope s_other_ways) [] [] (g.fa 41) fd
  fd_greatest_in : ∃ fd, FunD g.K "greatest_in" "greatest_in" (defArgs s_greatest_in) (defBody s_greatest_in) (defScope s_greatest_in) [] [] (g.fa 42) fd
  fd_is_whole : ∃ fd, FunD g.K "is_whole" "is_whole" (defArgs s_is_whole) (defBody s_is_whole) (defScope s_is_whole) [] [] (g.fa 11) fd
  fd_need_bidder : ∃ fd, FunD g.K "need_bidder" "need_bidder" (defArgs s_need_bidder) (defBody s_need_bidder) (defScope s_need_bidder) [] [] (g.fa 18) fd
  fd_is_tuple_of : ∃ fd, FunD g.K "is_tuple_of" "is_tuple_of" (defArgs s_is_tuple_of) (defBody s_is_tuple_of) (defScope s_is_tuple_of) [] [] (g.fa 13) fd
  fd_is_row : ∃ fd, FunD g.K "is_row" "is_row" (defArgs s_is_row) (defBody s_is_row) (defScope s_is_row) [] [] (g.fa 14) fd
  fd_is_sale : ∃ fd, FunD g.K "is_sale" "is_sale" (defArgs s_is_sale) (defBody s_is_sale) (defScope s_is_sale) [] [] (g.fa 15) fd
  fd_need_sale : ∃ fd, FunD g.K "need_sale" "need_sale" (defArgs s_need_sale) (defBody s_need_sale) (defScope s_need_sale) [] [] (g.fa 16) fd
  fd_sale_without : ∃ fd, FunD g.K "sale_without" "sale_without" (defArgs s_sale_without) (defBody s_sale_without) (defScope s_sale_without) [] [] (g.fa 79) fd
  fd_menu : ∃ fd, FunD g.K "menu" "menu" (defArgs s_menu) (defBody s_menu) (defScope s_menu) [] [] (g.fa 80) fd
  fd_need_row : ∃ fd, FunD g.K "need_row" "need_row" (defArgs s_need_row) (defBody s_need_row) (defScope s_need_row) [] [] (g.fa 78) fd
  fd_options_by : ∃ fd, FunD g.K "options_by" "options_by" (defArgs s_options_by) (defBody s_options_by) (defScope s_options_by) [] [] (g.fa 81) fd
  fd_need_prices : ∃ fd, FunD g.K "need_prices" "need_prices" (defArgs s_need_prices) (defBody s_need_prices) (defScope s_need_prices) [] [] (g.fa 17) fd
  fd_checked : ∃ fd, FunD g.K "checked" "checked" (defArgs s_checked) (defBody s_checked) (defScope s_checked) [] [] (g.fa 56) fd
  fd_gain_in : ∃ fd, FunD g.K "gain_in" "gain_in" (defArgs s_gain_in) (defBody s_gain_in) (defScope s_gain_in) [] [] (g.fa 22) fd
  fd_holders_by : ∃ fd, FunD g.K "holders_by" "holders_by" (defArgs s_holders_by) (defBody s_holders_by) (defScope s_holders_by) [] [] (g.fa 29) fd
  fd_goes_in : ∃ fd, FunD g.K "goes_in" "goes_in" (defArgs s_goes_in) (defBody s_goes_in) (defScope s_goes_in) [] [] (g.fa 38) fd
  fd_is_pair : ∃ fd, FunD g.K "is_pair" "is_pair" (defArgs s_is_pair) (defBody s_is_pair) (defScope s_is_pair) [] [] (g.fa 19) fd
  fd_is_allotment : ∃ fd, FunD g.K "is_allotment" "is_allotment" (defArgs s_is_allotment) (defBody s_is_allotment) (defScope s_is_allotment) [] [] (g.fa 20) fd
  fd_need_allotment : ∃ fd, FunD g.K "need_allotment" "need_allotment" (defArgs s_need_allotment) (defBody s_need_allotment) (defScope s_need_allotment) [] [] (g.fa 21) fd
  fd_checked_pair : ∃ fd, FunD g.K "checked_pair" "checked_pair" (defArgs s_checked_pair) (defBody s_checked_pair) (defScope s_checked_pair) [] [] (g.fa 73) fd
  fd_takes_chains : ∃ fd, FunD g.K "takes_chains" "takes_chains" (defArgs s_takes_chains) (defBody s_takes_chains) (defScope s_takes_chains) [] [] (g.fa 77) fd
  fd_worth_of : ∃ fd, FunD g.K "worth_of" "worth_of" (defArgs s_worth_of) (defBody s_worth_of) (defScope s_worth_of) [] [] (g.fa 33) fd
  fd_worth_in : ∃ fd, FunD g.K "worth_in" "worth_in" (defArgs s_worth_in) (defBody s_worth_in) (defScope s_worth_in) [] [] (g.fa 28) fd
  fd_is_competitive_in : ∃ fd, FunD g.K "is_competitive_in" "is_competitive_in" (defArgs s_is_competitive_in) (defBody s_is_competitive_in) (defScope s_is_competitive_in) [] [] (g.fa 39) fd
  fd_is_competitive : ∃ fd, FunD g.K "is_competitive" "is_competitive" (defArgs s_is_competitive) (defBody s_is_competitive) (defScope s_is_competitive) [] [] (g.fa 58) fd
  fd_overdemanded : ∃ fd, FunD g.K "overdemanded" "overdemanded" (defArgs s_overdemanded) (defBody s_overdemanded) (defScope s_overdemanded) [] [] (g.fa 64) fd
  fd_underdemanded : ∃ fd, FunD g.K "underdemanded" "underdemanded" (defArgs s_underdemanded) (defBody s_underdemanded) (defScope s_underdemanded) [] [] (g.fa 65) fd
  fd_loose : ∃ fd, FunD g.K "loose" "loose" (defArgs s_loose) (defBody s_loose) (defScope s_loose) [] [] (g.fa 66) fd
  fd_takes_raises : ∃ fd, FunD g.K "takes_raises" "takes_raises" (defArgs s_takes_raises) (defBody s_takes_raises) (defScope s_takes_raises) [] [] (g.fa 72) fd
  fd_need_lots : ∃ fd, FunD g.K "need_lots" "need_lots" (defArgs s_need_lots) (defBody s_need_lots) (defScope s_need_lots) [] [] (g.fa 88) fd
  fd_told_allotment : ∃ fd, FunD g.K "told_allotment" "told_allotment" (defArgs s_told_allotment) (defBody s_told_allotment) (defScope s_told_allotment) [] [] (g.fa 90) fd
  fd_with_bidder : ∃ fd, FunD g.K "with_bidder" "with_bidder" (defArgs s_with_bidder) (defBody s_with_bidder) (defScope s_with_bidder) [] [] (g.fa 82) fd
  fd_without_bidder : ∃ fd, FunD g.K "without_bidder" "without_bidder" (defArgs s_without_bidder) (defBody s_without_bidder) (defScope s_without_bidder) [] [] (g.fa 84) fd
  fd_need_whole : ∃ fd, FunD g.K "need_whole" "need_whole" (defArgs s_need_whole) (defBody s_need_whole) (defScope s_need_whole) [] [] (g.fa 12) fd
  fd_without_name : ∃ fd, FunD g.K "without_name" "without_name" (defArgs s_without_name) (defBody s_without_name) (defScope s_without_name) [] [] (g.fa 85) fd
  fd_least_in : ∃ fd, FunD g.K "least_in" "least_in" (defArgs s_least_in) (defBody s_least_in) (defScope s_least_in) [] [] (g.fa 40) fd
  fd_risen : ∃ fd, FunD g.K "risen" "risen" (defArgs s_risen) (defBody s_risen) (defScope s_risen) [] [] (g.fa 86) fd
  fd_gain_of : ∃ fd, FunD g.K "gain_of" "gain_of" (defArgs s_gain_of) (defBody s_gain_of) (defScope s_gain_of) [] [] (g.fa 31) fd
  fd_demand_of : ∃ fd, FunD g.K "demand_of" "demand_of" (defArgs s_demand_of) (defBody s_demand_of) (defScope s_demand_of) [] [] (g.fa 32) fd
  fd_goes_with : ∃ fd, FunD g.K "goes_with" "goes_with" (defArgs s_goes_with) (defBody s_goes_with) (defScope s_goes_with) [] [] (g.fa 57) fd
  fd_need_set : ∃ fd, FunD g.K "need_set" "need_set" (defArgs s_need_set) (defBody s_need_set) (defScope s_need_set) [] [] (g.fa 36) fd
  fd_is_overdemanded : ∃ fd, FunD g.K "is_overdemanded" "is_overdemanded" (defArgs s_is_overdemanded) (defBody s_is_overdemanded) (defScope s_is_overdemanded) [] [] (g.fa 61) fd
  fd_is_underdemanded : ∃ fd, FunD g.K "is_underdemanded" "is_underdemanded" (defArgs s_is_underdemanded) (defBody s_is_underdemanded) (defScope s_is_underdemanded) [] [] (g.fa 62) fd
  fd_is_loose : ∃ fd, FunD g.K "is_loose" "is_loose" (defArgs s_is_loose) (defBody s_is_loose) (defScope s_is_loose) [] [] (g.fa 63) fd
  fd_raised_by : ∃ fd, FunD g.K "raised_by" "raised_by" (defArgs s_raised_by) (defBody s_raised_by) (defScope s_raised_by) [] [] (g.fa 67) fd
  fd_raised : ∃ fd, FunD g.K "raised" "raised" (defArgs s_raised) (defBody s_raised) (defScope s_raised) [] [] (g.fa 69) fd
  fd_chain_paper : ∃ fd, FunD g.K "chain_paper" "chain_paper" (defArgs s_chain_paper) (defBody s_chain_paper) (defScope s_chain_paper) [] [] (g.fa 75) fd
  fd_with_name : ∃ fd, FunD g.K "with_name" "with_name" (defArgs s_with_name) (defBody s_with_name) (defScope s_with_name) [] [] (g.fa 83) fd
  fd_fallen : ∃ fd, FunD g.K "fallen" "fallen" (defArgs s_fallen) (defBody s_fallen) (defScope s_fallen) [] [] (g.fa 87) fd
  fd__law_bidders_right : ∃ fd, FunD g.K "_law_bidders_right" "_law_bidders_right" (defArgs s__law_bidders_right) (defBody s__law_bidders_right) (defScope s__law_bidders_right) [] [] (g.fa 100) fd
  fd__law_cup : ∃ fd, FunD g.K "_law_cup" "_law_cup" (defArgs s__law_cup) (defBody s__law_cup) (defScope s__law_cup) [] [] (g.fa 91) fd
  fd__law_odd_sales : ∃ fd, FunD g.K "_law_odd_sales" "_law_odd_sales" (defArgs s__law_odd_sales) (defBody s__law_odd_sales) (defScope s__law_odd_sales) [] [] (g.fa 95) fd
  fd__law_odd_prices : ∃ fd, FunD g.K "_law_odd_prices" "_law_odd_prices" (defArgs s__law_odd_prices) (defBody s__law_odd_prices) (defScope s__law_odd_prices) [] [] (g.fa 96) fd
  fd__law_prices_right : ∃ fd, FunD g.K "_law_prices_right" "_law_prices_right" (defArgs s__law_prices_right) (defBody s__law_prices_right) (defScope s__law_prices_right) [] [] (g.fa 99) fd
  fd__law_rows_right : ∃ fd, FunD g.K "_law_rows_right" "_law_rows_right" (defArgs s__law_rows_right) (defBody s__law_rows_right) (defScope s__law_rows_right) [] [] (g.fa 101) fd
  fd_greatest_worth : ∃ fd, FunD g.K "greatest_worth" "greatest_worth" (defArgs s_greatest_worth) (defBody s_greatest_worth) (defScope s_greatest_worth) [] [] (g.fa 34) fd
  fd_best_allotment : ∃ fd, FunD g.K "best_allotment" "best_allotment" (defArgs s_best_allotment) (defBody s_best_allotment) (defScope s_best_allotment) [] [] (g.fa 35) fd
  fd_least_prices : ∃ fd, FunD g.K "least_prices" "least_prices" (defArgs s_least_prices) (defBody s_least_prices) (defScope s_least_prices) [] [] (g.fa 59) fd
  fd_greatest_prices : ∃ fd, FunD g.K "greatest_prices" "greatest_prices" (defArgs s_greatest_prices) (defBody s_greatest_prices) (defScope s_greatest_prices) [] [] (g.fa 60) fd
  fd_raises : ∃ fd, FunD g.K "raises" "raises" (defArgs s_raises) (defBody s_raises) (defScope s_raises) [] [] (g.fa 70) fd
  fd__law_sales_right : ∃ fd, FunD g.K "_law_sales_right" "_law_sales_right" (defArgs s__law_sales_right) (defBody s__law_sales_right) (defScope s__law_sales_right) [] [] (g.fa 98) fd
  fd__law_roll : ∃ fd, FunD g.K "_law_roll" "_law_roll" (defArgs s__law_roll) (defBody s__law_roll) (defScope s__law_roll) [] [] (g.fa 92) fd
  fd__law_some : ∃ fd, FunD g.K "_law_some" "_law_some" (defArgs s__law_some) (defBody s__law_some) (defScope s__law_some) [] [] (g.fa 93) fd
  fd_law : ∃ fd, FunD g.K "law" "law" (defArgs s_law) (defBody s_law) (defScope s_law) [] [] (g.fa 102) fd
  la__law_bidders_right : LamFact g mg base 100 ((("_law_bidders_right" : Str) ++ ".<locals>.") ++ "<lambda>")
  la__law_prices_right : LamFact g mg base 99 ((("_law_prices_right" : Str) ++ ".<locals>.") ++ "<lambda>")
  la__law_rows_right : LamFact g mg base 101 ((("_law_rows_right" : Str) ++ ".<locals>.") ++ "<lambda>")
  la__law_sales_right : LamFact g mg base 98 ((("_law_sales_right" : Str) ++ ".<locals>.") ++ "<lambda>")
  la_law : LamFact g mg base 102 ((("law" : Str) ++ ".<locals>.") ++ "<lambda>")
  ct_ : ClsT g sub_ cl_ tst_ 0
section
variable {g : Gx} {Pr : Program} {w : World} {mg : Str → Option Value} {base : Heap}
theorem sc__law_error : FnScope ["call", "e", "pairs", "word", "is_so"] ["call"] (defScope s__law_error) := ⟨rfl, rfl, rfl, by decide +kernel, rfl, by decide +kernel, by decide +kernel⟩
def suite_ (c : Nat) : BF := (sSeq (sSet 2 (eFr (fLst (aCons (eTup (aCons (eC (.str "sale")) (aCons (eCall (bIsE sub_ tst_ c) (aCons (eVar 1) (aCons (eC (.adr 2)) aNil))) aNil))) (aCons (eTup (aCons (eC (.str "prices")) (aCons (eCall (bIsE sub_ tst_ c) (aCons (eVar 1) (aCons (eC (.adr 3)) aNil))) aNil))) aNil)))))
  (sSeq (sSet 2 (eFr (f2s lAdd (vE (eVar 2)) (vE (eFr (fLst (aCons (eTup (aCons (eC (.str "bidder")) (aCons (eCall (bIsE sub_ tst_ c) (aCons (eVar 1) (aCons (eC (.adr 4)) aNil))) aNil))) (aCons (eTup (aCons (eC (.str "bids")) (aCons (eCall (bIsE sub_ tst_ c) (aCons (eVar 1) (aCons (eC (.adr 5)) aNil))) aNil))) aNil))))))))
  (sSeq (sSet 2 (eFr (f2s lAdd (vE (eVar 2)) (vE (eFr (fLst (aCons (eTup (aCons (eC (.str "lots")) (aCons (eCall (bIsE sub_ tst_ c) (aCons (eVar 1) (aCons (eC (.adr 6)) aNil))) aNil))) (aCons (eTup (aCons (eC (.str "set")) (aCons (eCall (bIsE sub_ tst_ c) (aCons (eVar 1) (aCons (eC (.adr 8)) aNil))) aNil))) aNil))))))))
  (sSeq (sSet 2 (eFr (f2s lAdd (vE (eVar 2)) (vE (eFr (fLst (aCons (eTup (aCons (eC (.str "number")) (aCons (eCall (bIsE sub_ tst_ c) (aCons (eVar 1) (aCons (eC (.adr 7)) aNil))) aNil))) (aCons (eTup (aCons (eC (.str "allotment")) (aCons (eCall (bIsE sub_ tst_ c) (aCons (eVar 1) (aCons (eC (.adr 9)) aNil))) aNil))) aNil))))))))
  (sSeq (sSet 2 (eFr (f2s lAdd (vE (eVar 2)) (vE (eFr (fLst (aCons (eTup (aCons (eC (.str "possible")) (aCons (eCall (bIsE sub_ tst_ c) (aCons (eVar 1) (aCons (eC (.adr 10)) aNil))) aNil))) aNil)))))))
  (sSeq (sSet 2 (eFr (f2s lAdd (vE (eVar 2)) (vE (eFr (fLst (aCons (eTup (aCons (e2 pAdd (eC (.str "many")) (eCall bStr (aCons (eIf (tB (eCall (bIsE sub_ tst_ c) (aCons (eVar 1) (aCons (eC (.adr 11)) aNil)))) eStuck (eC (.int 0))) aNil))) (aCons (eCall (bIsE sub_ tst_ c) (aCons (eVar 1) (aCons (eC (.adr 11)) aNil))) aNil))) aNil)))))))
  (sRet (eJoin (eC (.str "")) (eFr (fComp (aSeqL (eVar 2)) (gT 2 (gCons_ (gN 3) (gCons_ (gN 4) gNil_))) (tB (eVar 4)) (eVar 3) [3, 4]))))))))))
def tell_ : Nat → Option Str := tellOf suite_ 5 1
theorem bndE : ∀ (kV doc pm : Value) (an : Option Addr) (cdv ct : Value) (us : List Value), us.length = [("call" : Str)].length → bindArgs (PySem.W.fnOf "_law_error" "_law_error" (defArgs s__law_error) (defBody s__law_error) (defScope s__law_error) .none kV doc pm an cdv ct) ⟨us, []⟩ = pure ([("call" : Str)].zip us) := fun _ _ _ _ _ _ us hl => match us, hl with | [_], _ => rfl
theorem gE (Z : Zt g mg base) {X : Cx} (hK : X.K = g.K) (hmg : X.mg = mg) (cdv : Value) (q : Str) : GivesToN X ["call", "e", "pairs", "word", "is_so"] "_law_error" (defScope s__law_error) (g.fa 94) cdv (defBody s__law_error) "call" q (TTerr g cl_ tell_) := by
  have fr_isinstance : X.mg "isinstance" = none := by rw [hmg]; exact Z.fr_isinstance
  have fr_str : X.mg "str" = none := by rw [hmg]; exact Z.fr_str
  have gl_InvalidAllotment : X.mg "InvalidAllotment" = some (.ref (g.fa 8)) := by rw [hmg]; exact Z.gl_InvalidAllotment
  have gl_InvalidBidder : X.mg "InvalidBidder" = some (.ref (g.fa 3)) := by rw [hmg]; exact Z.gl_InvalidBidder
  have gl_InvalidBids : X.mg "InvalidBids" = some (.ref (g.fa 4)) := by rw [hmg]; exact Z.gl_InvalidBids
  have gl_InvalidLots : X.mg "InvalidLots" = some (.ref (g.fa 5)) := by rw [hmg]; exact Z.gl_InvalidLots
  have gl_InvalidNumber : X.mg "InvalidNumber" = some (.ref (g.fa 6)) := by rw [hmg]; exact Z.gl_InvalidNumber
  have gl_InvalidPrices : X.mg "InvalidPrices" = some (.ref (g.fa 2)) := by rw [hmg]; exact Z.gl_InvalidPrices
  have gl_InvalidSale : X.mg "InvalidSale" = some (.ref (g.fa 1)) := by rw [hmg]; exact Z.gl_InvalidSale
  have gl_InvalidSet : X.mg "InvalidSet" = some (.ref (g.fa 7)) := by rw [hmg]; exact Z.gl_InvalidSet
  have gl_NotPossible : X.mg "NotPossible" = some (.ref (g.fa 9)) := by rw [hmg]; exact Z.gl_NotPossible
  have gl_TooMany : X.mg "TooMany" = some (.ref (g.fa 10)) := by rw [hmg]; exact Z.gl_TooMany
  have nd : (["call", "e", "pairs", "word", "is_so"] : List Str).Nodup := by decide +kernel
  exact gives_err (i := 1) (n := 5) (e := "e") (RE := "RegistryError") Z.ct_ hK rfl nd rfl rfl rfl (by rw [hmg]; exact Z.gl_RegistryError) (by decide) rfl (fun _ => rfl) (fun c hc s H ad oe pn hot hIs => (sb_cons (ss_set (i := 2) nd rfl (loc_by rfl) (se_fr (sf_lst (sa_cons (se_tup (sa_cons se_str (sa_cons (se_callB hIs rfl fr_isinstance bt_isinstance (sa_cons (se_var (i := 1) rfl (vis_by rfl)) (sa_cons (se_def (g := gS g ad) (n := 2) rfl gl_InvalidSale) sa_nil))) sa_nil))) (sa_cons (se_tup (sa_cons se_str (sa_cons (se_callB hIs rfl fr_isinstance bt_isinstance (sa_cons (se_var (i := 1) rfl (vis_by rfl)) (sa_cons (se_def (g := gS g ad) (n := 3) rfl gl_InvalidPrices) sa_nil))) sa_nil))) sa_nil)))))
  (sb_cons (ss_set (i := 2) nd rfl (loc_by rfl) (se_fr (sf_opS of_add (sv_e (se_var (i := 2) rfl (vis_by rfl))) (sv_e (se_fr (sf_lst (sa_cons (se_tup (sa_cons se_str (sa_cons (se_callB hIs rfl fr_isinstance bt_isinstance (sa_cons (se_var (i := 1) rfl (vis_by rfl)) (sa_cons (se_def (g := gS g ad) (n := 4) rfl gl_InvalidBidder) sa_nil))) sa_nil))) (sa_cons (se_tup (sa_cons se_str (sa_cons (se_callB hIs rfl fr_isinstance bt_isinstance (sa_cons (se_var (i := 1) rfl (vis_by rfl)) (sa_cons (se_def (g := gS g ad) (n := 5) rfl gl_InvalidBids) sa_nil))) sa_nil))) sa_nil))))))))
  (sb_cons (ss_set (i := 2) nd rfl (loc_by rfl) (se_fr (sf_opS of_add (sv_e (se_var (i := 2) rfl (vis_by rfl))) (sv_e (se_fr (sf_lst (sa_cons (se_tup (sa_cons se_str (sa_cons (se_callB hIs rfl fr_isinstance bt_isinstance (sa_cons (se_var (i := 1) rfl (vis_by rfl)) (sa_cons (se_def (g := gS g ad) (n := 6) rfl gl_InvalidLots) sa_nil))) sa_nil))) (sa_cons (se_tup (sa_cons se_str (sa_cons (se_callB hIs rfl fr_isinstance bt_isinstance (sa_cons (se_var (i := 1) rfl (vis_by rfl)) (sa_cons (se_def (g := gS g ad) (n := 8) rfl gl_InvalidSet) sa_nil))) sa_nil))) sa_nil))))))))
  (sb_cons (ss_set (i := 2) nd rfl (loc_by rfl) (se_fr (sf_opS of_add (sv_e (se_var (i := 2) rfl (vis_by rfl))) (sv_e (se_fr (sf_lst (sa_cons (se_tup (sa_cons se_str (sa_cons (se_callB hIs rfl fr_isinstance bt_isinstance (sa_cons (se_var (i := 1) rfl (vis_by rfl)) (sa_cons (se_def (g := gS g ad) (n := 7) rfl gl_InvalidNumber) sa_nil))) sa_nil))) (sa_cons (se_tup (sa_cons se_str (sa_cons (se_callB hIs rfl fr_isinstance bt_isinstance (sa_cons (se_var (i := 1) rfl (vis_by rfl)) (sa_cons (se_def (g := gS g ad) (n := 9) rfl gl_InvalidAllotment) sa_nil))) sa_nil))) sa_nil))))))))
  (sb_cons (ss_set (i := 2) nd rfl (loc_by rfl) (se_fr (sf_opS of_add (sv_e (se_var (i := 2) rfl (vis_by rfl))) (sv_e (se_fr (sf_lst (sa_cons (se_tup (sa_cons se_str (sa_cons (se_callB hIs rfl fr_isinstance bt_isinstance (sa_cons (se_var (i := 1) rfl (vis_by rfl)) (sa_cons (se_def (g := gS g ad) (n := 10) rfl gl_NotPossible) sa_nil))) sa_nil))) sa_nil)))))))
  (sb_cons (ss_set (i := 2) nd rfl (loc_by rfl) (se_fr (sf_opS of_add (sv_e (se_var (i := 2) rfl (vis_by rfl))) (sv_e (se_fr (sf_lst (sa_cons (se_tup (sa_cons (se_op (os_add hK) se_str (se_callTy cs_str rfl fr_str bt_str (sa_cons (se_if (st_val (se_callB hIs rfl fr_isinstance bt_isinstance (sa_cons (se_var (i := 1) rfl (vis_by rfl)) (sa_cons (se_def (g := gS g ad) (n := 11) rfl gl_TooMany) sa_nil)))) se_stuck se_int) sa_nil))) (sa_cons (se_callB hIs rfl fr_isinstance bt_isinstance (sa_cons (se_var (i := 1) rfl (vis_by rfl)) (sa_cons (se_def (g := gS g ad) (n := 11) rfl gl_TooMany) sa_nil))) sa_nil))) sa_nil)))))))
  (sb_one (ss_ret (se_join hK se_str (se_fr (sf_compH (is := [3, 4]) (own := [("word", 3), ("is_so", 4)]) hot nd (si_listH hK (se_var (i := 2) rfl (vis_by rfl))) (blkOk_by (by rfl)) (by decide) (hg_tupH (fun _ _ _ _ _ => hotB hot) (fun _ _ _ _ _ => hK) (hgs_cons (hg_name (j := 3) (fun _ _ _ _ _ => nd) (fun _ _ _ _ _ => rfl) (fun _ _ _ _ _ => loc_by rfl) (fun _ _ _ _ _ => .inr rfl)) (hgs_cons (hg_name (j := 4) (fun _ _ _ _ _ => nd) (fun _ _ _ _ _ => rfl) (fun _ _ _ _ _ => loc_by rfl) (fun _ _ _ _ _ => .inr rfl)) hgs_nil))) (fun _ _ _ _ _ => (sts_one (st_val (se_var (i := 4) rfl (vis_by rfl))))) (fun _ _ _ _ _ => (se_var (i := 3) rfl (vis_by rfl)))))))))))))))
theorem sc__law_odd_allotments : FnScope ["some"] [] (defScope s__law_odd_allotments) := ⟨rfl, rfl, rfl, by decide +kernel, rfl, by decide +kernel, by decide +kernel⟩
def m__law_odd_allotments : BF := (sSeq (sSet 0 (eFr (fLst (aCons (eC .non) (aCons (eFr (fLst aNil)) (aCons (eTup (aCons (eTup (aCons (eC (.int 0)) (aCons (eC (.int 0)) aNil))) (aCons (eTup (aCons (eC (.int 0)) (aCons (eC (.int 1)) aNil))) aNil))) (aCons (eTup (aCons (eTup (aCons (eC (.int 0)) (aCons (eC (.int 0)) aNil))) (aCons (eTup (aCons (eC (.int 1)) (aCons (eC (.int 0)) aNil))) aNil))) (aCons (eTup (aCons (eTup (aCons (eC (.int 1)) (aCons (eC (.int 0)) aNil))) (aCons (eTup (aCons (eC (.int 0)) (aCons (eC (.int 1)) aNil))) aNil))) (aCons (eTup (aCons (eTup (aCons (eC (.int 3)) (aCons (eC (.int 0)) aNil))) aNil)) (aCons (eTup (aCons (eTup (aCons (eC (.int 0)) (aCons (eC (.int 2)) aNil))) aNil)) (aCons (eTup (aCons (eTup (aCons (e1 pNeg (eC (.int 1))) (aCons (eC (.int 0)) aNil))) aNil)) (aCons (eTup (aCons (eTup (aCons (eC (.int 0)) (aCons (e1 pNeg (eC (.int 1))) aNil))) aNil)) (aCons (eTup (aCons (eTup (aCons (eC (.int 0)) aNil)) aNil)) aNil)))))))))))))
  (sRet (eFr (f2s lAdd (vE (eVar 0)) (vE (eFr (fLst (aCons (eTup (aCons (eTup (aCons (eC (.bl true)) (aCons (eC (.int 0)) aNil))) aNil)) (aCons (eTup (aCons (eTup (aCons (eC (.int 0)) (aCons (eC (.bl false)) aNil))) aNil)) (aCons (eTup (aCons (eFr (fLst (aCons (eC (.int 0)) (aCons (eC (.int 0)) aNil)))) aNil)) (aCons (eTup (aCons (eTup (aCons (eC (.int 0)) (aCons (eC (.int 0)) (aCons (eC (.int 0)) aNil)))) aNil)) (aCons (eTup (aCons (eC .non) aNil)) (aCons (eTup (aCons (eTup (aCons (eC (.int 0)) (aCons (eC (.str "0")) aNil))) aNil)) (aCons (eC (.int 0)) (aCons (eTup (aCons (eTup (aCons (eC (.int 0)) (aCons (eC (.int 0)) aNil))) (aCons (eTup (aCons (eC (.int 0)) (aCons (eC (.int 0)) aNil))) aNil))) aNil)))))))))))))))
def F__law_odd_allotments : FF := fnEv 0 1 m__law_odd_allotments
theorem b__law_odd_allotments (Z : Zt g mg base) (cdv : Value) (A : Around) (outer : List Env) (s : Shared) (H : Hp) (E : XK) (hcd : ∃ oc od fd osl, g.K.lookup (g.fa 97) = some ⟨oc, od, .func fd, osl⟩ ∧ fd.code = cdv) (ok : Ok g (cD g Pr w mg base ["some"] "_law_odd_allotments" (defScope s__law_odd_allotments) (g.fa 97) cdv A outer s H E) (wD E) 0) : SB g (cD g Pr w mg base ["some"] "_law_odd_allotments" (defScope s__law_odd_allotments) (g.fa 97) cdv A outer s H E) (wD E) (defBody s__law_odd_allotments) m__law_odd_allotments := 
  (sb_cons (ss_set (i := 0) ok.nd rfl (loc_by rfl) (se_fr (sf_lst (sa_cons se_non (sa_cons (se_fr (sf_lst sa_nil)) (sa_cons (se_tup (sa_cons (se_tup (sa_cons se_int (sa_cons se_int sa_nil))) (sa_cons (se_tup (sa_cons se_int (sa_cons se_int sa_nil))) sa_nil))) (sa_cons (se_tup (sa_cons (se_tup (sa_cons se_int (sa_cons se_int sa_nil))) (sa_cons (se_tup (sa_cons se_int (sa_cons se_int sa_nil))) sa_nil))) (sa_cons (se_tup (sa_cons (se_tup (sa_cons se_int (sa_cons se_int sa_nil))) (sa_cons (se_tup (sa_cons se_int (sa_cons se_int sa_nil))) sa_nil))) (sa_cons (se_tup (sa_cons (se_tup (sa_cons se_int (sa_cons se_int sa_nil))) sa_nil)) (sa_cons (se_tup (sa_cons (se_tup (sa_cons se_int (sa_cons se_int sa_nil))) sa_nil)) (sa_cons (se_tup (sa_cons (se_tup (sa_cons (se_un us_neg se_int) (sa_cons se_int sa_nil))) sa_nil)) (sa_cons (se_tup (sa_cons (se_tup (sa_cons se_int (sa_cons (se_un us_neg se_int) sa_nil))) sa_nil)) (sa_cons (se_tup (sa_cons (se_tup (sa_cons se_int sa_nil)) sa_nil)) sa_nil)))))))))))))
  (sb_one (ss_ret (se_fr (sf_opS of_add (sv_e (se_var (i := 0) rfl (vis_by rfl))) (sv_e (se_fr (sf_lst (sa_cons (se_tup (sa_cons (se_tup (sa_cons se_bl (sa_cons se_int sa_nil))) sa_nil)) (sa_cons (se_tup (sa_cons (se_tup (sa_cons se_int (sa_cons se_bl sa_nil))) sa_nil)) (sa_cons (se_tup (sa_cons (se_fr (sf_lst (sa_cons se_int (sa_cons se_int sa_nil)))) sa_nil)) (sa_cons (se_tup (sa_cons (se_tup (sa_cons se_int (sa_cons se_int (sa_cons se_int sa_nil)))) sa_nil)) (sa_cons (se_tup (sa_cons se_non sa_nil)) (sa_cons (se_tup (sa_cons (se_tup (sa_cons se_int (sa_cons se_str sa_nil))) sa_nil)) (sa_cons se_int (sa_cons (se_tup (sa_cons (se_tup (sa_cons se_int (sa_cons se_int sa_nil))) (sa_cons (se_tup (sa_cons se_int (sa_cons se_int sa_nil))) sa_nil))) sa_nil))))))))))))))))
theorem d__law_odd_allotments (Z : Zt g mg base) : DefE g Pr w mg base 1 97 0 F__law_odd_allotments :=
  defE_of (N := ["some"]) (ps := []) Z.fd__law_odd_allotments sc__law_odd_allotments rfl rfl (fun _ _ _ _ _ _ us hl => match us, hl with | [], _ => rfl) (b__law_odd_allotments Z)
theorem sc_ways_from : FnScope ["surplus", "holder", "bidder", "turn", "best", "came", "name", "other", "place"] ["surplus", "holder", "bidder"] (defScope s_ways_from) := ⟨rfl, rfl, rfl, by decide +kernel, rfl, by decide +kernel, by decide +kernel⟩
def m_ways_from : BF := (sSeq (sPar 4 5 (zCons (vNew (fCall lList (aCons (e2 pIx (eVar 0) (eVar 2)) aNil))) (zCons (vNew (f2s lMul (vE (eFr (fLst (aCons (eC (.int (-1))) aNil)))) (vE (eCallS bLen (zCons (vVar 1) zNil))))) zNil)))
  (sSeq (sFor (aRng1 (eCallS bLen (zCons (vVar 1) zNil))) (gN 3) (sForS (iEnu (vVar 1)) (gT 2 (gCons_ (gN 6) (gCons_ (gN 7) gNil_))) (sFor (aRng1 (eCallS bLen (zCons (vVar 1) zNil))) (gN 8) (sIf (tAnd (tB (e2 pNe (eVar 7) (eC (.int (-1))))) (tB (e2 pGt (e2 pAdd (e2 pSub (e2s pIx (vVar 4) (vE (eVar 6))) (e2 pIx (e2 pIx (eVar 0) (eVar 7)) (eVar 6))) (e2 pIx (e2 pIx (eVar 0) (eVar 7)) (eVar 8))) (e2s pIx (vVar 4) (vE (eVar 8)))))) (sAsg (vE (eTup (aCons (e2 pAdd (e2 pSub (e2s pIx (vVar 4) (vE (eVar 6))) (e2 pIx (e2 pIx (eVar 0) (eVar 7)) (eVar 6))) (e2 pIx (e2 pIx (eVar 0) (eVar 7)) (eVar 8))) (aCons (eVar 6) aNil)))) (gvT 2 (gvCons (gvSub (vVar 4) (eVar 8)) (gvCons (gvSub (vVar 5) (eVar 8)) gvNil)))) sNil))))
  (sRet (eTupS (zCons (vVar 4) (zCons (vVar 5) zNil))))))
def F_ways_from : FF := fnEv 3 9 m_ways_from
theorem b_ways_from (Z : Zt g mg base) (cdv : Value) (A : Around) (outer : List Env) (s : Shared) (H : Hp) (E : XK) (hcd : ∃ oc od fd osl, g.K.lookup (g.fa 25) = some ⟨oc, od, .func fd, osl⟩ ∧ fd.code = cdv) (ok : Ok g (cD g Pr w mg base ["surplus", "holder", "bidder", "turn", "best", "came", "name", "other", "place"] "ways_from" (defScope s_ways_from) (g.fa 25) cdv A outer s H E) (wD E) 0) : SB g (cD g Pr w mg base ["surplus", "holder", "bidder", "turn", "best", "came", "name", "other", "place"] "ways_from" (defScope s_ways_from) (g.fa 25) cdv A outer s H E) (wD E) (defBody s_ways_from) m_ways_from := 
  (sb_cons (ss_par (i := 4) (j := 5) ok.calm ok.nd rfl rfl (by decide) rfl rfl (sz_cons (sv_new (sf_callTy (cf_list ok.K) rfl Z.fr_list bt_list (sa_cons (se_ix (is_ix ok.K) (se_var (i := 0) rfl (vis_by rfl)) (se_var (i := 2) rfl (vis_by rfl)) (fun _ _ => rfl)) sa_nil))) (sz_cons (sv_new (sf_opS of_mul (sv_e (se_fr (sf_lst (sa_cons (se_gi (i := (-1)) rfl Z.gi_NONE) sa_nil)))) (sv_e (se_callBS (cs_len ok.K) rfl Z.fr_len bt_len (sz_cons (sv_var (i := 1) rfl (vis_by rfl)) sz_nil))))) sz_nil)) (by rfl))
  (sb_cons (ss_for (passes_of rfl) ok.calm (si_range1 rfl Z.fr_range (se_callBS (cs_len ok.K) rfl Z.fr_len bt_len (sz_cons (sv_var (i := 1) rfl (vis_by rfl)) sz_nil))) (sg_name (i := 3) ok.nd rfl (loc_by rfl)) (sb_one (ss_forS (passes_of rfl) ok.calm (sis_enum ok.K rfl Z.fr_enumerate (sv_var (i := 1) rfl (vis_by rfl))) (sg_tup ok.calm ok.K (sgs_cons (sg_name (i := 6) ok.nd rfl (loc_by rfl)) (sgs_cons (sg_name (i := 7) ok.nd rfl (loc_by rfl)) sgs_nil))) (sb_one (ss_for (passes_of rfl) ok.calm (si_range1 rfl Z.fr_range (se_callBS (cs_len ok.K) rfl Z.fr_len bt_len (sz_cons (sv_var (i := 1) rfl (vis_by rfl)) sz_nil))) (sg_name (i := 8) ok.nd rfl (loc_by rfl)) (sb_one (ss_if (st_w (sw_and (st_cmp (os_ne ok) (se_var (i := 7) rfl (vis_by rfl)) (se_gi (i := (-1)) rfl Z.gi_NONE) (by rfl)) (sw_1 (st_cmp os_gt (se_op (os_add ok.K) (se_op os_sub (se_ixS (is_ix ok.K) (sv_var (i := 4) rfl (vis_by rfl)) (sv_e (se_var (i := 6) rfl (vis_by rfl))) (fun _ _ => rfl)) (se_ix (is_ix ok.K) (se_ix (is_ix ok.K) (se_var (i := 0) rfl (vis_by rfl)) (se_var (i := 7) rfl (vis_by rfl)) (fun _ _ => rfl)) (se_var (i := 6) rfl (vis_by rfl)) (fun _ _ => rfl))) (se_ix (is_ix ok.K) (se_ix (is_ix ok.K) (se_var (i := 0) rfl (vis_by rfl)) (se_var (i := 7) rfl (vis_by rfl)) (fun _ _ => rfl)) (se_var (i := 8) rfl (vis_by rfl)) (fun _ _ => rfl))) (se_ixS (is_ix ok.K) (sv_var (i := 4) rfl (vis_by rfl)) (sv_e (se_var (i := 8) rfl (vis_by rfl))) (fun _ _ => rfl)) (by rfl)) (.inl rfl)))) (sb_one (ss_asg (sv_e (se_tup (sa_cons (se_op (os_add ok.K) (se_op os_sub (se_ixS (is_ix ok.K) (sv_var (i := 4) rfl (vis_by rfl)) (sv_e (se_var (i := 6) rfl (vis_by rfl))) (fun _ _ => rfl)) (se_ix (is_ix ok.K) (se_ix (is_ix ok.K) (se_var (i := 0) rfl (vis_by rfl)) (se_var (i := 7) rfl (vis_by rfl)) (fun _ _ => rfl)) (se_var (i := 6) rfl (vis_by rfl)) (fun _ _ => rfl))) (se_ix (is_ix ok.K) (se_ix (is_ix ok.K) (se_var (i := 0) rfl (vis_by rfl)) (se_var (i := 7) rfl (vis_by rfl)) (fun _ _ => rfl)) (se_var (i := 8) rfl (vis_by rfl)) (fun _ _ => rfl))) (sa_cons (se_var (i := 6) rfl (vis_by rfl)) sa_nil)))) (sgv_tup ok.calm ok.K (sgvs_cons (sgv_sub (sv_var (i := 4) rfl (vis_by rfl)) (se_var (i := 8) rfl (vis_by rfl))) (sgvs_cons (sgv_sub (sv_var (i := 5) rfl (vis_by rfl)) (se_var (i := 8) rfl (vis_by rfl))) sgvs_nil))))) sb_nil)))))))
  (sb_one (ss_ret (se_tupS (sz_cons (sv_var (i := 4) rfl (vis_by rfl)) (sz_cons (sv_var (i := 5) rfl (vis_by rfl)) sz_nil)))))))
theorem d_ways_from (Z : Zt g mg base) : DefE g Pr w mg base 1 25 3 F_ways_from :=
  defE_of (N := ["surplus", "holder", "bidder", "turn", "best", "came", "name", "other", "place"]) (ps := ["surplus", "holder", "bidder"]) Z.fd_ways_from sc_ways_from rfl rfl (fun _ _ _ _ _ _ us hl => match us, hl with | [_, _, _], _ => rfl) (b_ways_from Z)
theorem sc_let_in : FnScope ["surplus", "holder", "bidder", "ends", "best", "came", "name", "won", "other"] ["surplus", "holder", "bidder"] (defScope s_let_in) := ⟨rfl, rfl, rfl, by decide +kernel, rfl, by decide +kernel, by decide +kernel⟩
def m_let_in : BF := (sSeq (sAsg (vE (eFn F_ways_from (zVal (eVar 0) (zCons (vVar 1) (zVal (eVar 2) zNil))))) (gvT 2 (gvCons (gvN 4) (gvCons (gvN 5) gvNil))))
  (sSeq (sSet 3 (eFr (fCompS (iEZp (vE (eVar 4)) (vVar 1)) (gT 2 (gCons_ (gN 6) (gCons_ (gT 2 (gCons_ (gN 7) (gCons_ (gN 8) gNil_))) gNil_))) tYes (e2 pSub (eVar 7) (eIf (tB (e2 pNe (eVar 8) (eC (.int (-1))))) (e2 pIx (e2 pIx (eVar 0) (eVar 8)) (eVar 6)) (eC (.int 0)))) [6, 7, 8])))
  (sIf (tB (e2 pGt (eCall bMax (aCons (eFr (f2s lAdd (vE (eFr (fLst (aCons (eC (.int 0)) aNil)))) (vE (eVar 3)))) aNil)) (eC (.int 0)))) (sSeq (sSet 6 (eIndex (vE (eVar 3)) (eCall bMax (aCons (eVar 3) aNil))))
  (sSeq (whileL (tB (e2 pNe (e2 pIx (eVar 5) (eVar 6)) (eC (.int (-1))))) (sAsg (vE (eTup (aCons (e2s pIx (vVar 1) (vE (e2 pIx (eVar 5) (eVar 6)))) (aCons (e2 pIx (eVar 5) (eVar 6)) aNil)))) (gvT 2 (gvCons (gvSub (vVar 1) (eVar 6)) (gvCons (gvN 6) gvNil)))) 4000)
  (sAsg (vE (eVar 2)) (gvSub (vVar 1) (eVar 6))))) sNil)))
def F_let_in : FF := fnEv 3 9 m_let_in
theorem b_let_in (Z : Zt g mg base) (cdv : Value) (A : Around) (outer : List Env) (s : Shared) (H : Hp) (E : XK) (hcd : ∃ oc od fd osl, g.K.lookup (g.fa 26) = some ⟨oc, od, .func fd, osl⟩ ∧ fd.code = cdv) (ok : Ok g (cD g Pr w mg base ["surplus", "holder", "bidder", "ends", "best", "came", "name", "won", "other"] "let_in" (defScope s_let_in) (g.fa 26) cdv A outer s H E) (wD E) 1) : SB g (cD g Pr w mg base ["surplus", "holder", "bidder", "ends", "best", "came", "name", "won", "other"] "let_in" (defScope s_let_in) (g.fa 26) cdv A outer s H E) (wD E) (defBody s_let_in) m_let_in := 
  (sb_cons (ss_asg (sv_e (se_fnD ok (d_ways_from Z) (by decide) rfl Z.gl_ways_from (sz_val (se_var (i := 0) rfl (vis_by rfl)) (sz_cons (sv_var (i := 1) rfl (vis_by rfl)) (sz_val (se_var (i := 2) rfl (vis_by rfl)) sz_nil))) (zl_val (zl_cons (zl_val zl_nil))))) (sgv_tup ok.calm ok.K (sgvs_cons (sgv_name (i := 4) ok.nd rfl (loc_by rfl)) (sgvs_cons (sgv_name (i := 5) ok.nd rfl (loc_by rfl)) sgvs_nil))))
  (sb_cons (ss_setLcS (i := 3) (is := [6, 7, 8]) (own := [("name", 6), ("won", 7), ("other", 8)]) ok rfl rfl (sw_true rfl rfl (by rfl) (by rfl)) (sis_EZ ok.K rfl Z.fr_enumerate rfl Z.fr_zip (sv_e (se_var (i := 4) rfl (vis_by rfl))) (sv_var (i := 1) rfl (vis_by rfl))) (blkOk_by (by rfl)) (by decide) (hg_tup (B := Blk _ _) (fun _ _ _ _ _ => ok.calm) (fun _ _ _ _ _ => ok.K) (hgs_cons (B := Blk _ _) (hg_name (B := Blk _ _) (j := 6) (fun _ _ _ _ _ => ok.nd) (fun _ _ _ _ _ => rfl) (fun _ _ _ _ _ => loc_by rfl) (fun _ _ _ _ _ => .inr rfl)) (hgs_cons (B := Blk _ _) (hg_tup (B := Blk _ _) (fun _ _ _ _ _ => ok.calm) (fun _ _ _ _ _ => ok.K) (hgs_cons (B := Blk _ _) (hg_name (B := Blk _ _) (j := 7) (fun _ _ _ _ _ => ok.nd) (fun _ _ _ _ _ => rfl) (fun _ _ _ _ _ => loc_by rfl) (fun _ _ _ _ _ => .inr rfl)) (hgs_cons (B := Blk _ _) (hg_name (B := Blk _ _) (j := 8) (fun _ _ _ _ _ => ok.nd) (fun _ _ _ _ _ => rfl) (fun _ _ _ _ _ => loc_by rfl) (fun _ _ _ _ _ => .inr rfl)) hgs_nil))) hgs_nil))) (fun _ _ _ _ _ ok1 => sts_nil) (fun _ _ _ _ _ ok1 => (se_op os_sub (se_var (i := 7) rfl (vis_by rfl)) (se_if (st_cmp (os_ne ok1) (se_var (i := 8) rfl (vis_by rfl)) (se_gi (i := (-1)) rfl Z.gi_NONE) (by rfl)) (se_ix (is_ix ok1.K) (se_ix (is_ix ok1.K) (se_var (i := 0) rfl (vis_by rfl)) (se_var (i := 8) rfl (vis_by rfl)) (fun _ _ => rfl)) (se_var (i := 6) rfl (vis_by rfl)) (fun _ _ => rfl)) se_int))))
  (sb_one (ss_if (st_cmp os_gt (se_callB (cs_max ok) rfl Z.fr_max bt_max (sa_cons (se_fr (sf_opS of_add (sv_e (se_fr (sf_lst (sa_cons se_int sa_nil)))) (sv_e (se_var (i := 3) rfl (vis_by rfl))))) sa_nil)) se_int (by rfl)) (sb_cons (ss_set (i := 6) ok.nd rfl (loc_by rfl) (se_index ok (sv_e (se_var (i := 3) rfl (vis_by rfl))) (se_callB (cs_max ok) rfl Z.fr_max bt_max (sa_cons (se_var (i := 3) rfl (vis_by rfl)) sa_nil))))
  (sb_cons (ss_while (passes_of rfl) (st_cmp (os_ne ok) (se_ix (is_ix ok.K) (se_var (i := 5) rfl (vis_by rfl)) (se_var (i := 6) rfl (vis_by rfl)) (fun _ _ => rfl)) (se_gi (i := (-1)) rfl Z.gi_NONE) (by rfl)) (sb_one (ss_asg (sv_e (se_tup (sa_cons (se_ixS (is_ix ok.K) (sv_var (i := 1) rfl (vis_by rfl)) (sv_e (se_ix (is_ix ok.K) (se_var (i := 5) rfl (vis_by rfl)) (se_var (i := 6) rfl (vis_by rfl)) (fun _ _ => rfl))) (fun _ _ => rfl)) (sa_cons (se_ix (is_ix ok.K) (se_var (i := 5) rfl (vis_by rfl)) (se_var (i := 6) rfl (vis_by rfl)) (fun _ _ => rfl)) sa_nil)))) (sgv_tup ok.calm ok.K (sgvs_cons (sgv_sub (sv_var (i := 1) rfl (vis_by rfl)) (se_var (i := 6) rfl (vis_by rfl))) (sgvs_cons (sgv_name (i := 6) ok.nd rfl (loc_by rfl)) sgvs_nil))))))
  (sb_one (ss_asg (sv_e (se_var (i := 2) rfl (vis_by rfl))) (sgv_sub (sv_var (i := 1) rfl (vis_by rfl)) (se_var (i := 6) rfl (vis_by rfl))))))) sb_nil))))
theorem d_let_in (Z : Zt g mg base) : DefE g Pr w mg base 2 26 3 F_let_in :=
  defE_of (N := ["surplus", "holder", "bidder", "ends", "best", "came", "name", "won", "other"]) (ps := ["surplus", "holder", "bidder"]) Z.fd_let_in sc_let_in rfl rfl (fun _ _ _ _ _ _ us hl => match us, hl with | [_, _, _], _ => rfl) (b_let_in Z)
theorem sc_surplus_of : FnScope ["sale", "row", "number", "reserve"] ["sale"] (defScope s_surplus_of) := ⟨rfl, rfl, rfl, by decide +kernel, rfl, by decide +kernel, by decide +kernel⟩
def m_surplus_of : BF := (sRet (eFr (fComp (aSeq (e2 pIx (eVar 0) (eC (.int 1)))) (gN 1) tYes (eFr (fComp (aZip (eVar 1) (e2 pIx (eVar 0) (eC (.int 0)))) (gT 2 (gCons_ (gN 2) (gCons_ (gN 3) gNil_))) tYes (e2 pSub (eVar 2) (eVar 3)) [2, 3])) [1])))
def F_surplus_of : FF := fnEv 1 4 m_surplus_of
theorem b_surplus_of (Z : Zt g mg base) (cdv : Value) (A : Around) (outer : List Env) (s : Shared) (H : Hp) (E : XK) (hcd : ∃ oc od fd osl, g.K.lookup (g.fa 24) = some ⟨oc, od, .func fd, osl⟩ ∧ fd.code = cdv) (ok : Ok g (cD g Pr w mg base ["sale", "row", "number", "reserve"] "surplus_of" (defScope s_surplus_of) (g.fa 24) cdv A outer s H E) (wD E) 0) : SB g (cD g Pr w mg base ["sale", "row", "number", "reserve"] "surplus_of" (defScope s_surplus_of) (g.fa 24) cdv A outer s H E) (wD E) (defBody s_surplus_of) m_surplus_of := 
  (sb_one (ss_ret (se_fr (sf_comp (is := [1]) (own := [("row", 1)]) ok (si_seq ok.K (se_ix (is_ix ok.K) (se_var (i := 0) rfl (vis_by rfl)) se_int (fun _ _ => rfl))) (blkOk_by (by rfl)) (by decide) (hg_name (B := Blk _ _) (j := 1) (fun _ _ _ _ _ => ok.nd) (fun _ _ _ _ _ => rfl) (fun _ _ _ _ _ => loc_by rfl) (fun _ _ _ _ _ => .inr rfl)) (fun _ _ _ _ _ ok1 => sts_nil) (fun _ _ _ _ _ ok1 => (se_fr (sf_comp (is := [2, 3]) (own := [("number", 2), ("reserve", 3)]) ok1 (si_zip ok1.K rfl Z.fr_zip (se_var (i := 1) rfl (vis_by rfl)) (se_ix (is_ix ok1.K) (se_var (i := 0) rfl (vis_by rfl)) se_int (fun _ _ => rfl))) (blkOk_by (by rfl)) (by decide) (hg_tup (B := Blk _ _) (fun _ _ _ _ _ => ok1.calm) (fun _ _ _ _ _ => ok1.K) (hgs_cons (B := Blk _ _) (hg_name (B := Blk _ _) (j := 2) (fun _ _ _ _ _ => ok1.nd) (fun _ _ _ _ _ => rfl) (fun _ _ _ _ _ => loc_by rfl) (fun _ _ _ _ _ => .inr rfl)) (hgs_cons (B := Blk _ _) (hg_name (B := Blk _ _) (j := 3) (fun _ _ _ _ _ => ok1.nd) (fun _ _ _ _ _ => rfl) (fun _ _ _ _ _ => loc_by rfl) (fun _ _ _ _ _ => .inr rfl)) hgs_nil))) (fun _ _ _ _ _ ok2 => sts_nil) (fun _ _ _ _ _ ok2 => (se_op os_sub (se_var (i := 2) rfl (vis_by rfl)) (se_var (i := 3) rfl (vis_by rfl)))))))))))
theorem d_surplus_of (Z : Zt g mg base) : DefE g Pr w mg base 1 24 1 F_surplus_of :=
  defE_of (N := ["sale", "row", "number", "reserve"]) (ps := ["sale"]) Z.fd_surplus_of sc_surplus_of rfl rfl (fun _ _ _ _ _ _ us hl => match us, hl with | [_], _ => rfl) (b_surplus_of Z)
theorem sc_holders_of : FnScope ["sale", "bidder", "surplus", "holder"] ["sale"] (defScope s_holders_of) := ⟨rfl, rfl, rfl, by decide +kernel, rfl, by decide +kernel, by decide +kernel⟩
def m_holders_of : BF := (sSeq (sPar 2 3 (zCons (vE (eFn F_surplus_of (zVal (eVar 0) zNil))) (zCons (vNew (f2s lMul (vE (eFr (fLst (aCons (eC (.int (-1))) aNil)))) (vE (eCall bLen (aCons (e2 pIx (eVar 0) (eC (.int 0))) aNil))))) zNil)))
  (sSeq (sFor (aRng1 (eCall bLen (aCons (e2 pIx (eVar 0) (eC (.int 1))) aNil))) (gN 1) (sExpr (eFn F_let_in (zVal (eVar 2) (zCons (vVar 3) (zVal (eVar 1) zNil))))))
  (sRet (eFrz (vVar 3)))))
def F_holders_of : FF := fnEv 1 4 m_holders_of
theorem b_holders_of (Z : Zt g mg base) (cdv : Value) (A : Around) (outer : List Env) (s : Shared) (H : Hp) (E : XK) (hcd : ∃ oc od fd osl, g.K.lookup (g.fa 27) = some ⟨oc, od, .func fd, osl⟩ ∧ fd.code = cdv) (ok : Ok g (cD g Pr w mg base ["sale", "bidder", "surplus", "holder"] "holders_of" (defScope s_holders_of) (g.fa 27) cdv A outer s H E) (wD E) 2) : SB g (cD g Pr w mg base ["sale", "bidder", "surplus", "holder"] "holders_of" (defScope s_holders_of) (g.fa 27) cdv A outer s H E) (wD E) (defBody s_holders_of) m_holders_of := 
  (sb_cons (ss_par (i := 2) (j := 3) ok.calm ok.nd rfl rfl (by decide) rfl rfl (sz_cons (sv_e (se_fnD ok (d_surplus_of Z) (by decide) rfl Z.gl_surplus_of (sz_val (se_var (i := 0) rfl (vis_by rfl)) sz_nil) (zl_val zl_nil))) (sz_cons (sv_new (sf_opS of_mul (sv_e (se_fr (sf_lst (sa_cons (se_gi (i := (-1)) rfl Z.gi_NONE) sa_nil)))) (sv_e (se_callB (cs_len ok.K) rfl Z.fr_len bt_len (sa_cons (se_ix (is_ix ok.K) (se_var (i := 0) rfl (vis_by rfl)) se_int (fun _ _ => rfl)) sa_nil))))) sz_nil)) (by rfl))
  (sb_cons (ss_for (passes_of rfl) ok.calm (si_range1 rfl Z.fr_range (se_callB (cs_len ok.K) rfl Z.fr_len bt_len (sa_cons (se_ix (is_ix ok.K) (se_var (i := 0) rfl (vis_by rfl)) se_int (fun _ _ => rfl)) sa_nil))) (sg_name (i := 1) ok.nd rfl (loc_by rfl)) (sb_one (ss_expr (se_fnD ok (d_let_in Z) (by decide) rfl Z.gl_let_in (sz_val (se_var (i := 2) rfl (vis_by rfl)) (sz_cons (sv_var (i := 3) rfl (vis_by rfl)) (sz_val (se_var (i := 1) rfl (vis_by rfl)) sz_nil))) (zl_val (zl_cons (zl_val zl_nil)))))))
  (sb_one (ss_ret (se_frz (sv_var (i := 3) rfl (vis_by rfl)))))))
theorem d_holders_of (Z : Zt g mg base) : DefE g Pr w mg base 3 27 1 F_holders_of :=
  defE_of (N := ["sale", "bidder", "surplus", "holder"]) (ps := ["sale"]) Z.fd_holders_of sc_holders_of rfl rfl (fun _ _ _ _ _ _ us hl => match us, hl with | [_], _ => rfl) (b_holders_of Z)
theorem sc_names_by : FnScope ["sale", "holder", "bidder"] ["sale", "holder"] (defScope s_names_by) := ⟨rfl, rfl, rfl, by decide +kernel, rfl, by decide +kernel, by decide +kernel⟩
def m_names_by : BF := (sRet (eFr (fComp (aRng1 (eCall bLen (aCons (e2 pIx (eVar 0) (eC (.int 1))) aNil))) (gN 2) tYes (eIf (tB (e2 pIn (eVar 2) (eVar 1))) (eIndex (vE (eVar 1)) (eVar 2)) (eC (.int (-1)))) [2])))
def F_names_by : FF := fnEv 2 3 m_names_by
theorem b_names_by (Z : Zt g mg base) (cdv : Value) (A : Around) (outer : List Env) (s : Shared) (H : Hp) (E : XK) (hcd : ∃ oc od fd osl, g.K.lookup (g.fa 37) = some ⟨oc, od, .func fd, osl⟩ ∧ fd.code = cdv) (ok : Ok g (cD g Pr w mg base ["sale", "holder", "bidder"] "names_by" (defScope s_names_by) (g.fa 37) cdv A outer s H E) (wD E) 0) : SB g (cD g Pr w mg base ["sale", "holder", "bidder"] "names_by" (defScope s_names_by) (g.fa 37) cdv A outer s H E) (wD E) (defBody s_names_by) m_names_by := 
  (sb_one (ss_ret (se_fr (sf_comp (is := [2]) (own := [("bidder", 2)]) ok (si_range1 rfl Z.fr_range (se_callB (cs_len ok.K) rfl Z.fr_len bt_len (sa_cons (se_ix (is_ix ok.K) (se_var (i := 0) rfl (vis_by rfl)) se_int (fun _ _ => rfl)) sa_nil))) (blkOk_by (by rfl)) (by decide) (hg_name (B := Blk _ _) (j := 2) (fun _ _ _ _ _ => ok.nd) (fun _ _ _ _ _ => rfl) (fun _ _ _ _ _ => loc_by rfl) (fun _ _ _ _ _ => .inr rfl)) (fun _ _ _ _ _ ok1 => sts_nil) (fun _ _ _ _ _ ok1 => (se_if (st_cmp (os_in ok1) (se_var (i := 2) rfl (vis_by rfl)) (se_var (i := 1) rfl (vis_by rfl)) (by rfl)) (se_index ok1 (sv_e (se_var (i := 1) rfl (vis_by rfl))) (se_var (i := 2) rfl (vis_by rfl))) (se_gi (i := (-1)) rfl Z.gi_NONE)))))))
theorem d_names_by (Z : Zt g mg base) : DefE g Pr w mg base 1 37 2 F_names_by :=
  defE_of (N := ["sale", "holder", "bidder"]) (ps := ["sale", "holder"]) Z.fd_names_by sc_names_by rfl rfl (fun _ _ _ _ _ _ us hl => match us, hl with | [_, _], _ => rfl) (b_names_by Z)
theorem sc_other_ways : FnScope ["surplus", "holder", "own", "rest", "found", "bidder", "place", "name", "other", "won"] ["surplus", "holder", "own", "rest"] (defScope s_other_ways) := ⟨rfl, rfl, rfl, by decide +kernel, rfl, by decide +kernel, by decide +kernel⟩
def m_other_ways : BF := (sSeq (sCell 4 (f2s lMul (vE (eFr (fLst (aCons (eC (.int 0)) aNil)))) (vE (eCall bLen (aCons (eVar 2) aNil)))))
  (sSeq (sFor (aEnum (eVar 2)) (gT 2 (gCons_ (gN 5) (gCons_ (gN 6) gNil_))) (sFor (aEnum (eVar 1)) (gT 2 (gCons_ (gN 7) (gCons_ (gN 8) gNil_))) (sIf (tAnd (tB (e2 pNe (eVar 6) (eC (.int (-1))))) (tB (e2 pNe (eVar 7) (eVar 6)))) (sSeq (sSet 9 (e2 pAdd (e2 pIx (e2 pIx (eVar 0) (eVar 5)) (eVar 7)) (eIf (tB (e2 pNe (eVar 8) (eC (.int (-1))))) (e2 pSub (e2 pIx (eVar 3) (eVar 8)) (e2 pIx (e2 pIx (eVar 0) (eVar 8)) (eVar 7))) (eC (.int 0)))))
  (sAsg (vE (eCall bMax (aCons (e2s pIx (vVar 4) (vE (eVar 5))) (aCons (eVar 9) aNil)))) (gvSub (vVar 4) (eVar 5)))) sNil)))
  (sRet (eFrz (vVar 4)))))
def F_other_ways : FF := fnEv 4 10 m_other_ways
theorem b_other_ways (Z : Zt g mg base) (cdv : Value) (A : Around) (outer : List Env) (s : Shared) (H : Hp) (E : XK) (hcd : ∃ oc od fd osl, g.K.lookup (g.fa 41) = some ⟨oc, od, .func fd, osl⟩ ∧ fd.code = cdv) (ok : Ok g (cD g Pr w mg base ["surplus", "holder", "own", "rest", "found", "bidder", "place", "name", "other", "won"] "other_ways" (defScope s_other_ways) (g.fa 41) cdv A outer s H E) (wD E) 0) : SB g (cD g Pr w mg base ["surplus", "holder", "own", "rest", "found", "bidder", "place", "name", "other", "won"] "other_ways" (defScope s_other_ways) (g.fa 41) cdv A outer s H E) (wD E) (defBody s_other_ways) m_other_ways := 
  (sb_cons (ss_cell (i := 4) ok.nd rfl (loc_by rfl) (sf_opS of_mul (sv_e (se_fr (sf_lst (sa_cons se_int sa_nil)))) (sv_e (se_callB (cs_len ok.K) rfl Z.fr_len bt_len (sa_cons (se_var (i := 2) rfl (vis_by rfl)) sa_nil)))))
  (sb_cons (ss_for (passes_of rfl) ok.calm (si_enum ok.K rfl Z.fr_enumerate (se_var (i := 2) rfl (vis_by rfl))) (sg_tup ok.calm ok.K (sgs_cons (sg_name (i := 5) ok.nd rfl (loc_by rfl)) (sgs_cons (sg_name (i := 6) ok.nd rfl (loc_by rfl)) sgs_nil))) (sb_one (ss_for (passes_of rfl) ok.calm (si_enum ok.K rfl Z.fr_enumerate (se_var (i := 1) rfl (vis_by rfl))) (sg_tup ok.calm ok.K (sgs_cons (sg_name (i := 7) ok.nd rfl (loc_by rfl)) (sgs_cons (sg_name (i := 8) ok.nd rfl (loc_by rfl)) sgs_nil))) (sb_one (ss_if (st_w (sw_and (st_cmp (os_ne ok) (se_var (i := 6) rfl (vis_by rfl)) (se_gi (i := (-1)) rfl Z.gi_NONE) (by rfl)) (sw_1 (st_cmp (os_ne ok) (se_var (i := 7) rfl (vis_by rfl)) (se_var (i := 6) rfl (vis_by rfl)) (by rfl)) (.inl rfl)))) (sb_cons (ss_set (i := 9) ok.nd rfl (loc_by rfl) (se_op (os_add ok.K) (se_ix (is_ix ok.K) (se_ix (is_ix ok.K) (se_var (i := 0) rfl (vis_by rfl)) (se_var (i := 5) rfl (vis_by rfl)) (fun _ _ => rfl)) (se_var (i := 7) rfl (vis_by rfl)) (fun _ _ => rfl)) (se_if (st_cmp (os_ne ok) (se_var (i := 8) rfl (vis_by rfl)) (se_gi (i := (-1)) rfl Z.gi_NONE) (by rfl)) (se_op os_sub (se_ix (is_ix ok.K) (se_var (i := 3) rfl (vis_by rfl)) (se_var (i := 8) rfl (vis_by rfl)) (fun _ _ => rfl)) (se_ix (is_ix ok.K) (se_ix (is_ix ok.K) (se_var (i := 0) rfl (vis_by rfl)) (se_var (i := 8) rfl (vis_by rfl)) (fun _ _ => rfl)) (se_var (i := 7) rfl (vis_by rfl)) (fun _ _ => rfl))) se_int)))
  (sb_one (ss_asg (sv_e (se_callB (cs_max ok) rfl Z.fr_max bt_max (sa_cons (se_ixS (is_ix ok.K) (sv_var (i := 4) rfl (vis_by rfl)) (sv_e (se_var (i := 5) rfl (vis_by rfl))) (fun _ _ => rfl)) (sa_cons (se_var (i := 9) rfl (vis_by rfl)) sa_nil)))) (sgv_sub (sv_var (i := 4) rfl (vis_by rfl)) (se_var (i := 5) rfl (vis_by rfl)))))) sb_nil)))))
  (sb_one (ss_ret (se_frz (sv_var (i := 4) rfl (vis_by rfl)))))))
theorem d_other_ways (Z : Zt g mg base) : DefE g Pr w mg base 1 41 4 F_other_ways :=
  defE_of (N := ["surplus", "holder", "own", "rest", "found", "bidder", "place", "name", "other", "won"]) (ps := ["surplus", "holder", "own", "rest"]) Z.fd_other_ways sc_other_ways rfl rfl (fun _ _ _ _ _ _ us hl => match us, hl with | [_, _, _, _], _ => rfl) (b_other_ways Z)
theorem sc_greatest_in : FnScope ["sale", "turn", "found", "surplus", "holder", "own", "rest", "bidder", "name"] ["sale"] (defScope s_greatest_in) := ⟨rfl, rfl, rfl, by decide +kernel, rfl, by decide +kernel, by decide +kernel⟩
def m_greatest_in : BF := (sSeq (sPar 3 4 (zCons (vE (eFn F_surplus_of (zVal (eVar 0) zNil))) (zCons (vE (eFn F_holders_of (zVal (eVar 0) zNil))) zNil)))
  (sSeq (sPar 5 6 (zCons (vE (eFn F_names_by (zVal (eVar 0) (zVal (eVar 4) zNil)))) (zCons (vE (eFr (f2s lMul (vE (eFr (fLst (aCons (eC (.int 0)) aNil)))) (vE (eCall bLen (aCons (e2 pIx (eVar 0) (eC (.int 1))) aNil)))))) zNil)))
  (sSeq (sFor (aRng1 (eCall bLen (aCons (eVar 4) aNil))) (gN 1) (sSet 6 (eFn F_other_ways (zVal (eVar 3) (zVal (eVar 4) (zVal (eVar 5) (zVal (eVar 6) zNil)))))))
  (sSeq (sCell 2 (fCall lList (aCons (e2 pIx (eVar 0) (eC (.int 0))) aNil)))
  (sSeq (sFor (aEnum (eVar 5)) (gT 2 (gCons_ (gN 7) (gCons_ (gN 8) gNil_))) (sIf (tB (e2 pNe (eVar 8) (eC (.int (-1))))) (sAsg (vE (e2 pSub (e2 pIx (e2 pIx (e2 pIx (eVar 0) (eC (.int 1))) (eVar 7)) (eVar 8)) (e2 pIx (eVar 6) (eVar 7)))) (gvSub (vVar 2) (eVar 8))) sNil))
  (sRet (eCallS bTup (zCons (vVar 2) zNil))))))))
def F_greatest_in : FF := fnEv 1 9 m_greatest_in
theorem b_greatest_in (Z : Zt g mg base) (cdv : Value) (A : Around) (outer : List Env) (s : Shared) (H : Hp) (E : XK) (hcd : ∃ oc od fd osl, g.K.lookup (g.fa 42) = some ⟨oc, od, .func fd, osl⟩ ∧ fd.code = cdv) (ok : Ok g (cD g Pr w mg base ["sale", "turn", "found", "surplus", "holder", "own", "rest", "bidder", "name"] "greatest_in" (defScope s_greatest_in) (g.fa 42) cdv A outer s H E) (wD E) 3) : SB g (cD g Pr w mg base ["sale", "turn", "found", "surplus", "holder", "own", "rest", "bidder", "name"] "greatest_in" (defScope s_greatest_in) (g.fa 42) cdv A outer s H E) (wD E) (defBody s_greatest_in) m_greatest_in := 
  (sb_cons (ss_par (i := 3) (j := 4) ok.calm ok.nd rfl rfl (by decide) rfl rfl (sz_cons (sv_e (se_fnD ok (d_surplus_of Z) (by decide) rfl Z.gl_surplus_of (sz_val (se_var (i := 0) rfl (vis_by rfl)) sz_nil) (zl_val zl_nil))) (sz_cons (sv_e (se_fnD ok (d_holders_of Z) (by decide) rfl Z.gl_holders_of (sz_val (se_var (i := 0) rfl (vis_by rfl)) sz_nil) (zl_val zl_nil))) sz_nil)) (by rfl))
  (sb_cons (ss_par (i := 5) (j := 6) ok.calm ok.nd rfl rfl (by decide) rfl rfl (sz_cons (sv_e (se_fnD ok (d_names_by Z) (by decide) rfl Z.gl_names_by (sz_val (se_var (i := 0) rfl (vis_by rfl)) (sz_val (se_var (i := 4) rfl (vis_by rfl)) sz_nil)) (zl_val (zl_val zl_nil)))) (sz_cons (sv_e (se_fr (sf_opS of_mul (sv_e (se_fr (sf_lst (sa_cons se_int sa_nil)))) (sv_e (se_callB (cs_len ok.K) rfl Z.fr_len bt_len (sa_cons (se_ix (is_ix ok.K) (se_var (i := 0) rfl (vis_by rfl)) se_int (fun _ _ => rfl)) sa_nil)))))) sz_nil)) (by rfl))
  (sb_cons (ss_for (passes_of rfl) ok.calm (si_range1 rfl Z.fr_range (se_callB (cs_len ok.K) rfl Z.fr_len bt_len (sa_cons (se_var (i := 4) rfl (vis_by rfl)) sa_nil))) (sg_name (i := 1) ok.nd rfl (loc_by rfl)) (sb_one (ss_set (i := 6) ok.nd rfl (loc_by rfl) (se_fnD ok (d_other_ways Z) (by decide) rfl Z.gl_other_ways (sz_val (se_var (i := 3) rfl (vis_by rfl)) (sz_val (se_var (i := 4) rfl (vis_by rfl)) (sz_val (se_var (i := 5) rfl (vis_by rfl)) (sz_val (se_var (i := 6) rfl (vis_by rfl)) sz_nil)))) (zl_val (zl_val (zl_val (zl_val zl_nil))))))))
  (sb_cons (ss_cell (i := 2) ok.nd rfl (loc_by rfl) (sf_callTy (cf_list ok.K) rfl Z.fr_list bt_list (sa_cons (se_ix (is_ix ok.K) (se_var (i := 0) rfl (vis_by rfl)) se_int (fun _ _ => rfl)) sa_nil)))
  (sb_cons (ss_for (passes_of rfl) ok.calm (si_enum ok.K rfl Z.fr_enumerate (se_var (i := 5) rfl (vis_by rfl))) (sg_tup ok.calm ok.K (sgs_cons (sg_name (i := 7) ok.nd rfl (loc_by rfl)) (sgs_cons (sg_name (i := 8) ok.nd rfl (loc_by rfl)) sgs_nil))) (sb_one (ss_if (st_cmp (os_ne ok) (se_var (i := 8) rfl (vis_by rfl)) (se_gi (i := (-1)) rfl Z.gi_NONE) (by rfl)) (sb_one (ss_asg (sv_e (se_op os_sub (se_ix (is_ix ok.K) (se_ix (is_ix ok.K) (se_ix (is_ix ok.K) (se_var (i := 0) rfl (vis_by rfl)) se_int (fun _ _ => rfl)) (se_var (i := 7) rfl (vis_by rfl)) (fun _ _ => rfl)) (se_var (i := 8) rfl (vis_by rfl)) (fun _ _ => rfl)) (se_ix (is_ix ok.K) (se_var (i := 6) rfl (vis_by rfl)) (se_var (i := 7) rfl (vis_by rfl)) (fun _ _ => rfl)))) (sgv_sub (sv_var (i := 2) rfl (vis_by rfl)) (se_var (i := 8) rfl (vis_by rfl))))) sb_nil)))
  (sb_one (ss_ret (se_callTyS (cs_tup ok.K) rfl Z.fr_tuple bt_tuple (sz_cons (sv_var (i := 2) rfl (vis_by rfl)) sz_nil)))))))))
theorem d_greatest_in (Z : Zt g mg base) : DefE g Pr w mg base 4 42 1 F_greatest_in :=
  defE_of (N := ["sale", "turn", "found", "surplus", "holder", "own", "rest", "bidder", "name"]) (ps := ["sale"]) Z.fd_greatest_in sc_greatest_in rfl rfl (fun _ _ _ _ _ _ us hl => match us, hl with | [_], _ => rfl) (b_greatest_in Z)
theorem sc_is_whole : FnScope ["value", "low", "high"] ["value", "low", "high"] (defScope s_is_whole) := ⟨rfl, rfl, rfl, by decide +kernel, rfl, by decide +kernel, by decide +kernel⟩
def m_is_whole : BF := (sRet (eAnd (eCall bIsI (aCons (eVar 0) (aCons (eC (.ty "int")) aNil))) (eAnd (eNot (eCall bIsI (aCons (eVar 0) (aCons (eC (.ty "bool")) aNil)))) (eChain pLe pLe (eVar 1) (eVar 0) (eVar 2)))))
def F_is_whole : FF := fnEv 3 3 m_is_whole
theorem b_is_whole (Z : Zt g mg base) (cdv : Value) (A : Around) (outer : List Env) (s : Shared) (H : Hp) (E : XK) (hcd : ∃ oc od fd osl, g.K.lookup (g.fa 11) = some ⟨oc, od, .func fd, osl⟩ ∧ fd.code = cdv) (ok : Ok g (cD g Pr w mg base ["value", "low", "high"] "is_whole" (defScope s_is_whole) (g.fa 11) cdv A outer s H E) (wD E) 0) : SB g (cD g Pr w mg base ["value", "low", "high"] "is_whole" (defScope s_is_whole) (g.fa 11) cdv A outer s H E) (wD E) (defBody s_is_whole) m_is_whole := 
  (sb_one (ss_ret (se_and (se_callB (cs_isi ok.K) rfl Z.fr_isinstance bt_isinstance (sa_cons (se_var (i := 0) rfl (vis_by rfl)) (sa_cons (se_ty rfl Z.fr_int bt_int) sa_nil))) (se_and (se_not (se_callB (cs_isi ok.K) rfl Z.fr_isinstance bt_isinstance (sa_cons (se_var (i := 0) rfl (vis_by rfl)) (sa_cons (se_ty rfl Z.fr_bool bt_bool) sa_nil)))) (se_one (se_chain os_le os_le (se_var (i := 1) rfl (vis_by rfl)) (se_var (i := 0) rfl (vis_by rfl)) (se_var (i := 2) rfl (vis_by rfl))))))))
theorem d_is_whole (Z : Zt g mg base) : DefE g Pr w mg base 1 11 3 F_is_whole :=
  defE_of (N := ["value", "low", "high"]) (ps := ["value", "low", "high"]) Z.fd_is_whole sc_is_whole rfl rfl (fun _ _ _ _ _ _ us hl => match us, hl with | [_, _, _], _ => rfl) (b_is_whole Z)
theorem sc_need_bidder : FnScope ["sale", "value"] ["sale", "value"] (defScope s_need_bidder) := ⟨rfl, rfl, rfl, by decide +kernel, rfl, by decide +kernel, by decide +kernel⟩
def m_need_bidder : BF := (sIf (tNot (tB (eFn F_is_whole (zVal (eVar 1) (zVal (eC (.int 0)) (zVal (e2 pSub (eCall bLen (aCons (e2 pIx (eVar 0) (eC (.int 1))) aNil)) (eC (.int 1))) zNil)))))) (sRaise 3) sNil)
def F_need_bidder : FF := fnEv 2 2 m_need_bidder
theorem b_need_bidder (Z : Zt g mg base) (cdv : Value) (A : Around) (outer : List Env) (s : Shared) (H : Hp) (E : XK) (hcd : ∃ oc od fd osl, g.K.lookup (g.fa 18) = some ⟨oc, od, .func fd, osl⟩ ∧ fd.code = cdv) (ok : Ok g (cD g Pr w mg base ["sale", "value"] "need_bidder" (defScope s_need_bidder) (g.fa 18) cdv A outer s H E) (wD E) 1) : SB g (cD g Pr w mg base ["sale", "value"] "need_bidder" (defScope s_need_bidder) (g.fa 18) cdv A outer s H E) (wD E) (defBody s_need_bidder) m_need_bidder := 
  (sb_one (ss_if (st_not (st_val (se_fnD ok (d_is_whole Z) (by decide) rfl Z.gl_is_whole (sz_val (se_var (i := 1) rfl (vis_by rfl)) (sz_val se_int (sz_val (se_op os_sub (se_callB (cs_len ok.K) rfl Z.fr_len bt_len (sa_cons (se_ix (is_ix ok.K) (se_var (i := 0) rfl (vis_by rfl)) se_int (fun _ _ => rfl)) sa_nil)) se_int) sz_nil))) (zl_val (zl_val (zl_val zl_nil)))))) (sb_one (ss_raiseK (n := 3) ok Z.ex_InvalidBidder Z.gl_InvalidBidder rfl)) sb_nil))
theorem d_need_bidder (Z : Zt g mg base) : DefE g Pr w mg base 2 18 2 F_need_bidder :=
  defE_of (N := ["sale", "value"]) (ps := ["sale", "value"]) Z.fd_need_bidder sc_need_bidder rfl rfl (fun _ _ _ _ _ _ us hl => match us, hl with | [_, _], _ => rfl) (b_need_bidder Z)
theorem sc_is_tuple_of : FnScope ["value", "low", "high"] ["value", "low", "high"] (defScope s_is_tuple_of) := ⟨rfl, rfl, rfl, by decide +kernel, rfl, by decide +kernel, by decide +kernel⟩
def m_is_tuple_of : BF := (sRet (eAnd (eCall bIsI (aCons (eVar 0) (aCons (eC (.ty "tuple")) aNil))) (eChain pLe pLe (eVar 1) (eCall bLen (aCons (eVar 0) aNil)) (eVar 2))))
def F_is_tuple_of : FF := fnEv 3 3 m_is_tuple_of
theorem b_is_tuple_of (Z : Zt g mg base) (cdv : Value) (A : Around) (outer : List Env) (s : Shared) (H : Hp) (E : XK) (hcd : ∃ oc od fd osl, g.K.lookup (g.fa 13) = some ⟨oc, od, .func fd, osl⟩ ∧ fd.code = cdv) (ok : Ok g (cD g Pr w mg base ["value", "low", "high"] "is_tuple_of" (defScope s_is_tuple_of) (g.fa 13) cdv A outer s H E) (wD E) 0) : SB g (cD g Pr w mg base ["value", "low", "high"] "is_tuple_of" (defScope s_is_tuple_of) (g.fa 13) cdv A outer s H E) (wD E) (defBody s_is_tuple_of) m_is_tuple_of := 
  (sb_one (ss_ret (se_and (se_callB (cs_isi ok.K) rfl Z.fr_isinstance bt_isinstance (sa_cons (se_var (i := 0) rfl (vis_by rfl)) (sa_cons (se_ty rfl Z.fr_tuple bt_tuple) sa_nil))) (se_one (se_chain os_le os_le (se_var (i := 1) rfl (vis_by rfl)) (se_callB (cs_len ok.K) rfl Z.fr_len bt_len (sa_cons (se_var (i := 0) rfl (vis_by rfl)) sa_nil)) (se_var (i := 2) rfl (vis_by rfl)))))))
theorem d_is_tuple_of (Z : Zt g mg base) : DefE g Pr w mg base 1 13 3 F_is_tuple_of :=
  defE_of (N := ["value", "low", "high"]) (ps := ["value", "low", "high"]) Z.fd_is_tuple_of sc_is_tuple_of rfl rfl (fun _ _ _ _ _ _ us hl => match us, hl with | [_, _, _], _ => rfl) (b_is_tuple_of Z)
theorem sc_is_row : FnScope ["value", "many", "item"] ["value", "many"] (defScope s_is_row) := ⟨rfl, rfl, rfl, by decide +kernel, rfl, by decide +kernel, by decide +kernel⟩
def m_is_row : BF := (sRet (eAnd (eFn F_is_tuple_of (zVal (eVar 0) (zVal (eVar 1) (zVal (eVar 1) zNil)))) (eCall bAll (aCons (eFr (fComp (aSeq (eVar 0)) (gN 2) tYes (eFn F_is_whole (zVal (eVar 2) (zVal (eC (.int 0)) (zVal (eC (.int 1000000)) zNil)))) [2])) aNil))))
def F_is_row : FF := fnEv 2 3 m_is_row
theorem b_is_row (Z : Zt g mg base) (cdv : Value) (A : Around) (outer : List Env) (s : Shared) (H : Hp) (E : XK) (hcd : ∃ oc od fd osl, g.K.lookup (g.fa 14) = some ⟨oc, od, .func fd, osl⟩ ∧ fd.code = cdv) (ok : Ok g (cD g Pr w mg base ["value", "many", "item"] "is_row" (defScope s_is_row) (g.fa 14) cdv A outer s H E) (wD E) 1) : SB g (cD g Pr w mg base ["value", "many", "item"] "is_row" (defScope s_is_row) (g.fa 14) cdv A outer s H E) (wD E) (defBody s_is_row) m_is_row := 
  (sb_one (ss_ret (se_and (se_fnD ok (d_is_tuple_of Z) (by decide) rfl Z.gl_is_tuple_of (sz_val (se_var (i := 0) rfl (vis_by rfl)) (sz_val (se_var (i := 1) rfl (vis_by rfl)) (sz_val (se_var (i := 1) rfl (vis_by rfl)) sz_nil))) (zl_val (zl_val (zl_val zl_nil)))) (se_one (se_callB (cs_all ok) rfl Z.fr_all bt_all (sa_cons (se_fr (sf_comp (is := [2]) (own := [("item", 2)]) ok (si_seq ok.K (se_var (i := 0) rfl (vis_by rfl))) (blkOk_by (by rfl)) (by decide) (hg_name (B := Blk _ _) (j := 2) (fun _ _ _ _ _ => ok.nd) (fun _ _ _ _ _ => rfl) (fun _ _ _ _ _ => loc_by rfl) (fun _ _ _ _ _ => .inr rfl)) (fun _ _ _ _ _ ok1 => sts_nil) (fun _ _ _ _ _ ok1 => (se_fnD ok1 (d_is_whole Z) (by decide) rfl Z.gl_is_whole (sz_val (se_var (i := 2) rfl (vis_by rfl)) (sz_val se_int (sz_val (se_gi (i := 1000000) rfl Z.gi_NUMBER) sz_nil))) (zl_val (zl_val (zl_val zl_nil))))))) sa_nil))))))
theorem d_is_row (Z : Zt g mg base) : DefE g Pr w mg base 2 14 2 F_is_row :=
  defE_of (N := ["value", "many", "item"]) (ps := ["value", "many"]) Z.fd_is_row sc_is_row rfl rfl (fun _ _ _ _ _ _ us hl => match us, hl with | [_, _], _ => rfl) (b_is_row Z)
theorem sc_is_sale : FnScope ["value", "row"] ["value"] (defScope s_is_sale) := ⟨rfl, rfl, rfl, by decide +kernel, rfl, by decide +kernel, by decide +kernel⟩
def m_is_sale : BF := (sSeq (sIf (tOr (tNot (tB (eFn F_is_tuple_of (zVal (eVar 0) (zVal (eC (.int 2)) (zVal (eC (.int 2)) zNil)))))) (tOr (tNot (tB (eFn F_is_tuple_of (zVal (e2 pIx (eVar 0) (eC (.int 0))) (zVal (eC (.int 0)) (zVal (eC (.int 16)) zNil)))))) (tNot (tB (eFn F_is_tuple_of (zVal (e2 pIx (eVar 0) (eC (.int 1))) (zVal (eC (.int 0)) (zVal (eC (.int 30)) zNil)))))))) (sRet (eC (.bl false))) sNil)
  (sRet (eCall bAll (aCons (eFr (fComp (aSeq (e2 pAdd (eSl (vE (eVar 0)) oNo (oSo (eC (.int 1)))) (e2 pIx (eVar 0) (eC (.int 1))))) (gN 1) tYes (eFn F_is_row (zVal (eVar 1) (zVal (eCall bLen (aCons (e2 pIx (eVar 0) (eC (.int 0))) aNil)) zNil))) [1])) aNil))))
def F_is_sale : FF := fnEv 1 2 m_is_sale
theorem b_is_sale (Z : Zt g mg base) (cdv : Value) (A : Around) (outer : List Env) (s : Shared) (H : Hp) (E : XK) (hcd : ∃ oc od fd osl, g.K.lookup (g.fa 15) = some ⟨oc, od, .func fd, osl⟩ ∧ fd.code = cdv) (ok : Ok g (cD g Pr w mg base ["value", "row"] "is_sale" (defScope s_is_sale) (g.fa 15) cdv A outer s H E) (wD E) 2) : SB g (cD g Pr w mg base ["value", "row"] "is_sale" (defScope s_is_sale) (g.fa 15) cdv A outer s H E) (wD E) (defBody s_is_sale) m_is_sale := 
  (sb_cons (ss_if (st_w (sw_or (st_not (st_val (se_fnD ok (d_is_tuple_of Z) (by decide) rfl Z.gl_is_tuple_of (sz_val (se_var (i := 0) rfl (vis_by rfl)) (sz_val se_int (sz_val se_int sz_nil))) (zl_val (zl_val (zl_val zl_nil)))))) (sw_or (st_not (st_val (se_fnD ok (d_is_tuple_of Z) (by decide) rfl Z.gl_is_tuple_of (sz_val (se_ix (is_ix ok.K) (se_var (i := 0) rfl (vis_by rfl)) se_int (fun _ _ => rfl)) (sz_val se_int (sz_val (se_gi (i := 16) rfl Z.gi_NAMES) sz_nil))) (zl_val (zl_val (zl_val zl_nil)))))) (sw_1 (st_not (st_val (se_fnD ok (d_is_tuple_of Z) (by decide) rfl Z.gl_is_tuple_of (sz_val (se_ix (is_ix ok.K) (se_var (i := 0) rfl (vis_by rfl)) se_int (fun _ _ => rfl)) (sz_val se_int (sz_val (se_gi (i := 30) rfl Z.gi_BIDDERS) sz_nil))) (zl_val (zl_val (zl_val zl_nil)))))) (.inr rfl))))) (sb_one (ss_ret se_bl)) sb_nil)
  (sb_one (ss_ret (se_callB (cs_all ok) rfl Z.fr_all bt_all (sa_cons (se_fr (sf_comp (is := [1]) (own := [("row", 1)]) ok (si_seq ok.K (se_op (os_add ok.K) (se_slice ok.K (sv_e (se_var (i := 0) rfl (vis_by rfl))) so_no (so_so se_int)) (se_ix (is_ix ok.K) (se_var (i := 0) rfl (vis_by rfl)) se_int (fun _ _ => rfl)))) (blkOk_by (by rfl)) (by decide) (hg_name (B := Blk _ _) (j := 1) (fun _ _ _ _ _ => ok.nd) (fun _ _ _ _ _ => rfl) (fun _ _ _ _ _ => loc_by rfl) (fun _ _ _ _ _ => .inr rfl)) (fun _ _ _ _ _ ok1 => sts_nil) (fun _ _ _ _ _ ok1 => (se_fnD ok1 (d_is_row Z) (by decide) rfl Z.gl_is_row (sz_val (se_var (i := 1) rfl (vis_by rfl)) (sz_val (se_callB (cs_len ok1.K) rfl Z.fr_len bt_len (sa_cons (se_ix (is_ix ok1.K) (se_var (i := 0) rfl (vis_by rfl)) se_int (fun _ _ => rfl)) sa_nil)) sz_nil)) (zl_val (zl_val zl_nil)))))) sa_nil)))))
theorem d_is_sale (Z : Zt g mg base) : DefE g Pr w mg base 3 15 1 F_is_sale :=
  defE_of (N := ["value", "row"]) (ps := ["value"]) Z.fd_is_sale sc_is_sale rfl rfl (fun _ _ _ _ _ _ us hl => match us, hl with | [_], _ => rfl) (b_is_sale Z)
theorem sc_need_sale : FnScope ["value"] ["value"] (defScope s_need_sale) := ⟨rfl, rfl, rfl, by decide +kernel, rfl, by decide +kernel, by decide +kernel⟩
def m_need_sale : BF := (sIf (tNot (tB (eFn F_is_sale (zVal (eVar 0) zNil)))) (sRaise 1) sNil)
def F_need_sale : FF := fnEv 1 1 m_need_sale
theorem b_need_sale (Z : Zt g mg base) (cdv : Value) (A : Around) (outer : List Env) (s : Shared) (H : Hp) (E : XK) (hcd : ∃ oc od fd osl, g.K.lookup (g.fa 16) = some ⟨oc, od, .func fd, osl⟩ ∧ fd.code = cdv) (ok : Ok g (cD g Pr w mg base ["value"] "need_sale" (defScope s_need_sale) (g.fa 16) cdv A outer s H E) (wD E) 3) : SB g (cD g Pr w mg base ["value"] "need_sale" (defScope s_need_sale) (g.fa 16) cdv A outer s H E) (wD E) (defBody s_need_sale) m_need_sale := 
  (sb_one (ss_if (st_not (st_val (se_fnD ok (d_is_sale Z) (by decide) rfl Z.gl_is_sale (sz_val (se_var (i := 0) rfl (vis_by rfl)) sz_nil) (zl_val zl_nil)))) (sb_one (ss_raiseK (n := 1) ok Z.ex_InvalidSale Z.gl_InvalidSale rfl)) sb_nil))
theorem d_need_sale (Z : Zt g mg base) : DefE g Pr w mg base 4 16 1 F_need_sale :=
  defE_of (N := ["value"]) (ps := ["value"]) Z.fd_need_sale sc_need_sale rfl rfl (fun _ _ _ _ _ _ us hl => match us, hl with | [_], _ => rfl) (b_need_sale Z)
theorem sc_sale_without : FnScope ["sale", "bidder"] ["sale", "bidder"] (defScope s_sale_without) := ⟨rfl, rfl, rfl, by decide +kernel, rfl, by decide +kernel, by decide +kernel⟩
def m_sale_without : BF := (sRet (eTup (aCons (e2 pIx (eVar 0) (eC (.int 0))) (aCons (e2 pAdd (eSl (vE (e2 pIx (eVar 0) (eC (.int 1)))) oNo (oSo (eVar 1))) (eSl (vE (e2 pIx (eVar 0) (eC (.int 1)))) (oSo (e2 pAdd (eVar 1) (eC (.int 1)))) oNo)) aNil))))
def F_sale_without : FF := fnEv 2 2 m_sale_without
theorem b_sale_without (Z : Zt g mg base) (cdv : Value) (A : Around) (outer : List Env) (s : Shared) (H : Hp) (E : XK) (hcd : ∃ oc od fd osl, g.K.lookup (g.fa 79) = some ⟨oc, od, .func fd, osl⟩ ∧ fd.code = cdv) (ok : Ok g (cD g Pr w mg base ["sale", "bidder"] "sale_without" (defScope s_sale_without) (g.fa 79) cdv A outer s H E) (wD E) 0) : SB g (cD g Pr w mg base ["sale", "bidder"] "sale_without" (defScope s_sale_without) (g.fa 79) cdv A outer s H E) (wD E) (defBody s_sale_without) m_sale_without := 
  (sb_one (ss_ret (se_tup (sa_cons (se_ix (is_ix ok.K) (se_var (i := 0) rfl (vis_by rfl)) se_int (fun _ _ => rfl)) (sa_cons (se_op (os_add ok.K) (se_slice ok.K (sv_e (se_ix (is_ix ok.K) (se_var (i := 0) rfl (vis_by rfl)) se_int (fun _ _ => rfl))) so_no (so_so (se_var (i := 1) rfl (vis_by rfl)))) (se_slice ok.K (sv_e (se_ix (is_ix ok.K) (se_var (i := 0) rfl (vis_by rfl)) se_int (fun _ _ => rfl))) (so_so (se_op (os_add ok.K) (se_var (i := 1) rfl (vis_by rfl)) se_int)) so_no)) sa_nil)))))
theorem d_sale_without (Z : Zt g mg base) : DefE g Pr w mg base 1 79 2 F_sale_without :=
  defE_of (N := ["sale", "bidder"]) (ps := ["sale", "bidder"]) Z.fd_sale_without sc_sale_without rfl rfl (fun _ _ _ _ _ _ us hl => match us, hl with | [_, _], _ => rfl) (b_sale_without Z)
theorem sc_menu : FnScope ["sale", "bidder"] ["sale", "bidder"] (defScope s_menu) := ⟨rfl, rfl, rfl, by decide +kernel, rfl, by decide +kernel, by decide +kernel⟩
def m_menu : BF := (sSeq (sExpr (eFn F_need_sale (zVal (eVar 0) zNil)))
  (sSeq (sExpr (eFn F_need_bidder (zVal (eVar 0) (zVal (eVar 1) zNil))))
  (sRet (eFn F_greatest_in (zVal (eFn F_sale_without (zVal (eVar 0) (zVal (eVar 1) zNil))) zNil)))))
def F_menu : FF := fnEv 2 2 m_menu
theorem b_menu (Z : Zt g mg base) (cdv : Value) (A : Around) (outer : List Env) (s : Shared) (H : Hp) (E : XK) (hcd : ∃ oc od fd osl, g.K.lookup (g.fa 80) = some ⟨oc, od, .func fd, osl⟩ ∧ fd.code = cdv) (ok : Ok g (cD g Pr w mg base ["sale", "bidder"] "menu" (defScope s_menu) (g.fa 80) cdv A outer s H E) (wD E) 4) : SB g (cD g Pr w mg base ["sale", "bidder"] "menu" (defScope s_menu) (g.fa 80) cdv A outer s H E) (wD E) (defBody s_menu) m_menu := 
  (sb_cons (ss_expr (se_fnD ok (d_need_sale Z) (by decide) rfl Z.gl_need_sale (sz_val (se_var (i := 0) rfl (vis_by rfl)) sz_nil) (zl_val zl_nil)))
  (sb_cons (ss_expr (se_fnD ok (d_need_bidder Z) (by decide) rfl Z.gl_need_bidder (sz_val (se_var (i := 0) rfl (vis_by rfl)) (sz_val (se_var (i := 1) rfl (vis_by rfl)) sz_nil)) (zl_val (zl_val zl_nil))))
  (sb_one (ss_ret (se_fnD ok (d_greatest_in Z) (by decide) rfl Z.gl_greatest_in (sz_val (se_fnD ok (d_sale_without Z) (by decide) rfl Z.gl_sale_without (sz_val (se_var (i := 0) rfl (vis_by rfl)) (sz_val (se_var (i := 1) rfl (vis_by rfl)) sz_nil)) (zl_val (zl_val zl_nil))) sz_nil) (zl_val zl_nil))))))
theorem d_menu (Z : Zt g mg base) : DefE g Pr w mg base 5 80 2 F_menu :=
  defE_of (N := ["sale", "bidder"]) (ps := ["sale", "bidder"]) Z.fd_menu sc_menu rfl rfl (fun _ _ _ _ _ _ us hl => match us, hl with | [_, _], _ => rfl) (b_menu Z)
theorem sc_need_row : FnScope ["sale", "value"] ["sale", "value"] (defScope s_need_row) := ⟨rfl, rfl, rfl, by decide +kernel, rfl, by decide +kernel, by decide +kernel⟩
def m_need_row : BF := (sIf (tNot (tB (eFn F_is_row (zVal (eVar 1) (zVal (eCall bLen (aCons (e2 pIx (eVar 0) (eC (.int 0))) aNil)) zNil))))) (sRaise 4) sNil)
def F_need_row : FF := fnEv 2 2 m_need_row
theorem b_need_row (Z : Zt g mg base) (cdv : Value) (A : Around) (outer : List Env) (s : Shared) (H : Hp) (E : XK) (hcd : ∃ oc od fd osl, g.K.lookup (g.fa 78) = some ⟨oc, od, .func fd, osl⟩ ∧ fd.code = cdv) (ok : Ok g (cD g Pr w mg base ["sale", "value"] "need_row" (defScope s_need_row) (g.fa 78) cdv A outer s H E) (wD E) 2) : SB g (cD g Pr w mg base ["sale", "value"] "need_row" (defScope s_need_row) (g.fa 78) cdv A outer s H E) (wD E) (defBody s_need_row) m_need_row := 
  (sb_one (ss_if (st_not (st_val (se_fnD ok (d_is_row Z) (by decide) rfl Z.gl_is_row (sz_val (se_var (i := 1) rfl (vis_by rfl)) (sz_val (se_callB (cs_len ok.K) rfl Z.fr_len bt_len (sa_cons (se_ix (is_ix ok.K) (se_var (i := 0) rfl (vis_by rfl)) se_int (fun _ _ => rfl)) sa_nil)) sz_nil)) (zl_val (zl_val zl_nil))))) (sb_one (ss_raiseK (n := 4) ok Z.ex_InvalidBids Z.gl_InvalidBids rfl)) sb_nil))
theorem d_need_row (Z : Zt g mg base) : DefE g Pr w mg base 3 78 2 F_need_row :=
  defE_of (N := ["sale", "value"]) (ps := ["sale", "value"]) Z.fd_need_row sc_need_row rfl rfl (fun _ _ _ _ _ _ us hl => match us, hl with | [_, _], _ => rfl) (b_need_row Z)
theorem sc_options_by : FnScope ["sale", "bidder", "bids", "found", "gains", "most", "names", "bid", "price", "name", "gain"] ["sale", "bidder", "bids"] (defScope s_options_by) := ⟨rfl, rfl, rfl, by decide +kernel, rfl, by decide +kernel, by decide +kernel⟩
def m_options_by : BF := (sSeq (sSet 3 (eFn F_menu (zVal (eVar 0) (zVal (eVar 1) zNil))))
  (sSeq (sExpr (eFn F_need_row (zVal (eVar 0) (zVal (eVar 2) zNil))))
  sStuck))
def F_options_by : FF := fnEv 3 11 m_options_by
theorem b_options_by (Z : Zt g mg base) (cdv : Value) (A : Around) (outer : List Env) (s : Shared) (H : Hp) (E : XK) (hcd : ∃ oc od fd osl, g.K.lookup (g.fa 81) = some ⟨oc, od, .func fd, osl⟩ ∧ fd.code = cdv) (ok : Ok g (cD g Pr w mg base ["sale", "bidder", "bids", "found", "gains", "most", "names", "bid", "price", "name", "gain"] "options_by" (defScope s_options_by) (g.fa 81) cdv A outer s H E) (wD E) 5) : SB g (cD g Pr w mg base ["sale", "bidder", "bids", "found", "gains", "most", "names", "bid", "price", "name", "gain"] "options_by" (defScope s_options_by) (g.fa 81) cdv A outer s H E) (wD E) (defBody s_options_by) m_options_by := 
  (sb_cons (ss_set (i := 3) ok.nd rfl (loc_by rfl) (se_fnD ok (d_menu Z) (by decide) rfl Z.gl_menu (sz_val (se_var (i := 0) rfl (vis_by rfl)) (sz_val (se_var (i := 1) rfl (vis_by rfl)) sz_nil)) (zl_val (zl_val zl_nil))))
  (sb_cons (ss_expr (se_fnD ok (d_need_row Z) (by decide) rfl Z.gl_need_row (sz_val (se_var (i := 0) rfl (vis_by rfl)) (sz_val (se_var (i := 2) rfl (vis_by rfl)) sz_nil)) (zl_val (zl_val zl_nil))))
  sb_stuck))
theorem d_options_by (Z : Zt g mg base) : DefE g Pr w mg base 6 81 3 F_options_by :=
  defE_of (N := ["sale", "bidder", "bids", "found", "gains", "most", "names", "bid", "price", "name", "gain"]) (ps := ["sale", "bidder", "bids"]) Z.fd_options_by sc_options_by rfl rfl (fun _ _ _ _ _ _ us hl => match us, hl with | [_, _, _], _ => rfl) (b_options_by Z)
theorem sc_need_prices : FnScope ["sale", "value", "many", "price", "reserve"] ["sale", "value"] (defScope s_need_prices) := ⟨rfl, rfl, rfl, by decide +kernel, rfl, by decide +kernel, by decide +kernel⟩
def m_need_prices : BF := (sSeq (sSet 2 (eCall bLen (aCons (e2 pIx (eVar 0) (eC (.int 0))) aNil)))
  (sSeq (sIf (tNot (tB (eFn F_is_tuple_of (zVal (eVar 1) (zVal (eVar 2) (zVal (eVar 2) zNil)))))) (sRaise 2) sNil)
  (sIf (tNot (tB (eCall bAll (aCons (eFr (fComp (aZip (eVar 1) (e2 pIx (eVar 0) (eC (.int 0)))) (gT 2 (gCons_ (gN 3) (gCons_ (gN 4) gNil_))) tYes (eFn F_is_whole (zVal (eVar 3) (zVal (eVar 4) (zVal (eC (.int 2000000)) zNil)))) [3, 4])) aNil)))) (sRaise 2) sNil)))
def F_need_prices : FF := fnEv 2 5 m_need_prices
theorem b_need_prices (Z : Zt g mg base) (cdv : Value) (A : Around) (outer : List Env) (s : Shared) (H : Hp) (E : XK) (hcd : ∃ oc od fd osl, g.K.lookup (g.fa 17) = some ⟨oc, od, .func fd, osl⟩ ∧ fd.code = cdv) (ok : Ok g (cD g Pr w mg base ["sale", "value", "many", "price", "reserve"] "need_prices" (defScope s_need_prices) (g.fa 17) cdv A outer s H E) (wD E) 1) : SB g (cD g Pr w mg base ["sale", "value", "many", "price", "reserve"] "need_prices" (defScope s_need_prices) (g.fa 17) cdv A outer s H E) (wD E) (defBody s_need_prices) m_need_prices := 
  (sb_cons (ss_set (i := 2) ok.nd rfl (loc_by rfl) (se_callB (cs_len ok.K) rfl Z.fr_len bt_len (sa_cons (se_ix (is_ix ok.K) (se_var (i := 0) rfl (vis_by rfl)) se_int (fun _ _ => rfl)) sa_nil)))
  (sb_cons (ss_if (st_not (st_val (se_fnD ok (d_is_tuple_of Z) (by decide) rfl Z.gl_is_tuple_of (sz_val (se_var (i := 1) rfl (vis_by rfl)) (sz_val (se_var (i := 2) rfl (vis_by rfl)) (sz_val (se_var (i := 2) rfl (vis_by rfl)) sz_nil))) (zl_val (zl_val (zl_val zl_nil)))))) (sb_one (ss_raiseK (n := 2) ok Z.ex_InvalidPrices Z.gl_InvalidPrices rfl)) sb_nil)
  (sb_one (ss_if (st_not (st_val (se_callB (cs_all ok) rfl Z.fr_all bt_all (sa_cons (se_fr (sf_comp (is := [3, 4]) (own := [("price", 3), ("reserve", 4)]) ok (si_zip ok.K rfl Z.fr_zip (se_var (i := 1) rfl (vis_by rfl)) (se_ix (is_ix ok.K) (se_var (i := 0) rfl (vis_by rfl)) se_int (fun _ _ => rfl))) (blkOk_by (by rfl)) (by decide) (hg_tup (B := Blk _ _) (fun _ _ _ _ _ => ok.calm) (fun _ _ _ _ _ => ok.K) (hgs_cons (B := Blk _ _) (hg_name (B := Blk _ _) (j := 3) (fun _ _ _ _ _ => ok.nd) (fun _ _ _ _ _ => rfl) (fun _ _ _ _ _ => loc_by rfl) (fun _ _ _ _ _ => .inr rfl)) (hgs_cons (B := Blk _ _) (hg_name (B := Blk _ _) (j := 4) (fun _ _ _ _ _ => ok.nd) (fun _ _ _ _ _ => rfl) (fun _ _ _ _ _ => loc_by rfl) (fun _ _ _ _ _ => .inr rfl)) hgs_nil))) (fun _ _ _ _ _ ok1 => sts_nil) (fun _ _ _ _ _ ok1 => (se_fnD ok1 (d_is_whole Z) (by decide) rfl Z.gl_is_whole (sz_val (se_var (i := 3) rfl (vis_by rfl)) (sz_val (se_var (i := 4) rfl (vis_by rfl)) (sz_val (se_gi (i := 2000000) rfl Z.gi_PRICE) sz_nil))) (zl_val (zl_val (zl_val zl_nil))))))) sa_nil)))) (sb_one (ss_raiseK (n := 2) ok Z.ex_InvalidPrices Z.gl_InvalidPrices rfl)) sb_nil))))
theorem d_need_prices (Z : Zt g mg base) : DefE g Pr w mg base 2 17 2 F_need_prices :=
  defE_of (N := ["sale", "value", "many", "price", "reserve"]) (ps := ["sale", "value"]) Z.fd_need_prices sc_need_prices rfl rfl (fun _ _ _ _ _ _ us hl => match us, hl with | [_, _], _ => rfl) (b_need_prices Z)
theorem sc_checked : FnScope ["sale", "prices"] ["sale", "prices"] (defScope s_checked) := ⟨rfl, rfl, rfl, by decide +kernel, rfl, by decide +kernel, by decide +kernel⟩
def m_checked : BF := (sSeq (sExpr (eFn F_need_sale (zVal (eVar 0) zNil)))
  (sExpr (eFn F_need_prices (zVal (eVar 0) (zVal (eVar 1) zNil)))))
def F_checked : FF := fnEv 2 2 m_checked
theorem b_checked (Z : Zt g mg base) (cdv : Value) (A : Around) (outer : List Env) (s : Shared) (H : Hp) (E : XK) (hcd : ∃ oc od fd osl, g.K.lookup (g.fa 56) = some ⟨oc, od, .func fd, osl⟩ ∧ fd.code = cdv) (ok : Ok g (cD g Pr w mg base ["sale", "prices"] "checked" (defScope s_checked) (g.fa 56) cdv A outer s H E) (wD E) 4) : SB g (cD g Pr w mg base ["sale", "prices"] "checked" (defScope s_checked) (g.fa 56) cdv A outer s H E) (wD E) (defBody s_checked) m_checked := 
  (sb_cons (ss_expr (se_fnD ok (d_need_sale Z) (by decide) rfl Z.gl_need_sale (sz_val (se_var (i := 0) rfl (vis_by rfl)) sz_nil) (zl_val zl_nil)))
  (sb_one (ss_expr (se_fnD ok (d_need_prices Z) (by decide) rfl Z.gl_need_prices (sz_val (se_var (i := 0) rfl (vis_by rfl)) (sz_val (se_var (i := 1) rfl (vis_by rfl)) sz_nil)) (zl_val (zl_val zl_nil))))))
theorem d_checked (Z : Zt g mg base) : DefE g Pr w mg base 5 56 2 F_checked :=
  defE_of (N := ["sale", "prices"]) (ps := ["sale", "prices"]) Z.fd_checked sc_checked rfl rfl (fun _ _ _ _ _ _ us hl => match us, hl with | [_, _], _ => rfl) (b_checked Z)
theorem sc_gain_in : FnScope ["row", "prices", "number", "price"] ["row", "prices"] (defScope s_gain_in) := ⟨rfl, rfl, rfl, by decide +kernel, rfl, by decide +kernel, by decide +kernel⟩
def m_gain_in : BF := (sRet (eCall bMax (aCons (eFr (f2s lAdd (vE (eFr (fLst (aCons (eC (.int 0)) aNil)))) (vE (eFr (fComp (aZip (eVar 0) (eVar 1)) (gT 2 (gCons_ (gN 2) (gCons_ (gN 3) gNil_))) tYes (e2 pSub (eVar 2) (eVar 3)) [2, 3]))))) aNil)))
def F_gain_in : FF := fnEv 2 4 m_gain_in
theorem b_gain_in (Z : Zt g mg base) (cdv : Value) (A : Around) (outer : List Env) (s : Shared) (H : Hp) (E : XK) (hcd : ∃ oc od fd osl, g.K.lookup (g.fa 22) = some ⟨oc, od, .func fd, osl⟩ ∧ fd.code = cdv) (ok : Ok g (cD g Pr w mg base ["row", "prices", "number", "price"] "gain_in" (defScope s_gain_in) (g.fa 22) cdv A outer s H E) (wD E) 0) : SB g (cD g Pr w mg base ["row", "prices", "number", "price"] "gain_in" (defScope s_gain_in) (g.fa 22) cdv A outer s H E) (wD E) (defBody s_gain_in) m_gain_in := 
  (sb_one (ss_ret (se_callB (cs_max ok) rfl Z.fr_max bt_max (sa_cons (se_fr (sf_opS of_add (sv_e (se_fr (sf_lst (sa_cons se_int sa_nil)))) (sv_e (se_fr (sf_comp (is := [2, 3]) (own := [("number", 2), ("price", 3)]) ok (si_zip ok.K rfl Z.fr_zip (se_var (i := 0) rfl (vis_by rfl)) (se_var (i := 1) rfl (vis_by rfl))) (blkOk_by (by rfl)) (by decide) (hg_tup (B := Blk _ _) (fun _ _ _ _ _ => ok.calm) (fun _ _ _ _ _ => ok.K) (hgs_cons (B := Blk _ _) (hg_name (B := Blk _ _) (j := 2) (fun _ _ _ _ _ => ok.nd) (fun _ _ _ _ _ => rfl) (fun _ _ _ _ _ => loc_by rfl) (fun _ _ _ _ _ => .inr rfl)) (hgs_cons (B := Blk _ _) (hg_name (B := Blk _ _) (j := 3) (fun _ _ _ _ _ => ok.nd) (fun _ _ _ _ _ => rfl) (fun _ _ _ _ _ => loc_by rfl) (fun _ _ _ _ _ => .inr rfl)) hgs_nil))) (fun _ _ _ _ _ ok1 => sts_nil) (fun _ _ _ _ _ ok1 => (se_op os_sub (se_var (i := 2) rfl (vis_by rfl)) (se_var (i := 3) rfl (vis_by rfl))))))))) sa_nil))))
theorem d_gain_in (Z : Zt g mg base) : DefE g Pr w mg base 1 22 2 F_gain_in :=
  defE_of (N := ["row", "prices", "number", "price"]) (ps := ["row", "prices"]) Z.fd_gain_in sc_gain_in rfl rfl (fun _ _ _ _ _ _ us hl => match us, hl with | [_, _], _ => rfl) (b_gain_in Z)
theorem sc_holders_by : FnScope ["sale", "allotment", "holder", "bidder", "name"] ["sale", "allotment"] (defScope s_holders_by) := ⟨rfl, rfl, rfl, by decide +kernel, rfl, by decide +kernel, by decide +kernel⟩
def m_holders_by : BF := (sSeq (sCell 2 (f2s lMul (vE (eFr (fLst (aCons (eC (.int (-1))) aNil)))) (vE (eCall bLen (aCons (e2 pIx (eVar 0) (eC (.int 0))) aNil)))))
  (sSeq (sFor (aSeq (eVar 1)) (gT 2 (gCons_ (gN 3) (gCons_ (gN 4) gNil_))) (sAsg (vE (eVar 3)) (gvSub (vVar 2) (eVar 4))))
  (sRet (eFrz (vVar 2)))))
def F_holders_by : FF := fnEv 2 5 m_holders_by
theorem b_holders_by (Z : Zt g mg base) (cdv : Value) (A : Around) (outer : List Env) (s : Shared) (H : Hp) (E : XK) (hcd : ∃ oc od fd osl, g.K.lookup (g.fa 29) = some ⟨oc, od, .func fd, osl⟩ ∧ fd.code = cdv) (ok : Ok g (cD g Pr w mg base ["sale", "allotment", "holder", "bidder", "name"] "holders_by" (defScope s_holders_by) (g.fa 29) cdv A outer s H E) (wD E) 0) : SB g (cD g Pr w mg base ["sale", "allotment", "holder", "bidder", "name"] "holders_by" (defScope s_holders_by) (g.fa 29) cdv A outer s H E) (wD E) (defBody s_holders_by) m_holders_by := 
  (sb_cons (ss_cell (i := 2) ok.nd rfl (loc_by rfl) (sf_opS of_mul (sv_e (se_fr (sf_lst (sa_cons (se_gi (i := (-1)) rfl Z.gi_NONE) sa_nil)))) (sv_e (se_callB (cs_len ok.K) rfl Z.fr_len bt_len (sa_cons (se_ix (is_ix ok.K) (se_var (i := 0) rfl (vis_by rfl)) se_int (fun _ _ => rfl)) sa_nil)))))
  (sb_cons (ss_for (passes_of rfl) ok.calm (si_seq ok.K (se_var (i := 1) rfl (vis_by rfl))) (sg_tup ok.calm ok.K (sgs_cons (sg_name (i := 3) ok.nd rfl (loc_by rfl)) (sgs_cons (sg_name (i := 4) ok.nd rfl (loc_by rfl)) sgs_nil))) (sb_one (ss_asg (sv_e (se_var (i := 3) rfl (vis_by rfl))) (sgv_sub (sv_var (i := 2) rfl (vis_by rfl)) (se_var (i := 4) rfl (vis_by rfl))))))
  (sb_one (ss_ret (se_frz (sv_var (i := 2) rfl (vis_by rfl)))))))
theorem d_holders_by (Z : Zt g mg base) : DefE g Pr w mg base 1 29 2 F_holders_by :=
  defE_of (N := ["sale", "allotment", "holder", "bidder", "name"]) (ps := ["sale", "allotment"]) Z.fd_holders_by sc_holders_by rfl rfl (fun _ _ _ _ _ _ us hl => match us, hl with | [_, _], _ => rfl) (b_holders_by Z)
theorem sc_goes_in : FnScope ["sale", "prices", "allotment", "holder", "row", "name", "bidder"] ["sale", "prices", "allotment"] (defScope s_goes_in) := ⟨rfl, rfl, rfl, by decide +kernel, rfl, by decide +kernel, by decide +kernel⟩
def m_goes_in : BF := (sSeq (sSet 3 (eFn F_holders_by (zVal (eVar 0) (zVal (eVar 2) zNil))))
  (sSeq (sFor (aZip (e2 pIx (eVar 0) (eC (.int 1))) (eFn F_names_by (zVal (eVar 0) (zVal (eVar 3) zNil)))) (gT 2 (gCons_ (gN 4) (gCons_ (gN 5) gNil_))) (sIf (tB (e2 pNe (eFn F_gain_in (zVal (eVar 4) (zVal (eVar 1) zNil))) (eIf (tB (e2 pNe (eVar 5) (eC (.int (-1))))) (e2 pSub (e2 pIx (eVar 4) (eVar 5)) (e2 pIx (eVar 1) (eVar 5))) (eC (.int 0))))) (sRet (eC (.bl false))) sNil))
  (sRet (eCall bAll (aCons (eFr (fComp (aEnum (eVar 3)) (gT 2 (gCons_ (gN 5) (gCons_ (gN 6) gNil_))) (tB (e2 pEq (eVar 6) (eC (.int (-1))))) (e2 pEq (e2 pIx (eVar 1) (eVar 5)) (e2 pIx (e2 pIx (eVar 0) (eC (.int 0))) (eVar 5))) [5, 6])) aNil)))))
def F_goes_in : FF := fnEv 3 7 m_goes_in
theorem b_goes_in (Z : Zt g mg base) (cdv : Value) (A : Around) (outer : List Env) (s : Shared) (H : Hp) (E : XK) (hcd : ∃ oc od fd osl, g.K.lookup (g.fa 38) = some ⟨oc, od, .func fd, osl⟩ ∧ fd.code = cdv) (ok : Ok g (cD g Pr w mg base ["sale", "prices", "allotment", "holder", "row", "name", "bidder"] "goes_in" (defScope s_goes_in) (g.fa 38) cdv A outer s H E) (wD E) 1) : SB g (cD g Pr w mg base ["sale", "prices", "allotment", "holder", "row", "name", "bidder"] "goes_in" (defScope s_goes_in) (g.fa 38) cdv A outer s H E) (wD E) (defBody s_goes_in) m_goes_in := 
  (sb_cons (ss_set (i := 3) ok.nd rfl (loc_by rfl) (se_fnD ok (d_holders_by Z) (by decide) rfl Z.gl_holders_by (sz_val (se_var (i := 0) rfl (vis_by rfl)) (sz_val (se_var (i := 2) rfl (vis_by rfl)) sz_nil)) (zl_val (zl_val zl_nil))))
  (sb_cons (ss_for (passes_of rfl) ok.calm (si_zip ok.K rfl Z.fr_zip (se_ix (is_ix ok.K) (se_var (i := 0) rfl (vis_by rfl)) se_int (fun _ _ => rfl)) (se_fnD ok (d_names_by Z) (by decide) rfl Z.gl_names_by (sz_val (se_var (i := 0) rfl (vis_by rfl)) (sz_val (se_var (i := 3) rfl (vis_by rfl)) sz_nil)) (zl_val (zl_val zl_nil)))) (sg_tup ok.calm ok.K (sgs_cons (sg_name (i := 4) ok.nd rfl (loc_by rfl)) (sgs_cons (sg_name (i := 5) ok.nd rfl (loc_by rfl)) sgs_nil))) (sb_one (ss_if (st_cmp (os_ne ok) (se_fnD ok (d_gain_in Z) (by decide) rfl Z.gl_gain_in (sz_val (se_var (i := 4) rfl (vis_by rfl)) (sz_val (se_var (i := 1) rfl (vis_by rfl)) sz_nil)) (zl_val (zl_val zl_nil))) (se_if (st_cmp (os_ne ok) (se_var (i := 5) rfl (vis_by rfl)) (se_gi (i := (-1)) rfl Z.gi_NONE) (by rfl)) (se_op os_sub (se_ix (is_ix ok.K) (se_var (i := 4) rfl (vis_by rfl)) (se_var (i := 5) rfl (vis_by rfl)) (fun _ _ => rfl)) (se_ix (is_ix ok.K) (se_var (i := 1) rfl (vis_by rfl)) (se_var (i := 5) rfl (vis_by rfl)) (fun _ _ => rfl))) se_int) (by rfl)) (sb_one (ss_ret se_bl)) sb_nil)))
  (sb_one (ss_ret (se_callB (cs_all ok) rfl Z.fr_all bt_all (sa_cons (se_fr (sf_comp (is := [5, 6]) (own := [("name", 5), ("bidder", 6)]) ok (si_enum ok.K rfl Z.fr_enumerate (se_var (i := 3) rfl (vis_by rfl))) (blkOk_by (by rfl)) (by decide) (hg_tup (B := Blk _ _) (fun _ _ _ _ _ => ok.calm) (fun _ _ _ _ _ => ok.K) (hgs_cons (B := Blk _ _) (hg_name (B := Blk _ _) (j := 5) (fun _ _ _ _ _ => ok.nd) (fun _ _ _ _ _ => rfl) (fun _ _ _ _ _ => loc_by rfl) (fun _ _ _ _ _ => .inr rfl)) (hgs_cons (B := Blk _ _) (hg_name (B := Blk _ _) (j := 6) (fun _ _ _ _ _ => ok.nd) (fun _ _ _ _ _ => rfl) (fun _ _ _ _ _ => loc_by rfl) (fun _ _ _ _ _ => .inr rfl)) hgs_nil))) (fun _ _ _ _ _ ok1 => (sts_one (st_cmp (os_eq ok1) (se_var (i := 6) rfl (vis_by rfl)) (se_gi (i := (-1)) rfl Z.gi_NONE) (by rfl)))) (fun _ _ _ _ _ ok1 => (se_cmp (os_eq ok1) (se_ix (is_ix ok1.K) (se_var (i := 1) rfl (vis_by rfl)) (se_var (i := 5) rfl (vis_by rfl)) (fun _ _ => rfl)) (se_ix (is_ix ok1.K) (se_ix (is_ix ok1.K) (se_var (i := 0) rfl (vis_by rfl)) se_int (fun _ _ => rfl)) (se_var (i := 5) rfl (vis_by rfl)) (fun _ _ => rfl)) (by rfl))))) sa_nil))))))
theorem d_goes_in (Z : Zt g mg base) : DefE g Pr w mg base 2 38 3 F_goes_in :=
  defE_of (N := ["sale", "prices", "allotment", "holder", "row", "name", "bidder"]) (ps := ["sale", "prices", "allotment"]) Z.fd_goes_in sc_goes_in rfl rfl (fun _ _ _ _ _ _ us hl => match us, hl with | [_, _, _], _ => rfl) (b_goes_in Z)
theorem sc_is_pair : FnScope ["sale", "value"] ["sale", "value"] (defScope s_is_pair) := ⟨rfl, rfl, rfl, by decide +kernel, rfl, by decide +kernel, by decide +kernel⟩
def m_is_pair : BF := (sSeq (sIf (tNot (tB (eFn F_is_tuple_of (zVal (eVar 1) (zVal (eC (.int 2)) (zVal (eC (.int 2)) zNil)))))) (sRet (eC (.bl false))) sNil)
  (sRet (eAnd (eFn F_is_whole (zVal (e2 pIx (eVar 1) (eC (.int 0))) (zVal (eC (.int 0)) (zVal (e2 pSub (eCall bLen (aCons (e2 pIx (eVar 0) (eC (.int 1))) aNil)) (eC (.int 1))) zNil)))) (eFn F_is_whole (zVal (e2 pIx (eVar 1) (eC (.int 1))) (zVal (eC (.int 0)) (zVal (e2 pSub (eCall bLen (aCons (e2 pIx (eVar 0) (eC (.int 0))) aNil)) (eC (.int 1))) zNil)))))))
def F_is_pair : FF := fnEv 2 2 m_is_pair
theorem b_is_pair (Z : Zt g mg base) (cdv : Value) (A : Around) (outer : List Env) (s : Shared) (H : Hp) (E : XK) (hcd : ∃ oc od fd osl, g.K.lookup (g.fa 19) = some ⟨oc, od, .func fd, osl⟩ ∧ fd.code = cdv) (ok : Ok g (cD g Pr w mg base ["sale", "value"] "is_pair" (defScope s_is_pair) (g.fa 19) cdv A outer s H E) (wD E) 1) : SB g (cD g Pr w mg base ["sale", "value"] "is_pair" (defScope s_is_pair) (g.fa 19) cdv A outer s H E) (wD E) (defBody s_is_pair) m_is_pair := 
  (sb_cons (ss_if (st_not (st_val (se_fnD ok (d_is_tuple_of Z) (by decide) rfl Z.gl_is_tuple_of (sz_val (se_var (i := 1) rfl (vis_by rfl)) (sz_val se_int (sz_val se_int sz_nil))) (zl_val (zl_val (zl_val zl_nil)))))) (sb_one (ss_ret se_bl)) sb_nil)
  (sb_one (ss_ret (se_and (se_fnD ok (d_is_whole Z) (by decide) rfl Z.gl_is_whole (sz_val (se_ix (is_ix ok.K) (se_var (i := 1) rfl (vis_by rfl)) se_int (fun _ _ => rfl)) (sz_val se_int (sz_val (se_op os_sub (se_callB (cs_len ok.K) rfl Z.fr_len bt_len (sa_cons (se_ix (is_ix ok.K) (se_var (i := 0) rfl (vis_by rfl)) se_int (fun _ _ => rfl)) sa_nil)) se_int) sz_nil))) (zl_val (zl_val (zl_val zl_nil)))) (se_one (se_fnD ok (d_is_whole Z) (by decide) rfl Z.gl_is_whole (sz_val (se_ix (is_ix ok.K) (se_var (i := 1) rfl (vis_by rfl)) se_int (fun _ _ => rfl)) (sz_val se_int (sz_val (se_op os_sub (se_callB (cs_len ok.K) rfl Z.fr_len bt_len (sa_cons (se_ix (is_ix ok.K) (se_var (i := 0) rfl (vis_by rfl)) se_int (fun _ _ => rfl)) sa_nil)) se_int) sz_nil))) (zl_val (zl_val (zl_val zl_nil)))))))))
theorem d_is_pair (Z : Zt g mg base) : DefE g Pr w mg base 2 19 2 F_is_pair :=
  defE_of (N := ["sale", "value"]) (ps := ["sale", "value"]) Z.fd_is_pair sc_is_pair rfl rfl (fun _ _ _ _ _ _ us hl => match us, hl with | [_, _], _ => rfl) (b_is_pair Z)
theorem sc_is_allotment : FnScope ["sale", "value", "bidders", "names", "pair"] ["sale", "value"] (defScope s_is_allotment) := ⟨rfl, rfl, rfl, by decide +kernel, rfl, by decide +kernel, by decide +kernel⟩
def m_is_allotment : BF := (sSeq (sIf (tOr (tNot (tB (eFn F_is_tuple_of (zVal (eVar 1) (zVal (eC (.int 0)) (zVal (eC (.int 16)) zNil)))))) (tNot (tB (eCall bAll (aCons (eFr (fComp (aSeq (eVar 1)) (gN 4) tYes (eFn F_is_pair (zVal (eVar 0) (zVal (eVar 4) zNil))) [4])) aNil))))) (sRet (eC (.bl false))) sNil)
  (sSeq (sPar 2 3 (zCons (vE (eFr (fComp (aSeq (eVar 1)) (gN 4) tYes (e2 pIx (eVar 4) (eC (.int 0))) [4]))) (zCons (vE (eFr (fComp (aSeq (eVar 1)) (gN 4) tYes (e2 pIx (eVar 4) (eC (.int 1))) [4]))) zNil)))
  (sRet (eAnd (e2s pEq (vE (eVar 2)) (vE (eFr (fSortedSet (vE (eVar 2)))))) (e2 pEq (eLenSet (vE (eVar 3))) (eCall bLen (aCons (eVar 3) aNil)))))))
def F_is_allotment : FF := fnEv 2 5 m_is_allotment
theorem b_is_allotment (Z : Zt g mg base) (cdv : Value) (A : Around) (outer : List Env) (s : Shared) (H : Hp) (E : XK) (hcd : ∃ oc od fd osl, g.K.lookup (g.fa 20) = some ⟨oc, od, .func fd, osl⟩ ∧ fd.code = cdv) (ok : Ok g (cD g Pr w mg base ["sale", "value", "bidders", "names", "pair"] "is_allotment" (defScope s_is_allotment) (g.fa 20) cdv A outer s H E) (wD E) 2) : SB g (cD g Pr w mg base ["sale", "value", "bidders", "names", "pair"] "is_allotment" (defScope s_is_allotment) (g.fa 20) cdv A outer s H E) (wD E) (defBody s_is_allotment) m_is_allotment := 
  (sb_cons (ss_if (st_w (sw_or (st_not (st_val (se_fnD ok (d_is_tuple_of Z) (by decide) rfl Z.gl_is_tuple_of (sz_val (se_var (i := 1) rfl (vis_by rfl)) (sz_val se_int (sz_val (se_gi (i := 16) rfl Z.gi_NAMES) sz_nil))) (zl_val (zl_val (zl_val zl_nil)))))) (sw_1 (st_not (st_val (se_callB (cs_all ok) rfl Z.fr_all bt_all (sa_cons (se_fr (sf_comp (is := [4]) (own := [("pair", 4)]) ok (si_seq ok.K (se_var (i := 1) rfl (vis_by rfl))) (blkOk_by (by rfl)) (by decide) (hg_name (B := Blk _ _) (j := 4) (fun _ _ _ _ _ => ok.nd) (fun _ _ _ _ _ => rfl) (fun _ _ _ _ _ => loc_by rfl) (fun _ _ _ _ _ => .inr rfl)) (fun _ _ _ _ _ ok1 => sts_nil) (fun _ _ _ _ _ ok1 => (se_fnD ok1 (d_is_pair Z) (by decide) rfl Z.gl_is_pair (sz_val (se_var (i := 0) rfl (vis_by rfl)) (sz_val (se_var (i := 4) rfl (vis_by rfl)) sz_nil)) (zl_val (zl_val zl_nil)))))) sa_nil)))) (.inr rfl)))) (sb_one (ss_ret se_bl)) sb_nil)
  (sb_cons (ss_par (i := 2) (j := 3) ok.calm ok.nd rfl rfl (by decide) rfl rfl (sz_cons (sv_e (se_fr (sf_comp (is := [4]) (own := [("pair", 4)]) ok (si_seq ok.K (se_var (i := 1) rfl (vis_by rfl))) (blkOk_by (by rfl)) (by decide) (hg_name (B := Blk _ _) (j := 4) (fun _ _ _ _ _ => ok.nd) (fun _ _ _ _ _ => rfl) (fun _ _ _ _ _ => loc_by rfl) (fun _ _ _ _ _ => .inr rfl)) (fun _ _ _ _ _ ok1 => sts_nil) (fun _ _ _ _ _ ok1 => (se_ix (is_ix ok1.K) (se_var (i := 4) rfl (vis_by rfl)) se_int (fun _ _ => rfl)))))) (sz_cons (sv_e (se_fr (sf_comp (is := [4]) (own := [("pair", 4)]) ok (si_seq ok.K (se_var (i := 1) rfl (vis_by rfl))) (blkOk_by (by rfl)) (by decide) (hg_name (B := Blk _ _) (j := 4) (fun _ _ _ _ _ => ok.nd) (fun _ _ _ _ _ => rfl) (fun _ _ _ _ _ => loc_by rfl) (fun _ _ _ _ _ => .inr rfl)) (fun _ _ _ _ _ ok1 => sts_nil) (fun _ _ _ _ _ ok1 => (se_ix (is_ix ok1.K) (se_var (i := 4) rfl (vis_by rfl)) se_int (fun _ _ => rfl)))))) sz_nil)) (by rfl))
  (sb_one (ss_ret (se_and (se_cmpS (os_eq ok) (sv_e (se_var (i := 2) rfl (vis_by rfl))) (sv_e (se_fr (sf_sortedSet ok rfl Z.fr_sorted rfl Z.fr_set (sv_e (se_var (i := 2) rfl (vis_by rfl)))))) (by rfl)) (se_one (se_cmp (os_eq ok) (se_lenSet ok rfl Z.fr_len rfl Z.fr_set (sv_e (se_var (i := 3) rfl (vis_by rfl)))) (se_callB (cs_len ok.K) rfl Z.fr_len bt_len (sa_cons (se_var (i := 3) rfl (vis_by rfl)) sa_nil)) (by rfl))))))))
theorem d_is_allotment (Z : Zt g mg base) : DefE g Pr w mg base 3 20 2 F_is_allotment :=
  defE_of (N := ["sale", "value", "bidders", "names", "pair"]) (ps := ["sale", "value"]) Z.fd_is_allotment sc_is_allotment rfl rfl (fun _ _ _ _ _ _ us hl => match us, hl with | [_, _], _ => rfl) (b_is_allotment Z)
theorem sc_need_allotment : FnScope ["sale", "value"] ["sale", "value"] (defScope s_need_allotment) := ⟨rfl, rfl, rfl, by decide +kernel, rfl, by decide +kernel, by decide +kernel⟩
def m_need_allotment : BF := (sIf (tNot (tB (eFn F_is_allotment (zVal (eVar 0) (zVal (eVar 1) zNil))))) (sRaise 8) sNil)
def F_need_allotment : FF := fnEv 2 2 m_need_allotment
theorem b_need_allotment (Z : Zt g mg base) (cdv : Value) (A : Around) (outer : List Env) (s : Shared) (H : Hp) (E : XK) (hcd : ∃ oc od fd osl, g.K.lookup (g.fa 21) = some ⟨oc, od, .func fd, osl⟩ ∧ fd.code = cdv) (ok : Ok g (cD g Pr w mg base ["sale", "value"] "need_allotment" (defScope s_need_allotment) (g.fa 21) cdv A outer s H E) (wD E) 3) : SB g (cD g Pr w mg base ["sale", "value"] "need_allotment" (defScope s_need_allotment) (g.fa 21) cdv A outer s H E) (wD E) (defBody s_need_allotment) m_need_allotment := 
  (sb_one (ss_if (st_not (st_val (se_fnD ok (d_is_allotment Z) (by decide) rfl Z.gl_is_allotment (sz_val (se_var (i := 0) rfl (vis_by rfl)) (sz_val (se_var (i := 1) rfl (vis_by rfl)) sz_nil)) (zl_val (zl_val zl_nil))))) (sb_one (ss_raiseK (n := 8) ok Z.ex_InvalidAllotment Z.gl_InvalidAllotment rfl)) sb_nil))
theorem d_need_allotment (Z : Zt g mg base) : DefE g Pr w mg base 4 21 2 F_need_allotment :=
  defE_of (N := ["sale", "value"]) (ps := ["sale", "value"]) Z.fd_need_allotment sc_need_allotment rfl rfl (fun _ _ _ _ _ _ us hl => match us, hl with | [_, _], _ => rfl) (b_need_allotment Z)
theorem sc_checked_pair : FnScope ["sale", "prices", "allotment"] ["sale", "prices", "allotment"] (defScope s_checked_pair) := ⟨rfl, rfl, rfl, by decide +kernel, rfl, by decide +kernel, by decide +kernel⟩
def m_checked_pair : BF := (sSeq (sExpr (eFn F_checked (zVal (eVar 0) (zVal (eVar 1) zNil))))
  (sSeq (sExpr (eFn F_need_allotment (zVal (eVar 0) (zVal (eVar 2) zNil))))
  (sIf (tNot (tB (eFn F_goes_in (zVal (eVar 0) (zVal (eVar 1) (zVal (eVar 2) zNil)))))) (sRaise 9) sNil)))
def F_checked_pair : FF := fnEv 3 3 m_checked_pair
theorem b_checked_pair (Z : Zt g mg base) (cdv : Value) (A : Around) (outer : List Env) (s : Shared) (H : Hp) (E : XK) (hcd : ∃ oc od fd osl, g.K.lookup (g.fa 73) = some ⟨oc, od, .func fd, osl⟩ ∧ fd.code = cdv) (ok : Ok g (cD g Pr w mg base ["sale", "prices", "allotment"] "checked_pair" (defScope s_checked_pair) (g.fa 73) cdv A outer s H E) (wD E) 5) : SB g (cD g Pr w mg base ["sale", "prices", "allotment"] "checked_pair" (defScope s_checked_pair) (g.fa 73) cdv A outer s H E) (wD E) (defBody s_checked_pair) m_checked_pair := 
  (sb_cons (ss_expr (se_fnD ok (d_checked Z) (by decide) rfl Z.gl_checked (sz_val (se_var (i := 0) rfl (vis_by rfl)) (sz_val (se_var (i := 1) rfl (vis_by rfl)) sz_nil)) (zl_val (zl_val zl_nil))))
  (sb_cons (ss_expr (se_fnD ok (d_need_allotment Z) (by decide) rfl Z.gl_need_allotment (sz_val (se_var (i := 0) rfl (vis_by rfl)) (sz_val (se_var (i := 2) rfl (vis_by rfl)) sz_nil)) (zl_val (zl_val zl_nil))))
  (sb_one (ss_if (st_not (st_val (se_fnD ok (d_goes_in Z) (by decide) rfl Z.gl_goes_in (sz_val (se_var (i := 0) rfl (vis_by rfl)) (sz_val (se_var (i := 1) rfl (vis_by rfl)) (sz_val (se_var (i := 2) rfl (vis_by rfl)) sz_nil))) (zl_val (zl_val (zl_val zl_nil)))))) (sb_one (ss_raiseK (n := 9) ok Z.ex_NotPossible Z.gl_NotPossible rfl)) sb_nil))))
theorem d_checked_pair (Z : Zt g mg base) : DefE g Pr w mg base 6 73 3 F_checked_pair :=
  defE_of (N := ["sale", "prices", "allotment"]) (ps := ["sale", "prices", "allotment"]) Z.fd_checked_pair sc_checked_pair rfl rfl (fun _ _ _ _ _ _ us hl => match us, hl with | [_, _, _], _ => rfl) (b_checked_pair Z)
theorem sc_takes_chains : FnScope ["sale", "prices", "allotment", "value", "own", "name", "bidder"] ["sale", "prices", "allotment", "value"] (defScope s_takes_chains) := ⟨rfl, rfl, rfl, by decide +kernel, rfl, by decide +kernel, by decide +kernel⟩
def m_takes_chains : BF := (sSeq (sExpr (eFn F_checked_pair (zVal (eVar 0) (zVal (eVar 1) (zVal (eVar 2) zNil)))))
  sStuck)
def F_takes_chains : FF := fnEv 4 7 m_takes_chains
theorem b_takes_chains (Z : Zt g mg base) (cdv : Value) (A : Around) (outer : List Env) (s : Shared) (H : Hp) (E : XK) (hcd : ∃ oc od fd osl, g.K.lookup (g.fa 77) = some ⟨oc, od, .func fd, osl⟩ ∧ fd.code = cdv) (ok : Ok g (cD g Pr w mg base ["sale", "prices", "allotment", "value", "own", "name", "bidder"] "takes_chains" (defScope s_takes_chains) (g.fa 77) cdv A outer s H E) (wD E) 6) : SB g (cD g Pr w mg base ["sale", "prices", "allotment", "value", "own", "name", "bidder"] "takes_chains" (defScope s_takes_chains) (g.fa 77) cdv A outer s H E) (wD E) (defBody s_takes_chains) m_takes_chains := 
  (sb_cons (ss_expr (se_fnD ok (d_checked_pair Z) (by decide) rfl Z.gl_checked_pair (sz_val (se_var (i := 0) rfl (vis_by rfl)) (sz_val (se_var (i := 1) rfl (vis_by rfl)) (sz_val (se_var (i := 2) rfl (vis_by rfl)) sz_nil))) (zl_val (zl_val (zl_val zl_nil)))))
  sb_stuck)
theorem d_takes_chains (Z : Zt g mg base) : DefE g Pr w mg base 7 77 4 F_takes_chains :=
  defE_of (N := ["sale", "prices", "allotment", "value", "own", "name", "bidder"]) (ps := ["sale", "prices", "allotment", "value"]) Z.fd_takes_chains sc_takes_chains rfl rfl (fun _ _ _ _ _ _ us hl => match us, hl with | [_, _, _, _], _ => rfl) (b_takes_chains Z)
theorem sc_worth_of : FnScope ["sale", "allotment"] ["sale", "allotment"] (defScope s_worth_of) := ⟨rfl, rfl, rfl, by decide +kernel, rfl, by decide +kernel, by decide +kernel⟩
def m_worth_of : BF := (sSeq (sExpr (eFn F_need_sale (zVal (eVar 0) zNil)))
  (sSeq (sExpr (eFn F_need_allotment (zVal (eVar 0) (zVal (eVar 1) zNil))))
  sStuck))
def F_worth_of : FF := fnEv 2 2 m_worth_of
theorem b_worth_of (Z : Zt g mg base) (cdv : Value) (A : Around) (outer : List Env) (s : Shared) (H : Hp) (E : XK) (hcd : ∃ oc od fd osl, g.K.lookup (g.fa 33) = some ⟨oc, od, .func fd, osl⟩ ∧ fd.code = cdv) (ok : Ok g (cD g Pr w mg base ["sale", "allotment"] "worth_of" (defScope s_worth_of) (g.fa 33) cdv A outer s H E) (wD E) 4) : SB g (cD g Pr w mg base ["sale", "allotment"] "worth_of" (defScope s_worth_of) (g.fa 33) cdv A outer s H E) (wD E) (defBody s_worth_of) m_worth_of := 
  (sb_cons (ss_expr (se_fnD ok (d_need_sale Z) (by decide) rfl Z.gl_need_sale (sz_val (se_var (i := 0) rfl (vis_by rfl)) sz_nil) (zl_val zl_nil)))
  (sb_cons (ss_expr (se_fnD ok (d_need_allotment Z) (by decide) rfl Z.gl_need_allotment (sz_val (se_var (i := 0) rfl (vis_by rfl)) (sz_val (se_var (i := 1) rfl (vis_by rfl)) sz_nil)) (zl_val (zl_val zl_nil))))
  sb_stuck))
theorem d_worth_of (Z : Zt g mg base) : DefE g Pr w mg base 5 33 2 F_worth_of :=
  defE_of (N := ["sale", "allotment"]) (ps := ["sale", "allotment"]) Z.fd_worth_of sc_worth_of rfl rfl (fun _ _ _ _ _ _ us hl => match us, hl with | [_, _], _ => rfl) (b_worth_of Z)
theorem sc_worth_in : FnScope ["sale", "holder", "pairs", "bidder", "name", "reserve"] ["sale", "holder"] (defScope s_worth_in) := ⟨rfl, rfl, rfl, by decide +kernel, rfl, by decide +kernel, by decide +kernel⟩
def m_worth_in : BF := (sItv 2 (iZEp (vE (eVar 1)) (vE (e2 pIx (eVar 0) (eC (.int 0))))) (fIt (gT 2 (gCons_ (gN 3) (gCons_ (gT 2 (gCons_ (gN 4) (gCons_ (gN 5) gNil_))) gNil_))) tYes (eIf (tB (e2 pEq (eVar 3) (eC (.int (-1))))) (eVar 5) (e2 pIx (e2 pIx (e2 pIx (eVar 0) (eC (.int 1))) (eVar 3)) (eVar 4))) [3, 4, 5]))
def F_worth_in : FF := fnEv 2 6 m_worth_in
theorem b_worth_in (Z : Zt g mg base) (cdv : Value) (A : Around) (outer : List Env) (s : Shared) (H : Hp) (E : XK) (hcd : ∃ oc od fd osl, g.K.lookup (g.fa 28) = some ⟨oc, od, .func fd, osl⟩ ∧ fd.code = cdv) (ok : Ok g (cD g Pr w mg base ["sale", "holder", "pairs", "bidder", "name", "reserve"] "worth_in" (defScope s_worth_in) (g.fa 28) cdv A outer s H E) (wD E) 0) : SB g (cD g Pr w mg base ["sale", "holder", "pairs", "bidder", "name", "reserve"] "worth_in" (defScope s_worth_in) (g.fa 28) cdv A outer s H E) (wD E) (defBody s_worth_in) m_worth_in := 
  (sb_itvSum (i := 2) (is := [3, 4, 5]) (own := [("bidder", 3), ("name", 4), ("reserve", 5)]) ok rfl (loc_by rfl) (vis_by rfl) (siv_ZE ok.K rfl Z.fr_enumerate rfl Z.fr_zip (sv_e (se_var (i := 1) rfl (vis_by rfl))) (sv_e (se_ix (is_ix ok.K) (se_var (i := 0) rfl (vis_by rfl)) se_int (fun _ _ => rfl)))) (cs_sum ok) rfl Z.fr_sum bt_sum  (blkOk_by (by rfl)) (by decide) (hg_tup (B := Blk _ _) (fun _ _ _ _ _ => ok.calm) (fun _ _ _ _ _ => ok.K) (hgs_cons (B := Blk _ _) (hg_name (B := Blk _ _) (j := 3) (fun _ _ _ _ _ => ok.nd) (fun _ _ _ _ _ => rfl) (fun _ _ _ _ _ => loc_by rfl) (fun _ _ _ _ _ => .inr rfl)) (hgs_cons (B := Blk _ _) (hg_tup (B := Blk _ _) (fun _ _ _ _ _ => ok.calm) (fun _ _ _ _ _ => ok.K) (hgs_cons (B := Blk _ _) (hg_name (B := Blk _ _) (j := 4) (fun _ _ _ _ _ => ok.nd) (fun _ _ _ _ _ => rfl) (fun _ _ _ _ _ => loc_by rfl) (fun _ _ _ _ _ => .inr rfl)) (hgs_cons (B := Blk _ _) (hg_name (B := Blk _ _) (j := 5) (fun _ _ _ _ _ => ok.nd) (fun _ _ _ _ _ => rfl) (fun _ _ _ _ _ => loc_by rfl) (fun _ _ _ _ _ => .inr rfl)) hgs_nil))) hgs_nil))) (fun _ _ _ _ _ ok1 => sts_nil) (fun _ _ _ _ _ ok1 => (se_if (st_cmp (os_eq ok1) (se_var (i := 3) rfl (vis_by rfl)) (se_gi (i := (-1)) rfl Z.gi_NONE) (by rfl)) (se_var (i := 5) rfl (vis_by rfl)) (se_ix (is_ix ok1.K) (se_ix (is_ix ok1.K) (se_ix (is_ix ok1.K) (se_var (i := 0) rfl (vis_by rfl)) se_int (fun _ _ => rfl)) (se_var (i := 3) rfl (vis_by rfl)) (fun _ _ => rfl)) (se_var (i := 4) rfl (vis_by rfl)) (fun _ _ => rfl)))))
theorem d_worth_in (Z : Zt g mg base) : DefE g Pr w mg base 1 28 2 F_worth_in :=
  defE_of (N := ["sale", "holder", "pairs", "bidder", "name", "reserve"]) (ps := ["sale", "holder"]) Z.fd_worth_in sc_worth_in rfl rfl (fun _ _ _ _ _ _ us hl => match us, hl with | [_, _], _ => rfl) (b_worth_in Z)
theorem sc_is_competitive_in : FnScope ["sale", "prices", "gains", "row"] ["sale", "prices"] (defScope s_is_competitive_in) := ⟨rfl, rfl, rfl, by decide +kernel, rfl, by decide +kernel, by decide +kernel⟩
def m_is_competitive_in : BF := (sSeq (sSet 2 (eFr (fComp (aSeq (e2 pIx (eVar 0) (eC (.int 1)))) (gN 3) tYes (eFn F_gain_in (zVal (eVar 3) (zVal (eVar 1) zNil))) [3])))
  (sRet (e2 pEq (e2 pAdd (eCall bSum (aCons (eVar 2) aNil)) (eCall bSum (aCons (eVar 1) aNil))) (eFn F_worth_in (zVal (eVar 0) (zVal (eFn F_holders_of (zVal (eVar 0) zNil)) zNil))))))
def F_is_competitive_in : FF := fnEv 2 4 m_is_competitive_in
theorem b_is_competitive_in (Z : Zt g mg base) (cdv : Value) (A : Around) (outer : List Env) (s : Shared) (H : Hp) (E : XK) (hcd : ∃ oc od fd osl, g.K.lookup (g.fa 39) = some ⟨oc, od, .func fd, osl⟩ ∧ fd.code = cdv) (ok : Ok g (cD g Pr w mg base ["sale", "prices", "gains", "row"] "is_competitive_in" (defScope s_is_competitive_in) (g.fa 39) cdv A outer s H E) (wD E) 3) : SB g (cD g Pr w mg base ["sale", "prices", "gains", "row"] "is_competitive_in" (defScope s_is_competitive_in) (g.fa 39) cdv A outer s H E) (wD E) (defBody s_is_competitive_in) m_is_competitive_in := 
  (sb_cons (ss_setLc (i := 2) (is := [3]) (own := [("row", 3)]) ok rfl rfl (sw_true rfl rfl (by rfl) (by rfl)) (si_seq ok.K (se_ix (is_ix ok.K) (se_var (i := 0) rfl (vis_by rfl)) se_int (fun _ _ => rfl))) (blkOk_by (by rfl)) (by decide) (hg_name (B := Blk _ _) (j := 3) (fun _ _ _ _ _ => ok.nd) (fun _ _ _ _ _ => rfl) (fun _ _ _ _ _ => loc_by rfl) (fun _ _ _ _ _ => .inr rfl)) (fun _ _ _ _ _ ok1 => sts_nil) (fun _ _ _ _ _ ok1 => (se_fnD ok1 (d_gain_in Z) (by decide) rfl Z.gl_gain_in (sz_val (se_var (i := 3) rfl (vis_by rfl)) (sz_val (se_var (i := 1) rfl (vis_by rfl)) sz_nil)) (zl_val (zl_val zl_nil)))))
  (sb_one (ss_ret (se_cmp (os_eq ok) (se_op (os_add ok.K) (se_callB (cs_sum ok) rfl Z.fr_sum bt_sum (sa_cons (se_var (i := 2) rfl (vis_by rfl)) sa_nil)) (se_callB (cs_sum ok) rfl Z.fr_sum bt_sum (sa_cons (se_var (i := 1) rfl (vis_by rfl)) sa_nil))) (se_fnD ok (d_worth_in Z) (by decide) rfl Z.gl_worth_in (sz_val (se_var (i := 0) rfl (vis_by rfl)) (sz_val (se_fnD ok (d_holders_of Z) (by decide) rfl Z.gl_holders_of (sz_val (se_var (i := 0) rfl (vis_by rfl)) sz_nil) (zl_val zl_nil)) sz_nil)) (zl_val (zl_val zl_nil))) (by rfl)))))
theorem d_is_competitive_in (Z : Zt g mg base) : DefE g Pr w mg base 4 39 2 F_is_competitive_in :=
  defE_of (N := ["sale", "prices", "gains", "row"]) (ps := ["sale", "prices"]) Z.fd_is_competitive_in sc_is_competitive_in rfl rfl (fun _ _ _ _ _ _ us hl => match us, hl with | [_, _], _ => rfl) (b_is_competitive_in Z)
theorem sc_is_competitive : FnScope ["sale", "prices"] ["sale", "prices"] (defScope s_is_competitive) := ⟨rfl, rfl, rfl, by decide +kernel, rfl, by decide +kernel, by decide +kernel⟩
def m_is_competitive : BF := (sSeq (sExpr (eFn F_checked (zVal (eVar 0) (zVal (eVar 1) zNil))))
  (sRet (eFn F_is_competitive_in (zVal (eVar 0) (zVal (eVar 1) zNil)))))
def F_is_competitive : FF := fnEv 2 2 m_is_competitive
theorem b_is_competitive (Z : Zt g mg base) (cdv : Value) (A : Around) (outer : List Env) (s : Shared) (H : Hp) (E : XK) (hcd : ∃ oc od fd osl, g.K.lookup (g.fa 58) = some ⟨oc, od, .func fd, osl⟩ ∧ fd.code = cdv) (ok : Ok g (cD g Pr w mg base ["sale", "prices"] "is_competitive" (defScope s_is_competitive) (g.fa 58) cdv A outer s H E) (wD E) 5) : SB g (cD g Pr w mg base ["sale", "prices"] "is_competitive" (defScope s_is_competitive) (g.fa 58) cdv A outer s H E) (wD E) (defBody s_is_competitive) m_is_competitive := 
  (sb_cons (ss_expr (se_fnD ok (d_checked Z) (by decide) rfl Z.gl_checked (sz_val (se_var (i := 0) rfl (vis_by rfl)) (sz_val (se_var (i := 1) rfl (vis_by rfl)) sz_nil)) (zl_val (zl_val zl_nil))))
  (sb_one (ss_ret (se_fnD ok (d_is_competitive_in Z) (by decide) rfl Z.gl_is_competitive_in (sz_val (se_var (i := 0) rfl (vis_by rfl)) (sz_val (se_var (i := 1) rfl (vis_by rfl)) sz_nil)) (zl_val (zl_val zl_nil))))))
theorem d_is_competitive (Z : Zt g mg base) : DefE g Pr w mg base 6 58 2 F_is_competitive :=
  defE_of (N := ["sale", "prices"]) (ps := ["sale", "prices"]) Z.fd_is_competitive sc_is_competitive rfl rfl (fun _ _ _ _ _ _ us hl => match us, hl with | [_, _], _ => rfl) (b_is_competitive Z)
theorem sc_overdemanded : FnScope ["sale", "prices"] ["sale", "prices"] (defScope s_overdemanded) := ⟨rfl, rfl, rfl, by decide +kernel, rfl, by decide +kernel, by decide +kernel⟩
def m_overdemanded : BF := (sSeq (sExpr (eFn F_checked (zVal (eVar 0) (zVal (eVar 1) zNil))))
  sStuck)
def F_overdemanded : FF := fnEv 2 2 m_overdemanded
theorem b_overdemanded (Z : Zt g mg base) (cdv : Value) (A : Around) (outer : List Env) (s : Shared) (H : Hp) (E : XK) (hcd : ∃ oc od fd osl, g.K.lookup (g.fa 64) = some ⟨oc, od, .func fd, osl⟩ ∧ fd.code = cdv) (ok : Ok g (cD g Pr w mg base ["sale", "prices"] "overdemanded" (defScope s_overdemanded) (g.fa 64) cdv A outer s H E) (wD E) 5) : SB g (cD g Pr w mg base ["sale", "prices"] "overdemanded" (defScope s_overdemanded) (g.fa 64) cdv A outer s H E) (wD E) (defBody s_overdemanded) m_overdemanded := 
  (sb_cons (ss_expr (se_fnD ok (d_checked Z) (by decide) rfl Z.gl_checked (sz_val (se_var (i := 0) rfl (vis_by rfl)) (sz_val (se_var (i := 1) rfl (vis_by rfl)) sz_nil)) (zl_val (zl_val zl_nil))))
  sb_stuck)
theorem d_overdemanded (Z : Zt g mg base) : DefE g Pr w mg base 6 64 2 F_overdemanded :=
  defE_of (N := ["sale", "prices"]) (ps := ["sale", "prices"]) Z.fd_overdemanded sc_overdemanded rfl rfl (fun _ _ _ _ _ _ us hl => match us, hl with | [_, _], _ => rfl) (b_overdemanded Z)
theorem sc_underdemanded : FnScope ["sale", "prices"] ["sale", "prices"] (defScope s_underdemanded) := ⟨rfl, rfl, rfl, by decide +kernel, rfl, by decide +kernel, by decide +kernel⟩
def m_underdemanded : BF := (sSeq (sExpr (eFn F_checked (zVal (eVar 0) (zVal (eVar 1) zNil))))
  sStuck)
def F_underdemanded : FF := fnEv 2 2 m_underdemanded
theorem b_underdemanded (Z : Zt g mg base) (cdv : Value) (A : Around) (outer : List Env) (s : Shared) (H : Hp) (E : XK) (hcd : ∃ oc od fd osl, g.K.lookup (g.fa 65) = some ⟨oc, od, .func fd, osl⟩ ∧ fd.code = cdv) (ok : Ok g (cD g Pr w mg base ["sale", "prices"] "underdemanded" (defScope s_underdemanded) (g.fa 65) cdv A outer s H E) (wD E) 5) : SB g (cD g Pr w mg base ["sale", "prices"] "underdemanded" (defScope s_underdemanded) (g.fa 65) cdv A outer s H E) (wD E) (defBody s_underdemanded) m_underdemanded := 
  (sb_cons (ss_expr (se_fnD ok (d_checked Z) (by decide) rfl Z.gl_checked (sz_val (se_var (i := 0) rfl (vis_by rfl)) (sz_val (se_var (i := 1) rfl (vis_by rfl)) sz_nil)) (zl_val (zl_val zl_nil))))
  sb_stuck)
theorem d_underdemanded (Z : Zt g mg base) : DefE g Pr w mg base 6 65 2 F_underdemanded :=
  defE_of (N := ["sale", "prices"]) (ps := ["sale", "prices"]) Z.fd_underdemanded sc_underdemanded rfl rfl (fun _ _ _ _ _ _ us hl => match us, hl with | [_, _], _ => rfl) (b_underdemanded Z)
theorem sc_loose : FnScope ["sale", "prices"] ["sale", "prices"] (defScope s_loose) := ⟨rfl, rfl, rfl, by decide +kernel, rfl, by decide +kernel, by decide +kernel⟩
def m_loose : BF := (sSeq (sExpr (eFn F_checked (zVal (eVar 0) (zVal (eVar 1) zNil))))
  sStuck)
def F_loose : FF := fnEv 2 2 m_loose
theorem b_loose (Z : Zt g mg base) (cdv : Value) (A : Around) (outer : List Env) (s : Shared) (H : Hp) (E : XK) (hcd : ∃ oc od fd osl, g.K.lookup (g.fa 66) = some ⟨oc, od, .func fd, osl⟩ ∧ fd.code = cdv) (ok : Ok g (cD g Pr w mg base ["sale", "prices"] "loose" (defScope s_loose) (g.fa 66) cdv A outer s H E) (wD E) 5) : SB g (cD g Pr w mg base ["sale", "prices"] "loose" (defScope s_loose) (g.fa 66) cdv A outer s H E) (wD E) (defBody s_loose) m_loose := 
  (sb_cons (ss_expr (se_fnD ok (d_checked Z) (by decide) rfl Z.gl_checked (sz_val (se_var (i := 0) rfl (vis_by rfl)) (sz_val (se_var (i := 1) rfl (vis_by rfl)) sz_nil)) (zl_val (zl_val zl_nil))))
  sb_stuck)
theorem d_loose (Z : Zt g mg base) : DefE g Pr w mg base 6 66 2 F_loose :=
  defE_of (N := ["sale", "prices"]) (ps := ["sale", "prices"]) Z.fd_loose sc_loose rfl rfl (fun _ _ _ _ _ _ us hl => match us, hl with | [_, _], _ => rfl) (b_loose Z)
theorem sc_takes_raises : FnScope ["sale", "value", "prices", "names"] ["sale", "value"] (defScope s_takes_raises) := ⟨rfl, rfl, rfl, by decide +kernel, rfl, by decide +kernel, by decide +kernel⟩
def m_takes_raises : BF := (sSeq (sExpr (eFn F_need_sale (zVal (eVar 0) zNil)))
  sStuck)
def F_takes_raises : FF := fnEv 2 4 m_takes_raises
theorem b_takes_raises (Z : Zt g mg base) (cdv : Value) (A : Around) (outer : List Env) (s : Shared) (H : Hp) (E : XK) (hcd : ∃ oc od fd osl, g.K.lookup (g.fa 72) = some ⟨oc, od, .func fd, osl⟩ ∧ fd.code = cdv) (ok : Ok g (cD g Pr w mg base ["sale", "value", "prices", "names"] "takes_raises" (defScope s_takes_raises) (g.fa 72) cdv A outer s H E) (wD E) 4) : SB g (cD g Pr w mg base ["sale", "value", "prices", "names"] "takes_raises" (defScope s_takes_raises) (g.fa 72) cdv A outer s H E) (wD E) (defBody s_takes_raises) m_takes_raises := 
  (sb_cons (ss_expr (se_fnD ok (d_need_sale Z) (by decide) rfl Z.gl_need_sale (sz_val (se_var (i := 0) rfl (vis_by rfl)) sz_nil) (zl_val zl_nil)))
  sb_stuck)
theorem d_takes_raises (Z : Zt g mg base) : DefE g Pr w mg base 5 72 2 F_takes_raises :=
  defE_of (N := ["sale", "value", "prices", "names"]) (ps := ["sale", "value"]) Z.fd_takes_raises sc_takes_raises rfl rfl (fun _ _ _ _ _ _ us hl => match us, hl with | [_, _], _ => rfl) (b_takes_raises Z)
theorem sc_need_lots : FnScope ["sale", "value", "many", "bidder"] ["sale", "value"] (defScope s_need_lots) := ⟨rfl, rfl, rfl, by decide +kernel, rfl, by decide +kernel, by decide +kernel⟩
def m_need_lots : BF := (sSeq (sSet 2 (eCall bLen (aCons (e2 pIx (eVar 0) (eC (.int 1))) aNil)))
  (sSeq (sIf (tOr (tNot (tB (eFn F_is_tuple_of (zVal (eVar 1) (zVal (eVar 2) (zVal (eVar 2) zNil)))))) (tNot (tB (eCall bAll (aCons (eFr (fComp (aSeq (eVar 1)) (gN 3) tYes (eFn F_is_whole (zVal (eVar 3) (zVal (eC (.int 0)) (zVal (e2 pSub (eVar 2) (eC (.int 1))) zNil)))) [3])) aNil))))) (sRaise 5) sNil)
  (sIf (tB (e2 pLt (eLenSet (vE (eVar 1))) (eVar 2))) (sRaise 5) sNil)))
def F_need_lots : FF := fnEv 2 4 m_need_lots
theorem b_need_lots (Z : Zt g mg base) (cdv : Value) (A : Around) (outer : List Env) (s : Shared) (H : Hp) (E : XK) (hcd : ∃ oc od fd osl, g.K.lookup (g.fa 88) = some ⟨oc, od, .func fd, osl⟩ ∧ fd.code = cdv) (ok : Ok g (cD g Pr w mg base ["sale", "value", "many", "bidder"] "need_lots" (defScope s_need_lots) (g.fa 88) cdv A outer s H E) (wD E) 1) : SB g (cD g Pr w mg base ["sale", "value", "many", "bidder"] "need_lots" (defScope s_need_lots) (g.fa 88) cdv A outer s H E) (wD E) (defBody s_need_lots) m_need_lots := 
  (sb_cons (ss_set (i := 2) ok.nd rfl (loc_by rfl) (se_callB (cs_len ok.K) rfl Z.fr_len bt_len (sa_cons (se_ix (is_ix ok.K) (se_var (i := 0) rfl (vis_by rfl)) se_int (fun _ _ => rfl)) sa_nil)))
  (sb_cons (ss_if (st_w (sw_or (st_not (st_val (se_fnD ok (d_is_tuple_of Z) (by decide) rfl Z.gl_is_tuple_of (sz_val (se_var (i := 1) rfl (vis_by rfl)) (sz_val (se_var (i := 2) rfl (vis_by rfl)) (sz_val (se_var (i := 2) rfl (vis_by rfl)) sz_nil))) (zl_val (zl_val (zl_val zl_nil)))))) (sw_1 (st_not (st_val (se_callB (cs_all ok) rfl Z.fr_all bt_all (sa_cons (se_fr (sf_comp (is := [3]) (own := [("bidder", 3)]) ok (si_seq ok.K (se_var (i := 1) rfl (vis_by rfl))) (blkOk_by (by rfl)) (by decide) (hg_name (B := Blk _ _) (j := 3) (fun _ _ _ _ _ => ok.nd) (fun _ _ _ _ _ => rfl) (fun _ _ _ _ _ => loc_by rfl) (fun _ _ _ _ _ => .inr rfl)) (fun _ _ _ _ _ ok1 => sts_nil) (fun _ _ _ _ _ ok1 => (se_fnD ok1 (d_is_whole Z) (by decide) rfl Z.gl_is_whole (sz_val (se_var (i := 3) rfl (vis_by rfl)) (sz_val se_int (sz_val (se_op os_sub (se_var (i := 2) rfl (vis_by rfl)) se_int) sz_nil))) (zl_val (zl_val (zl_val zl_nil))))))) sa_nil)))) (.inr rfl)))) (sb_one (ss_raiseK (n := 5) ok Z.ex_InvalidLots Z.gl_InvalidLots rfl)) sb_nil)
  (sb_one (ss_if (st_cmp os_lt (se_lenSet ok rfl Z.fr_len rfl Z.fr_set (sv_e (se_var (i := 1) rfl (vis_by rfl)))) (se_var (i := 2) rfl (vis_by rfl)) (by rfl)) (sb_one (ss_raiseK (n := 5) ok Z.ex_InvalidLots Z.gl_InvalidLots rfl)) sb_nil))))
theorem d_need_lots (Z : Zt g mg base) : DefE g Pr w mg base 2 88 2 F_need_lots :=
  defE_of (N := ["sale", "value", "many", "bidder"]) (ps := ["sale", "value"]) Z.fd_need_lots sc_need_lots rfl rfl (fun _ _ _ _ _ _ us hl => match us, hl with | [_, _], _ => rfl) (b_need_lots Z)
theorem sc_told_allotment : FnScope ["sale", "lots", "names", "bidder", "prices", "told", "wishes", "must", "some", "name", "later", "row"] ["sale", "lots"] (defScope s_told_allotment) := ⟨rfl, rfl, rfl, by decide +kernel, rfl, by decide +kernel, by decide +kernel⟩
def m_told_allotment : BF := (sSeq (sExpr (eFn F_need_sale (zVal (eVar 0) zNil)))
  (sSeq (sExpr (eFn F_need_lots (zVal (eVar 0) (zVal (eVar 1) zNil))))
  sStuck))
def F_told_allotment : FF := fnEv 2 12 m_told_allotment
theorem b_told_allotment (Z : Zt g mg base) (cdv : Value) (A : Around) (outer : List Env) (s : Shared) (H : Hp) (E : XK) (hcd : ∃ oc od fd osl, g.K.lookup (g.fa 90) = some ⟨oc, od, .func fd, osl⟩ ∧ fd.code = cdv) (ok : Ok g (cD g Pr w mg base ["sale", "lots", "names", "bidder", "prices", "told", "wishes", "must", "some", "name", "later", "row"] "told_allotment" (defScope s_told_allotment) (g.fa 90) cdv A outer s H E) (wD E) 4) : SB g (cD g Pr w mg base ["sale", "lots", "names", "bidder", "prices", "told", "wishes", "must", "some", "name", "later", "row"] "told_allotment" (defScope s_told_allotment) (g.fa 90) cdv A outer s H E) (wD E) (defBody s_told_allotment) m_told_allotment := 
  (sb_cons (ss_expr (se_fnD ok (d_need_sale Z) (by decide) rfl Z.gl_need_sale (sz_val (se_var (i := 0) rfl (vis_by rfl)) sz_nil) (zl_val zl_nil)))
  (sb_cons (ss_expr (se_fnD ok (d_need_lots Z) (by decide) rfl Z.gl_need_lots (sz_val (se_var (i := 0) rfl (vis_by rfl)) (sz_val (se_var (i := 1) rfl (vis_by rfl)) sz_nil)) (zl_val (zl_val zl_nil))))
  sb_stuck))
theorem d_told_allotment (Z : Zt g mg base) : DefE g Pr w mg base 5 90 2 F_told_allotment :=
  defE_of (N := ["sale", "lots", "names", "bidder", "prices", "told", "wishes", "must", "some", "name", "later", "row"]) (ps := ["sale", "lots"]) Z.fd_told_allotment sc_told_allotment rfl rfl (fun _ _ _ _ _ _ us hl => match us, hl with | [_, _], _ => rfl) (b_told_allotment Z)
theorem sc_with_bidder : FnScope ["sale", "row"] ["sale", "row"] (defScope s_with_bidder) := ⟨rfl, rfl, rfl, by decide +kernel, rfl, by decide +kernel, by decide +kernel⟩
def m_with_bidder : BF := (sSeq (sExpr (eFn F_need_sale (zVal (eVar 0) zNil)))
  (sSeq (sExpr (eFn F_need_row (zVal (eVar 0) (zVal (eVar 1) zNil))))
  sStuck))
def F_with_bidder : FF := fnEv 2 2 m_with_bidder
theorem b_with_bidder (Z : Zt g mg base) (cdv : Value) (A : Around) (outer : List Env) (s : Shared) (H : Hp) (E : XK) (hcd : ∃ oc od fd osl, g.K.lookup (g.fa 82) = some ⟨oc, od, .func fd, osl⟩ ∧ fd.code = cdv) (ok : Ok g (cD g Pr w mg base ["sale", "row"] "with_bidder" (defScope s_with_bidder) (g.fa 82) cdv A outer s H E) (wD E) 4) : SB g (cD g Pr w mg base ["sale", "row"] "with_bidder" (defScope s_with_bidder) (g.fa 82) cdv A outer s H E) (wD E) (defBody s_with_bidder) m_with_bidder := 
  (sb_cons (ss_expr (se_fnD ok (d_need_sale Z) (by decide) rfl Z.gl_need_sale (sz_val (se_var (i := 0) rfl (vis_by rfl)) sz_nil) (zl_val zl_nil)))
  (sb_cons (ss_expr (se_fnD ok (d_need_row Z) (by decide) rfl Z.gl_need_row (sz_val (se_var (i := 0) rfl (vis_by rfl)) (sz_val (se_var (i := 1) rfl (vis_by rfl)) sz_nil)) (zl_val (zl_val zl_nil))))
  sb_stuck))
theorem d_with_bidder (Z : Zt g mg base) : DefE g Pr w mg base 5 82 2 F_with_bidder :=
  defE_of (N := ["sale", "row"]) (ps := ["sale", "row"]) Z.fd_with_bidder sc_with_bidder rfl rfl (fun _ _ _ _ _ _ us hl => match us, hl with | [_, _], _ => rfl) (b_with_bidder Z)
theorem sc_without_bidder : FnScope ["sale", "bidder"] ["sale", "bidder"] (defScope s_without_bidder) := ⟨rfl, rfl, rfl, by decide +kernel, rfl, by decide +kernel, by decide +kernel⟩
def m_without_bidder : BF := (sSeq (sExpr (eFn F_need_sale (zVal (eVar 0) zNil)))
  (sSeq (sExpr (eFn F_need_bidder (zVal (eVar 0) (zVal (eVar 1) zNil))))
  sStuck))
def F_without_bidder : FF := fnEv 2 2 m_without_bidder
theorem b_without_bidder (Z : Zt g mg base) (cdv : Value) (A : Around) (outer : List Env) (s : Shared) (H : Hp) (E : XK) (hcd : ∃ oc od fd osl, g.K.lookup (g.fa 84) = some ⟨oc, od, .func fd, osl⟩ ∧ fd.code = cdv) (ok : Ok g (cD g Pr w mg base ["sale", "bidder"] "without_bidder" (defScope s_without_bidder) (g.fa 84) cdv A outer s H E) (wD E) 4) : SB g (cD g Pr w mg base ["sale", "bidder"] "without_bidder" (defScope s_without_bidder) (g.fa 84) cdv A outer s H E) (wD E) (defBody s_without_bidder) m_without_bidder := 
  (sb_cons (ss_expr (se_fnD ok (d_need_sale Z) (by decide) rfl Z.gl_need_sale (sz_val (se_var (i := 0) rfl (vis_by rfl)) sz_nil) (zl_val zl_nil)))
  (sb_cons (ss_expr (se_fnD ok (d_need_bidder Z) (by decide) rfl Z.gl_need_bidder (sz_val (se_var (i := 0) rfl (vis_by rfl)) (sz_val (se_var (i := 1) rfl (vis_by rfl)) sz_nil)) (zl_val (zl_val zl_nil))))
  sb_stuck))
theorem d_without_bidder (Z : Zt g mg base) : DefE g Pr w mg base 5 84 2 F_without_bidder :=
  defE_of (N := ["sale", "bidder"]) (ps := ["sale", "bidder"]) Z.fd_without_bidder sc_without_bidder rfl rfl (fun _ _ _ _ _ _ us hl => match us, hl with | [_, _], _ => rfl) (b_without_bidder Z)
theorem sc_need_whole : FnScope ["value", "low", "high"] ["value", "low", "high"] (defScope s_need_whole) := ⟨rfl, rfl, rfl, by decide +kernel, rfl, by decide +kernel, by decide +kernel⟩
def m_need_whole : BF := (sIf (tNot (tB (eFn F_is_whole (zVal (eVar 0) (zVal (eVar 1) (zVal (eVar 2) zNil)))))) (sRaise 6) sNil)
def F_need_whole : FF := fnEv 3 3 m_need_whole
theorem b_need_whole (Z : Zt g mg base) (cdv : Value) (A : Around) (outer : List Env) (s : Shared) (H : Hp) (E : XK) (hcd : ∃ oc od fd osl, g.K.lookup (g.fa 12) = some ⟨oc, od, .func fd, osl⟩ ∧ fd.code = cdv) (ok : Ok g (cD g Pr w mg base ["value", "low", "high"] "need_whole" (defScope s_need_whole) (g.fa 12) cdv A outer s H E) (wD E) 1) : SB g (cD g Pr w mg base ["value", "low", "high"] "need_whole" (defScope s_need_whole) (g.fa 12) cdv A outer s H E) (wD E) (defBody s_need_whole) m_need_whole := 
  (sb_one (ss_if (st_not (st_val (se_fnD ok (d_is_whole Z) (by decide) rfl Z.gl_is_whole (sz_val (se_var (i := 0) rfl (vis_by rfl)) (sz_val (se_var (i := 1) rfl (vis_by rfl)) (sz_val (se_var (i := 2) rfl (vis_by rfl)) sz_nil))) (zl_val (zl_val (zl_val zl_nil)))))) (sb_one (ss_raiseK (n := 6) ok Z.ex_InvalidNumber Z.gl_InvalidNumber rfl)) sb_nil))
theorem d_need_whole (Z : Zt g mg base) : DefE g Pr w mg base 2 12 3 F_need_whole :=
  defE_of (N := ["value", "low", "high"]) (ps := ["value", "low", "high"]) Z.fd_need_whole sc_need_whole rfl rfl (fun _ _ _ _ _ _ us hl => match us, hl with | [_, _, _], _ => rfl) (b_need_whole Z)
theorem sc_without_name : FnScope ["sale", "name", "row"] ["sale", "name"] (defScope s_without_name) := ⟨rfl, rfl, rfl, by decide +kernel, rfl, by decide +kernel, by decide +kernel⟩
def m_without_name : BF := (sSeq (sExpr (eFn F_need_sale (zVal (eVar 0) zNil)))
  (sSeq (sExpr (eFn F_need_whole (zVal (eVar 1) (zVal (eC (.int 0)) (zVal (e2 pSub (eCall bLen (aCons (e2 pIx (eVar 0) (eC (.int 0))) aNil)) (eC (.int 1))) zNil)))))
  sStuck))
def F_without_name : FF := fnEv 2 3 m_without_name
theorem b_without_name (Z : Zt g mg base) (cdv : Value) (A : Around) (outer : List Env) (s : Shared) (H : Hp) (E : XK) (hcd : ∃ oc od fd osl, g.K.lookup (g.fa 85) = some ⟨oc, od, .func fd, osl⟩ ∧ fd.code = cdv) (ok : Ok g (cD g Pr w mg base ["sale", "name", "row"] "without_name" (defScope s_without_name) (g.fa 85) cdv A outer s H E) (wD E) 4) : SB g (cD g Pr w mg base ["sale", "name", "row"] "without_name" (defScope s_without_name) (g.fa 85) cdv A outer s H E) (wD E) (defBody s_without_name) m_without_name := 
  (sb_cons (ss_expr (se_fnD ok (d_need_sale Z) (by decide) rfl Z.gl_need_sale (sz_val (se_var (i := 0) rfl (vis_by rfl)) sz_nil) (zl_val zl_nil)))
  (sb_cons (ss_expr (se_fnD ok (d_need_whole Z) (by decide) rfl Z.gl_need_whole (sz_val (se_var (i := 1) rfl (vis_by rfl)) (sz_val se_int (sz_val (se_op os_sub (se_callB (cs_len ok.K) rfl Z.fr_len bt_len (sa_cons (se_ix (is_ix ok.K) (se_var (i := 0) rfl (vis_by rfl)) se_int (fun _ _ => rfl)) sa_nil)) se_int) sz_nil))) (zl_val (zl_val (zl_val zl_nil)))))
  sb_stuck))
theorem d_without_name (Z : Zt g mg base) : DefE g Pr w mg base 5 85 2 F_without_name :=
  defE_of (N := ["sale", "name", "row"]) (ps := ["sale", "name"]) Z.fd_without_name sc_without_name rfl rfl (fun _ _ _ _ _ _ us hl => match us, hl with | [_, _], _ => rfl) (b_without_name Z)
theorem sc_least_in : FnScope ["sale", "turn", "surplus", "holder", "own", "more", "later", "name", "found", "bidder", "place", "reserve", "item"] ["sale"] (defScope s_least_in) := ⟨rfl, rfl, rfl, by decide +kernel, rfl, by decide +kernel, by decide +kernel⟩
def m_least_in : BF := sStuck
def F_least_in : FF := fnEv 1 13 m_least_in
theorem b_least_in (Z : Zt g mg base) (cdv : Value) (A : Around) (outer : List Env) (s : Shared) (H : Hp) (E : XK) (hcd : ∃ oc od fd osl, g.K.lookup (g.fa 40) = some ⟨oc, od, .func fd, osl⟩ ∧ fd.code = cdv) (ok : Ok g (cD g Pr w mg base ["sale", "turn", "surplus", "holder", "own", "more", "later", "name", "found", "bidder", "place", "reserve", "item"] "least_in" (defScope s_least_in) (g.fa 40) cdv A outer s H E) (wD E) 0) : SB g (cD g Pr w mg base ["sale", "turn", "surplus", "holder", "own", "more", "later", "name", "found", "bidder", "place", "reserve", "item"] "least_in" (defScope s_least_in) (g.fa 40) cdv A outer s H E) (wD E) (defBody s_least_in) m_least_in := 
  sb_stuck
theorem d_least_in (Z : Zt g mg base) : DefE g Pr w mg base 1 40 1 F_least_in :=
  defE_of (N := ["sale", "turn", "surplus", "holder", "own", "more", "later", "name", "found", "bidder", "place", "reserve", "item"]) (ps := ["sale"]) Z.fd_least_in sc_least_in rfl rfl (fun _ _ _ _ _ _ us hl => match us, hl with | [_], _ => rfl) (b_least_in Z)
theorem sc_risen : FnScope ["sale", "row", "later", "name", "price"] ["sale", "row"] (defScope s_risen) := ⟨rfl, rfl, rfl, by decide +kernel, rfl, by decide +kernel, by decide +kernel⟩
def m_risen : BF := (sSeq (sSet 2 (eFn F_least_in (zVal (eFn F_with_bidder (zVal (eVar 0) (zVal (eVar 1) zNil))) zNil)))
  sStuck)
def F_risen : FF := fnEv 2 5 m_risen
theorem b_risen (Z : Zt g mg base) (cdv : Value) (A : Around) (outer : List Env) (s : Shared) (H : Hp) (E : XK) (hcd : ∃ oc od fd osl, g.K.lookup (g.fa 86) = some ⟨oc, od, .func fd, osl⟩ ∧ fd.code = cdv) (ok : Ok g (cD g Pr w mg base ["sale", "row", "later", "name", "price"] "risen" (defScope s_risen) (g.fa 86) cdv A outer s H E) (wD E) 5) : SB g (cD g Pr w mg base ["sale", "row", "later", "name", "price"] "risen" (defScope s_risen) (g.fa 86) cdv A outer s H E) (wD E) (defBody s_risen) m_risen := 
  (sb_cons (ss_set (i := 2) ok.nd rfl (loc_by rfl) (se_fnD ok (d_least_in Z) (by decide) rfl Z.gl_least_in (sz_val (se_fnD ok (d_with_bidder Z) (by decide) rfl Z.gl_with_bidder (sz_val (se_var (i := 0) rfl (vis_by rfl)) (sz_val (se_var (i := 1) rfl (vis_by rfl)) sz_nil)) (zl_val (zl_val zl_nil))) sz_nil) (zl_val zl_nil)))
  sb_stuck)
theorem d_risen (Z : Zt g mg base) : DefE g Pr w mg base 6 86 2 F_risen :=
  defE_of (N := ["sale", "row", "later", "name", "price"]) (ps := ["sale", "row"]) Z.fd_risen sc_risen rfl rfl (fun _ _ _ _ _ _ us hl => match us, hl with | [_, _], _ => rfl) (b_risen Z)
theorem sc_gain_of : FnScope ["sale", "prices", "bidder"] ["sale", "prices", "bidder"] (defScope s_gain_of) := ⟨rfl, rfl, rfl, by decide +kernel, rfl, by decide +kernel, by decide +kernel⟩
def m_gain_of : BF := (sSeq (sExpr (eFn F_need_sale (zVal (eVar 0) zNil)))
  (sSeq (sExpr (eFn F_need_prices (zVal (eVar 0) (zVal (eVar 1) zNil))))
  (sSeq (sExpr (eFn F_need_bidder (zVal (eVar 0) (zVal (eVar 2) zNil))))
  sStuck)))
def F_gain_of : FF := fnEv 3 3 m_gain_of
theorem b_gain_of (Z : Zt g mg base) (cdv : Value) (A : Around) (outer : List Env) (s : Shared) (H : Hp) (E : XK) (hcd : ∃ oc od fd osl, g.K.lookup (g.fa 31) = some ⟨oc, od, .func fd, osl⟩ ∧ fd.code = cdv) (ok : Ok g (cD g Pr w mg base ["sale", "prices", "bidder"] "gain_of" (defScope s_gain_of) (g.fa 31) cdv A outer s H E) (wD E) 4) : SB g (cD g Pr w mg base ["sale", "prices", "bidder"] "gain_of" (defScope s_gain_of) (g.fa 31) cdv A outer s H E) (wD E) (defBody s_gain_of) m_gain_of := 
  (sb_cons (ss_expr (se_fnD ok (d_need_sale Z) (by decide) rfl Z.gl_need_sale (sz_val (se_var (i := 0) rfl (vis_by rfl)) sz_nil) (zl_val zl_nil)))
  (sb_cons (ss_expr (se_fnD ok (d_need_prices Z) (by decide) rfl Z.gl_need_prices (sz_val (se_var (i := 0) rfl (vis_by rfl)) (sz_val (se_var (i := 1) rfl (vis_by rfl)) sz_nil)) (zl_val (zl_val zl_nil))))
  (sb_cons (ss_expr (se_fnD ok (d_need_bidder Z) (by decide) rfl Z.gl_need_bidder (sz_val (se_var (i := 0) rfl (vis_by rfl)) (sz_val (se_var (i := 2) rfl (vis_by rfl)) sz_nil)) (zl_val (zl_val zl_nil))))
  sb_stuck)))
theorem d_gain_of (Z : Zt g mg base) : DefE g Pr w mg base 5 31 3 F_gain_of :=
  defE_of (N := ["sale", "prices", "bidder"]) (ps := ["sale", "prices", "bidder"]) Z.fd_gain_of sc_gain_of rfl rfl (fun _ _ _ _ _ _ us hl => match us, hl with | [_, _, _], _ => rfl) (b_gain_of Z)
theorem sc_demand_of : FnScope ["sale", "prices", "bidder", "gain"] ["sale", "prices", "bidder"] (defScope s_demand_of) := ⟨rfl, rfl, rfl, by decide +kernel, rfl, by decide +kernel, by decide +kernel⟩
def m_demand_of : BF := (sSeq (sSet 3 (eFn F_gain_of (zVal (eVar 0) (zVal (eVar 1) (zVal (eVar 2) zNil)))))
  sStuck)
def F_demand_of : FF := fnEv 3 4 m_demand_of
theorem b_demand_of (Z : Zt g mg base) (cdv : Value) (A : Around) (outer : List Env) (s : Shared) (H : Hp) (E : XK) (hcd : ∃ oc od fd osl, g.K.lookup (g.fa 32) = some ⟨oc, od, .func fd, osl⟩ ∧ fd.code = cdv) (ok : Ok g (cD g Pr w mg base ["sale", "prices", "bidder", "gain"] "demand_of" (defScope s_demand_of) (g.fa 32) cdv A outer s H E) (wD E) 5) : SB g (cD g Pr w mg base ["sale", "prices", "bidder", "gain"] "demand_of" (defScope s_demand_of) (g.fa 32) cdv A outer s H E) (wD E) (defBody s_demand_of) m_demand_of := 
  (sb_cons (ss_set (i := 3) ok.nd rfl (loc_by rfl) (se_fnD ok (d_gain_of Z) (by decide) rfl Z.gl_gain_of (sz_val (se_var (i := 0) rfl (vis_by rfl)) (sz_val (se_var (i := 1) rfl (vis_by rfl)) (sz_val (se_var (i := 2) rfl (vis_by rfl)) sz_nil))) (zl_val (zl_val (zl_val zl_nil)))))
  sb_stuck)
theorem d_demand_of (Z : Zt g mg base) : DefE g Pr w mg base 6 32 3 F_demand_of :=
  defE_of (N := ["sale", "prices", "bidder", "gain"]) (ps := ["sale", "prices", "bidder"]) Z.fd_demand_of sc_demand_of rfl rfl (fun _ _ _ _ _ _ us hl => match us, hl with | [_, _, _], _ => rfl) (b_demand_of Z)
theorem sc_goes_with : FnScope ["sale", "prices", "allotment"] ["sale", "prices", "allotment"] (defScope s_goes_with) := ⟨rfl, rfl, rfl, by decide +kernel, rfl, by decide +kernel, by decide +kernel⟩
def m_goes_with : BF := (sSeq (sExpr (eFn F_checked (zVal (eVar 0) (zVal (eVar 1) zNil))))
  (sSeq (sExpr (eFn F_need_allotment (zVal (eVar 0) (zVal (eVar 2) zNil))))
  sStuck))
def F_goes_with : FF := fnEv 3 3 m_goes_with
theorem b_goes_with (Z : Zt g mg base) (cdv : Value) (A : Around) (outer : List Env) (s : Shared) (H : Hp) (E : XK) (hcd : ∃ oc od fd osl, g.K.lookup (g.fa 57) = some ⟨oc, od, .func fd, osl⟩ ∧ fd.code = cdv) (ok : Ok g (cD g Pr w mg base ["sale", "prices", "allotment"] "goes_with" (defScope s_goes_with) (g.fa 57) cdv A outer s H E) (wD E) 5) : SB g (cD g Pr w mg base ["sale", "prices", "allotment"] "goes_with" (defScope s_goes_with) (g.fa 57) cdv A outer s H E) (wD E) (defBody s_goes_with) m_goes_with := 
  (sb_cons (ss_expr (se_fnD ok (d_checked Z) (by decide) rfl Z.gl_checked (sz_val (se_var (i := 0) rfl (vis_by rfl)) (sz_val (se_var (i := 1) rfl (vis_by rfl)) sz_nil)) (zl_val (zl_val zl_nil))))
  (sb_cons (ss_expr (se_fnD ok (d_need_allotment Z) (by decide) rfl Z.gl_need_allotment (sz_val (se_var (i := 0) rfl (vis_by rfl)) (sz_val (se_var (i := 2) rfl (vis_by rfl)) sz_nil)) (zl_val (zl_val zl_nil))))
  sb_stuck))
theorem d_goes_with (Z : Zt g mg base) : DefE g Pr w mg base 6 57 3 F_goes_with :=
  defE_of (N := ["sale", "prices", "allotment"]) (ps := ["sale", "prices", "allotment"]) Z.fd_goes_with sc_goes_with rfl rfl (fun _ _ _ _ _ _ us hl => match us, hl with | [_, _, _], _ => rfl) (b_goes_with Z)
theorem sc_need_set : FnScope ["sale", "value", "many", "name"] ["sale", "value"] (defScope s_need_set) := ⟨rfl, rfl, rfl, by decide +kernel, rfl, by decide +kernel, by decide +kernel⟩
def m_need_set : BF := (sSeq (sSet 2 (eCall bLen (aCons (e2 pIx (eVar 0) (eC (.int 0))) aNil)))
  (sSeq (sIf (tOr (tNot (tB (eFn F_is_tuple_of (zVal (eVar 1) (zVal (eC (.int 1)) (zVal (eVar 2) zNil)))))) (tNot (tB (eCall bAll (aCons (eFr (fComp (aSeq (eVar 1)) (gN 3) tYes (eFn F_is_whole (zVal (eVar 3) (zVal (eC (.int 0)) (zVal (e2 pSub (eVar 2) (eC (.int 1))) zNil)))) [3])) aNil))))) (sRaise 7) sNil)
  (sIf (tB (e2s pNe (vE (eFr (fCall lList (aCons (eVar 1) aNil)))) (vE (eFr (fSortedSet (vE (eVar 1))))))) (sRaise 7) sNil)))
def F_need_set : FF := fnEv 2 4 m_need_set
theorem b_need_set (Z : Zt g mg base) (cdv : Value) (A : Around) (outer : List Env) (s : Shared) (H : Hp) (E : XK) (hcd : ∃ oc od fd osl, g.K.lookup (g.fa 36) = some ⟨oc, od, .func fd, osl⟩ ∧ fd.code = cdv) (ok : Ok g (cD g Pr w mg base ["sale", "value", "many", "name"] "need_set" (defScope s_need_set) (g.fa 36) cdv A outer s H E) (wD E) 1) : SB g (cD g Pr w mg base ["sale", "value", "many", "name"] "need_set" (defScope s_need_set) (g.fa 36) cdv A outer s H E) (wD E) (defBody s_need_set) m_need_set := 
  (sb_cons (ss_set (i := 2) ok.nd rfl (loc_by rfl) (se_callB (cs_len ok.K) rfl Z.fr_len bt_len (sa_cons (se_ix (is_ix ok.K) (se_var (i := 0) rfl (vis_by rfl)) se_int (fun _ _ => rfl)) sa_nil)))
  (sb_cons (ss_if (st_w (sw_or (st_not (st_val (se_fnD ok (d_is_tuple_of Z) (by decide) rfl Z.gl_is_tuple_of (sz_val (se_var (i := 1) rfl (vis_by rfl)) (sz_val se_int (sz_val (se_var (i := 2) rfl (vis_by rfl)) sz_nil))) (zl_val (zl_val (zl_val zl_nil)))))) (sw_1 (st_not (st_val (se_callB (cs_all ok) rfl Z.fr_all bt_all (sa_cons (se_fr (sf_comp (is := [3]) (own := [("name", 3)]) ok (si_seq ok.K (se_var (i := 1) rfl (vis_by rfl))) (blkOk_by (by rfl)) (by decide) (hg_name (B := Blk _ _) (j := 3) (fun _ _ _ _ _ => ok.nd) (fun _ _ _ _ _ => rfl) (fun _ _ _ _ _ => loc_by rfl) (fun _ _ _ _ _ => .inr rfl)) (fun _ _ _ _ _ ok1 => sts_nil) (fun _ _ _ _ _ ok1 => (se_fnD ok1 (d_is_whole Z) (by decide) rfl Z.gl_is_whole (sz_val (se_var (i := 3) rfl (vis_by rfl)) (sz_val se_int (sz_val (se_op os_sub (se_var (i := 2) rfl (vis_by rfl)) se_int) sz_nil))) (zl_val (zl_val (zl_val zl_nil))))))) sa_nil)))) (.inr rfl)))) (sb_one (ss_raiseK (n := 7) ok Z.ex_InvalidSet Z.gl_InvalidSet rfl)) sb_nil)
  (sb_one (ss_if (st_cmpS (os_ne ok) (sv_e (se_fr (sf_callTy (cf_list ok.K) rfl Z.fr_list bt_list (sa_cons (se_var (i := 1) rfl (vis_by rfl)) sa_nil)))) (sv_e (se_fr (sf_sortedSet ok rfl Z.fr_sorted rfl Z.fr_set (sv_e (se_var (i := 1) rfl (vis_by rfl)))))) (by rfl)) (sb_one (ss_raiseK (n := 7) ok Z.ex_InvalidSet Z.gl_InvalidSet rfl)) sb_nil))))
theorem d_need_set (Z : Zt g mg base) : DefE g Pr w mg base 2 36 2 F_need_set :=
  defE_of (N := ["sale", "value", "many", "name"]) (ps := ["sale", "value"]) Z.fd_need_set sc_need_set rfl rfl (fun _ _ _ _ _ _ us hl => match us, hl with | [_, _], _ => rfl) (b_need_set Z)
theorem sc_is_overdemanded : FnScope ["sale", "prices", "names"] ["sale", "prices", "names"] (defScope s_is_overdemanded) := ⟨rfl, rfl, rfl, by decide +kernel, rfl, by decide +kernel, by decide +kernel⟩
def m_is_overdemanded : BF := (sSeq (sExpr (eFn F_checked (zVal (eVar 0) (zVal (eVar 1) zNil))))
  (sSeq (sExpr (eFn F_need_set (zVal (eVar 0) (zVal (eVar 2) zNil))))
  sStuck))
def F_is_overdemanded : FF := fnEv 3 3 m_is_overdemanded
theorem b_is_overdemanded (Z : Zt g mg base) (cdv : Value) (A : Around) (outer : List Env) (s : Shared) (H : Hp) (E : XK) (hcd : ∃ oc od fd osl, g.K.lookup (g.fa 61) = some ⟨oc, od, .func fd, osl⟩ ∧ fd.code = cdv) (ok : Ok g (cD g Pr w mg base ["sale", "prices", "names"] "is_overdemanded" (defScope s_is_overdemanded) (g.fa 61) cdv A outer s H E) (wD E) 5) : SB g (cD g Pr w mg base ["sale", "prices", "names"] "is_overdemanded" (defScope s_is_overdemanded) (g.fa 61) cdv A outer s H E) (wD E) (defBody s_is_overdemanded) m_is_overdemanded := 
  (sb_cons (ss_expr (se_fnD ok (d_checked Z) (by decide) rfl Z.gl_checked (sz_val (se_var (i := 0) rfl (vis_by rfl)) (sz_val (se_var (i := 1) rfl (vis_by rfl)) sz_nil)) (zl_val (zl_val zl_nil))))
  (sb_cons (ss_expr (se_fnD ok (d_need_set Z) (by decide) rfl Z.gl_need_set (sz_val (se_var (i := 0) rfl (vis_by rfl)) (sz_val (se_var (i := 2) rfl (vis_by rfl)) sz_nil)) (zl_val (zl_val zl_nil))))
  sb_stuck))
theorem d_is_overdemanded (Z : Zt g mg base) : DefE g Pr w mg base 6 61 3 F_is_overdemanded :=
  defE_of (N := ["sale", "prices", "names"]) (ps := ["sale", "prices", "names"]) Z.fd_is_overdemanded sc_is_overdemanded rfl rfl (fun _ _ _ _ _ _ us hl => match us, hl with | [_, _, _], _ => rfl) (b_is_overdemanded Z)
theorem sc_is_underdemanded : FnScope ["sale", "prices", "names"] ["sale", "prices", "names"] (defScope s_is_underdemanded) := ⟨rfl, rfl, rfl, by decide +kernel, rfl, by decide +kernel, by decide +kernel⟩
def m_is_underdemanded : BF := (sSeq (sExpr (eFn F_checked (zVal (eVar 0) (zVal (eVar 1) zNil))))
  (sSeq (sExpr (eFn F_need_set (zVal (eVar 0) (zVal (eVar 2) zNil))))
  sStuck))
def F_is_underdemanded : FF := fnEv 3 3 m_is_underdemanded
theorem b_is_underdemanded (Z : Zt g mg base) (cdv : Value) (A : Around) (outer : List Env) (s : Shared) (H : Hp) (E : XK) (hcd : ∃ oc od fd osl, g.K.lookup (g.fa 62) = some ⟨oc, od, .func fd, osl⟩ ∧ fd.code = cdv) (ok : Ok g (cD g Pr w mg base ["sale", "prices", "names"] "is_underdemanded" (defScope s_is_underdemanded) (g.fa 62) cdv A outer s H E) (wD E) 5) : SB g (cD g Pr w mg base ["sale", "prices", "names"] "is_underdemanded" (defScope s_is_underdemanded) (g.fa 62) cdv A outer s H E) (wD E) (defBody s_is_underdemanded) m_is_underdemanded := 
  (sb_cons (ss_expr (se_fnD ok (d_checked Z) (by decide) rfl Z.gl_checked (sz_val (se_var (i := 0) rfl (vis_by rfl)) (sz_val (se_var (i := 1) rfl (vis_by rfl)) sz_nil)) (zl_val (zl_val zl_nil))))
  (sb_cons (ss_expr (se_fnD ok (d_need_set Z) (by decide) rfl Z.gl_need_set (sz_val (se_var (i := 0) rfl (vis_by rfl)) (sz_val (se_var (i := 2) rfl (vis_by rfl)) sz_nil)) (zl_val (zl_val zl_nil))))
  sb_stuck))
theorem d_is_underdemanded (Z : Zt g mg base) : DefE g Pr w mg base 6 62 3 F_is_underdemanded :=
  defE_of (N := ["sale", "prices", "names"]) (ps := ["sale", "prices", "names"]) Z.fd_is_underdemanded sc_is_underdemanded rfl rfl (fun _ _ _ _ _ _ us hl => match us, hl with | [_, _, _], _ => rfl) (b_is_underdemanded Z)
theorem sc_is_loose : FnScope ["sale", "prices", "names"] ["sale", "prices", "names"] (defScope s_is_loose) := ⟨rfl, rfl, rfl, by decide +kernel, rfl, by decide +kernel, by decide +kernel⟩
def m_is_loose : BF := (sSeq (sExpr (eFn F_checked (zVal (eVar 0) (zVal (eVar 1) zNil))))
  (sSeq (sExpr (eFn F_need_set (zVal (eVar 0) (zVal (eVar 2) zNil))))
  sStuck))
def F_is_loose : FF := fnEv 3 3 m_is_loose
theorem b_is_loose (Z : Zt g mg base) (cdv : Value) (A : Around) (outer : List Env) (s : Shared) (H : Hp) (E : XK) (hcd : ∃ oc od fd osl, g.K.lookup (g.fa 63) = some ⟨oc, od, .func fd, osl⟩ ∧ fd.code = cdv) (ok : Ok g (cD g Pr w mg base ["sale", "prices", "names"] "is_loose" (defScope s_is_loose) (g.fa 63) cdv A outer s H E) (wD E) 5) : SB g (cD g Pr w mg base ["sale", "prices", "names"] "is_loose" (defScope s_is_loose) (g.fa 63) cdv A outer s H E) (wD E) (defBody s_is_loose) m_is_loose := 
  (sb_cons (ss_expr (se_fnD ok (d_checked Z) (by decide) rfl Z.gl_checked (sz_val (se_var (i := 0) rfl (vis_by rfl)) (sz_val (se_var (i := 1) rfl (vis_by rfl)) sz_nil)) (zl_val (zl_val zl_nil))))
  (sb_cons (ss_expr (se_fnD ok (d_need_set Z) (by decide) rfl Z.gl_need_set (sz_val (se_var (i := 0) rfl (vis_by rfl)) (sz_val (se_var (i := 2) rfl (vis_by rfl)) sz_nil)) (zl_val (zl_val zl_nil))))
  sb_stuck))
theorem d_is_loose (Z : Zt g mg base) : DefE g Pr w mg base 6 63 3 F_is_loose :=
  defE_of (N := ["sale", "prices", "names"]) (ps := ["sale", "prices", "names"]) Z.fd_is_loose sc_is_loose rfl rfl (fun _ _ _ _ _ _ us hl => match us, hl with | [_, _, _], _ => rfl) (b_is_loose Z)
theorem sc_raised_by : FnScope ["prices", "names", "name", "price"] ["prices", "names"] (defScope s_raised_by) := ⟨rfl, rfl, rfl, by decide +kernel, rfl, by decide +kernel, by decide +kernel⟩
def m_raised_by : BF := (sRet (eCall bTup (aCons (eFr (fComp (aEnum (eVar 0)) (gT 2 (gCons_ (gN 2) (gCons_ (gN 3) gNil_))) tYes (e2 pAdd (eVar 3) (eIf (tB (e2 pIn (eVar 2) (eVar 1))) (eC (.int 1)) (eC (.int 0)))) [2, 3])) aNil)))
def F_raised_by : FF := fnEv 2 4 m_raised_by
theorem b_raised_by (Z : Zt g mg base) (cdv : Value) (A : Around) (outer : List Env) (s : Shared) (H : Hp) (E : XK) (hcd : ∃ oc od fd osl, g.K.lookup (g.fa 67) = some ⟨oc, od, .func fd, osl⟩ ∧ fd.code = cdv) (ok : Ok g (cD g Pr w mg base ["prices", "names", "name", "price"] "raised_by" (defScope s_raised_by) (g.fa 67) cdv A outer s H E) (wD E) 0) : SB g (cD g Pr w mg base ["prices", "names", "name", "price"] "raised_by" (defScope s_raised_by) (g.fa 67) cdv A outer s H E) (wD E) (defBody s_raised_by) m_raised_by := 
  (sb_one (ss_ret (se_callTy (cs_tup ok.K) rfl Z.fr_tuple bt_tuple (sa_cons (se_fr (sf_comp (is := [2, 3]) (own := [("name", 2), ("price", 3)]) ok (si_enum ok.K rfl Z.fr_enumerate (se_var (i := 0) rfl (vis_by rfl))) (blkOk_by (by rfl)) (by decide) (hg_tup (B := Blk _ _) (fun _ _ _ _ _ => ok.calm) (fun _ _ _ _ _ => ok.K) (hgs_cons (B := Blk _ _) (hg_name (B := Blk _ _) (j := 2) (fun _ _ _ _ _ => ok.nd) (fun _ _ _ _ _ => rfl) (fun _ _ _ _ _ => loc_by rfl) (fun _ _ _ _ _ => .inr rfl)) (hgs_cons (B := Blk _ _) (hg_name (B := Blk _ _) (j := 3) (fun _ _ _ _ _ => ok.nd) (fun _ _ _ _ _ => rfl) (fun _ _ _ _ _ => loc_by rfl) (fun _ _ _ _ _ => .inr rfl)) hgs_nil))) (fun _ _ _ _ _ ok1 => sts_nil) (fun _ _ _ _ _ ok1 => (se_op (os_add ok1.K) (se_var (i := 3) rfl (vis_by rfl)) (se_if (st_cmp (os_in ok1) (se_var (i := 2) rfl (vis_by rfl)) (se_var (i := 1) rfl (vis_by rfl)) (by rfl)) se_int se_int))))) sa_nil))))
theorem d_raised_by (Z : Zt g mg base) : DefE g Pr w mg base 1 67 2 F_raised_by :=
  defE_of (N := ["prices", "names", "name", "price"]) (ps := ["prices", "names"]) Z.fd_raised_by sc_raised_by rfl rfl (fun _ _ _ _ _ _ us hl => match us, hl with | [_, _], _ => rfl) (b_raised_by Z)
theorem sc_raised : FnScope ["sale", "prices", "names", "found"] ["sale", "prices", "names"] (defScope s_raised) := ⟨rfl, rfl, rfl, by decide +kernel, rfl, by decide +kernel, by decide +kernel⟩
def m_raised : BF := (sSeq (sExpr (eFn F_checked (zVal (eVar 0) (zVal (eVar 1) zNil))))
  (sSeq (sExpr (eFn F_need_set (zVal (eVar 0) (zVal (eVar 2) zNil))))
  (sSeq (sSet 3 (eFn F_raised_by (zVal (eVar 1) (zVal (eVar 2) zNil))))
  (sSeq (sIf (tB (e2 pGt (eCall bMax (aCons (eVar 3) aNil)) (eC (.int 2000000)))) (sRaise 2) sNil)
  (sRet (eVar 3))))))
def F_raised : FF := fnEv 3 4 m_raised
theorem b_raised (Z : Zt g mg base) (cdv : Value) (A : Around) (outer : List Env) (s : Shared) (H : Hp) (E : XK) (hcd : ∃ oc od fd osl, g.K.lookup (g.fa 69) = some ⟨oc, od, .func fd, osl⟩ ∧ fd.code = cdv) (ok : Ok g (cD g Pr w mg base ["sale", "prices", "names", "found"] "raised" (defScope s_raised) (g.fa 69) cdv A outer s H E) (wD E) 5) : SB g (cD g Pr w mg base ["sale", "prices", "names", "found"] "raised" (defScope s_raised) (g.fa 69) cdv A outer s H E) (wD E) (defBody s_raised) m_raised := 
  (sb_cons (ss_expr (se_fnD ok (d_checked Z) (by decide) rfl Z.gl_checked (sz_val (se_var (i := 0) rfl (vis_by rfl)) (sz_val (se_var (i := 1) rfl (vis_by rfl)) sz_nil)) (zl_val (zl_val zl_nil))))
  (sb_cons (ss_expr (se_fnD ok (d_need_set Z) (by decide) rfl Z.gl_need_set (sz_val (se_var (i := 0) rfl (vis_by rfl)) (sz_val (se_var (i := 2) rfl (vis_by rfl)) sz_nil)) (zl_val (zl_val zl_nil))))
  (sb_cons (ss_set (i := 3) ok.nd rfl (loc_by rfl) (se_fnD ok (d_raised_by Z) (by decide) rfl Z.gl_raised_by (sz_val (se_var (i := 1) rfl (vis_by rfl)) (sz_val (se_var (i := 2) rfl (vis_by rfl)) sz_nil)) (zl_val (zl_val zl_nil))))
  (sb_cons (ss_if (st_cmp os_gt (se_callB (cs_max ok) rfl Z.fr_max bt_max (sa_cons (se_var (i := 3) rfl (vis_by rfl)) sa_nil)) (se_gi (i := 2000000) rfl Z.gi_PRICE) (by rfl)) (sb_one (ss_raiseK (n := 2) ok Z.ex_InvalidPrices Z.gl_InvalidPrices rfl)) sb_nil)
  (sb_one (ss_ret (se_var (i := 3) rfl (vis_by rfl))))))))
theorem d_raised (Z : Zt g mg base) : DefE g Pr w mg base 6 69 3 F_raised :=
  defE_of (N := ["sale", "prices", "names", "found"]) (ps := ["sale", "prices", "names"]) Z.fd_raised sc_raised rfl rfl (fun _ _ _ _ _ _ us hl => match us, hl with | [_, _, _], _ => rfl) (b_raised Z)
theorem sc_chain_paper : FnScope ["sale", "prices", "allotment", "found", "turn", "wishes", "own", "name", "row", "price", "reserve"] ["sale", "prices", "allotment"] (defScope s_chain_paper) := ⟨rfl, rfl, rfl, by decide +kernel, rfl, by decide +kernel, by decide +kernel⟩
def m_chain_paper : BF := (sSeq (sExpr (eFn F_checked_pair (zVal (eVar 0) (zVal (eVar 1) (zVal (eVar 2) zNil)))))
  sStuck)
def F_chain_paper : FF := fnEv 3 11 m_chain_paper
theorem b_chain_paper (Z : Zt g mg base) (cdv : Value) (A : Around) (outer : List Env) (s : Shared) (H : Hp) (E : XK) (hcd : ∃ oc od fd osl, g.K.lookup (g.fa 75) = some ⟨oc, od, .func fd, osl⟩ ∧ fd.code = cdv) (ok : Ok g (cD g Pr w mg base ["sale", "prices", "allotment", "found", "turn", "wishes", "own", "name", "row", "price", "reserve"] "chain_paper" (defScope s_chain_paper) (g.fa 75) cdv A outer s H E) (wD E) 6) : SB g (cD g Pr w mg base ["sale", "prices", "allotment", "found", "turn", "wishes", "own", "name", "row", "price", "reserve"] "chain_paper" (defScope s_chain_paper) (g.fa 75) cdv A outer s H E) (wD E) (defBody s_chain_paper) m_chain_paper := 
  (sb_cons (ss_expr (se_fnD ok (d_checked_pair Z) (by decide) rfl Z.gl_checked_pair (sz_val (se_var (i := 0) rfl (vis_by rfl)) (sz_val (se_var (i := 1) rfl (vis_by rfl)) (sz_val (se_var (i := 2) rfl (vis_by rfl)) sz_nil))) (zl_val (zl_val (zl_val zl_nil)))))
  sb_stuck)
theorem d_chain_paper (Z : Zt g mg base) : DefE g Pr w mg base 7 75 3 F_chain_paper :=
  defE_of (N := ["sale", "prices", "allotment", "found", "turn", "wishes", "own", "name", "row", "price", "reserve"]) (ps := ["sale", "prices", "allotment"]) Z.fd_chain_paper sc_chain_paper rfl rfl (fun _ _ _ _ _ _ us hl => match us, hl with | [_, _, _], _ => rfl) (b_chain_paper Z)
theorem sc_with_name : FnScope ["sale", "reserve", "numbers", "row", "number"] ["sale", "reserve", "numbers"] (defScope s_with_name) := ⟨rfl, rfl, rfl, by decide +kernel, rfl, by decide +kernel, by decide +kernel⟩
def m_with_name : BF := (sSeq (sExpr (eFn F_need_sale (zVal (eVar 0) zNil)))
  (sSeq (sExpr (eFn F_need_whole (zVal (eVar 1) (zVal (eC (.int 0)) (zVal (eC (.int 1000000)) zNil)))))
  (sSeq (sIf (tNot (tB (eFn F_is_row (zVal (eVar 2) (zVal (eCall bLen (aCons (e2 pIx (eVar 0) (eC (.int 1))) aNil)) zNil))))) (sRaise 4) sNil)
  (sSeq (sIf (tB (e2 pEq (eCall bLen (aCons (e2 pIx (eVar 0) (eC (.int 0))) aNil)) (eC (.int 16)))) sStuck sNil)
  (sRet (eTup (aCons (e2 pAdd (e2 pIx (eVar 0) (eC (.int 0))) (eTup (aCons (eVar 1) aNil))) (aCons (eCall bTup (aCons (eFr (fComp (aZip (e2 pIx (eVar 0) (eC (.int 1))) (eVar 2)) (gT 2 (gCons_ (gN 3) (gCons_ (gN 4) gNil_))) tYes (e2 pAdd (eVar 3) (eTup (aCons (eVar 4) aNil))) [3, 4])) aNil)) aNil))))))))
def F_with_name : FF := fnEv 3 5 m_with_name
theorem b_with_name (Z : Zt g mg base) (cdv : Value) (A : Around) (outer : List Env) (s : Shared) (H : Hp) (E : XK) (hcd : ∃ oc od fd osl, g.K.lookup (g.fa 83) = some ⟨oc, od, .func fd, osl⟩ ∧ fd.code = cdv) (ok : Ok g (cD g Pr w mg base ["sale", "reserve", "numbers", "row", "number"] "with_name" (defScope s_with_name) (g.fa 83) cdv A outer s H E) (wD E) 4) : SB g (cD g Pr w mg base ["sale", "reserve", "numbers", "row", "number"] "with_name" (defScope s_with_name) (g.fa 83) cdv A outer s H E) (wD E) (defBody s_with_name) m_with_name := 
  (sb_cons (ss_expr (se_fnD ok (d_need_sale Z) (by decide) rfl Z.gl_need_sale (sz_val (se_var (i := 0) rfl (vis_by rfl)) sz_nil) (zl_val zl_nil)))
  (sb_cons (ss_expr (se_fnD ok (d_need_whole Z) (by decide) rfl Z.gl_need_whole (sz_val (se_var (i := 1) rfl (vis_by rfl)) (sz_val se_int (sz_val (se_gi (i := 1000000) rfl Z.gi_NUMBER) sz_nil))) (zl_val (zl_val (zl_val zl_nil)))))
  (sb_cons (ss_if (st_not (st_val (se_fnD ok (d_is_row Z) (by decide) rfl Z.gl_is_row (sz_val (se_var (i := 2) rfl (vis_by rfl)) (sz_val (se_callB (cs_len ok.K) rfl Z.fr_len bt_len (sa_cons (se_ix (is_ix ok.K) (se_var (i := 0) rfl (vis_by rfl)) se_int (fun _ _ => rfl)) sa_nil)) sz_nil)) (zl_val (zl_val zl_nil))))) (sb_one (ss_raiseK (n := 4) ok Z.ex_InvalidBids Z.gl_InvalidBids rfl)) sb_nil)
  (sb_cons (ss_if (st_cmp (os_eq ok) (se_callB (cs_len ok.K) rfl Z.fr_len bt_len (sa_cons (se_ix (is_ix ok.K) (se_var (i := 0) rfl (vis_by rfl)) se_int (fun _ _ => rfl)) sa_nil)) (se_gi (i := 16) rfl Z.gi_NAMES) (by rfl)) (sb_one ss_stuck) sb_nil)
  (sb_one (ss_ret (se_tup (sa_cons (se_op (os_add ok.K) (se_ix (is_ix ok.K) (se_var (i := 0) rfl (vis_by rfl)) se_int (fun _ _ => rfl)) (se_tup (sa_cons (se_var (i := 1) rfl (vis_by rfl)) sa_nil))) (sa_cons (se_callTy (cs_tup ok.K) rfl Z.fr_tuple bt_tuple (sa_cons (se_fr (sf_comp (is := [3, 4]) (own := [("row", 3), ("number", 4)]) ok (si_zip ok.K rfl Z.fr_zip (se_ix (is_ix ok.K) (se_var (i := 0) rfl (vis_by rfl)) se_int (fun _ _ => rfl)) (se_var (i := 2) rfl (vis_by rfl))) (blkOk_by (by rfl)) (by decide) (hg_tup (B := Blk _ _) (fun _ _ _ _ _ => ok.calm) (fun _ _ _ _ _ => ok.K) (hgs_cons (B := Blk _ _) (hg_name (B := Blk _ _) (j := 3) (fun _ _ _ _ _ => ok.nd) (fun _ _ _ _ _ => rfl) (fun _ _ _ _ _ => loc_by rfl) (fun _ _ _ _ _ => .inr rfl)) (hgs_cons (B := Blk _ _) (hg_name (B := Blk _ _) (j := 4) (fun _ _ _ _ _ => ok.nd) (fun _ _ _ _ _ => rfl) (fun _ _ _ _ _ => loc_by rfl) (fun _ _ _ _ _ => .inr rfl)) hgs_nil))) (fun _ _ _ _ _ ok1 => sts_nil) (fun _ _ _ _ _ ok1 => (se_op (os_add ok1.K) (se_var (i := 3) rfl (vis_by rfl)) (se_tup (sa_cons (se_var (i := 4) rfl (vis_by rfl)) sa_nil)))))) sa_nil)) sa_nil)))))))))
theorem d_with_name (Z : Zt g mg base) : DefE g Pr w mg base 5 83 3 F_with_name :=
  defE_of (N := ["sale", "reserve", "numbers", "row", "number"]) (ps := ["sale", "reserve", "numbers"]) Z.fd_with_name sc_with_name rfl rfl (fun _ _ _ _ _ _ us hl => match us, hl with | [_, _, _], _ => rfl) (b_with_name Z)
theorem sc_fallen : FnScope ["sale", "reserve", "numbers", "later", "name", "price"] ["sale", "reserve", "numbers"] (defScope s_fallen) := ⟨rfl, rfl, rfl, by decide +kernel, rfl, by decide +kernel, by decide +kernel⟩
def m_fallen : BF := (sSeq (sSet 3 (eFn F_least_in (zVal (eFn F_with_name (zVal (eVar 0) (zVal (eVar 1) (zVal (eVar 2) zNil)))) zNil)))
  sStuck)
def F_fallen : FF := fnEv 3 6 m_fallen
theorem b_fallen (Z : Zt g mg base) (cdv : Value) (A : Around) (outer : List Env) (s : Shared) (H : Hp) (E : XK) (hcd : ∃ oc od fd osl, g.K.lookup (g.fa 87) = some ⟨oc, od, .func fd, osl⟩ ∧ fd.code = cdv) (ok : Ok g (cD g Pr w mg base ["sale", "reserve", "numbers", "later", "name", "price"] "fallen" (defScope s_fallen) (g.fa 87) cdv A outer s H E) (wD E) 5) : SB g (cD g Pr w mg base ["sale", "reserve", "numbers", "later", "name", "price"] "fallen" (defScope s_fallen) (g.fa 87) cdv A outer s H E) (wD E) (defBody s_fallen) m_fallen := 
  (sb_cons (ss_set (i := 3) ok.nd rfl (loc_by rfl) (se_fnD ok (d_least_in Z) (by decide) rfl Z.gl_least_in (sz_val (se_fnD ok (d_with_name Z) (by decide) rfl Z.gl_with_name (sz_val (se_var (i := 0) rfl (vis_by rfl)) (sz_val (se_var (i := 1) rfl (vis_by rfl)) (sz_val (se_var (i := 2) rfl (vis_by rfl)) sz_nil))) (zl_val (zl_val (zl_val zl_nil)))) sz_nil) (zl_val zl_nil)))
  sb_stuck)
theorem d_fallen (Z : Zt g mg base) : DefE g Pr w mg base 6 87 3 F_fallen :=
  defE_of (N := ["sale", "reserve", "numbers", "later", "name", "price"]) (ps := ["sale", "reserve", "numbers"]) Z.fd_fallen sc_fallen rfl rfl (fun _ _ _ _ _ _ us hl => match us, hl with | [_, _, _], _ => rfl) (b_fallen Z)
theorem sc__law_bidders_right : FnScope ["sale", "odd", "words", "call"] ["sale"] (defScope s__law_bidders_right) := ⟨rfl, rfl, rfl, by decide +kernel, rfl, by decide +kernel, by decide +kernel⟩
def tab_2 : List (Nat × FF) := [(33, F_worth_of), (58, F_is_competitive), (64, F_overdemanded), (65, F_underdemanded), (66, F_loose), (72, F_takes_raises), (80, F_menu), (90, F_told_allotment), (82, F_with_bidder), (84, F_without_bidder), (85, F_without_name), (86, F_risen)]
theorem tabD_2 (Z : Zt g mg base) : TabOk g Pr w mg base 20 2 tab_2 := (tabOk_cons (d_worth_of Z) (by decide) (tabOk_cons (d_is_competitive Z) (by decide) (tabOk_cons (d_overdemanded Z) (by decide) (tabOk_cons (d_underdemanded Z) (by decide) (tabOk_cons (d_loose Z) (by decide) (tabOk_cons (d_takes_raises Z) (by decide) (tabOk_cons (d_menu Z) (by decide) (tabOk_cons (d_told_allotment Z) (by decide) (tabOk_cons (d_with_bidder Z) (by decide) (tabOk_cons (d_without_bidder Z) (by decide) (tabOk_cons (d_without_name Z) (by decide) (tabOk_cons (d_risen Z) (by decide) tabOk_nil))))))))))))
def tab_3 : List (Nat × FF) := [(31, F_gain_of), (32, F_demand_of), (57, F_goes_with), (61, F_is_overdemanded), (62, F_is_underdemanded), (63, F_is_loose), (69, F_raised), (75, F_chain_paper), (81, F_options_by), (83, F_with_name), (87, F_fallen)]
theorem tabD_3 (Z : Zt g mg base) : TabOk g Pr w mg base 20 3 tab_3 := (tabOk_cons (d_gain_of Z) (by decide) (tabOk_cons (d_demand_of Z) (by decide) (tabOk_cons (d_goes_with Z) (by decide) (tabOk_cons (d_is_overdemanded Z) (by decide) (tabOk_cons (d_is_underdemanded Z) (by decide) (tabOk_cons (d_is_loose Z) (by decide) (tabOk_cons (d_raised Z) (by decide) (tabOk_cons (d_chain_paper Z) (by decide) (tabOk_cons (d_options_by Z) (by decide) (tabOk_cons (d_with_name Z) (by decide) (tabOk_cons (d_fallen Z) (by decide) tabOk_nil)))))))))))
def m__law_bidders_right : BF := (sSeq (sFor (aSeq (eTup (aCons (eC .non) (aCons (e1 pNeg (eC (.int 1))) (aCons (eC (.int 3)) (aCons (eC (.bl true)) (aCons (eC (.str "0")) (aCons (eTup (aCons (eC (.int 0)) aNil)) aNil)))))))) (gN 1) (sSeq (sCell 2 (fComp (aSeq (eTup (aCons (eC (.adr 31)) (aCons (eC (.adr 32)) aNil)))) (gN 3) tYes (eErr cl_ tell_ (eCV 3 tab_3 (zVal (eVar 0) (zVal (eTup (aCons (eC (.int 0)) (aCons (eC (.int 1)) aNil))) (zVal (eVar 1) zNil))))) [3]))
  (sSeq (sCell 2 (f2s lAdd (vVar 2) (vE (eFr (fComp (aSeq (eTup (aCons (eC (.adr 80)) (aCons (eC (.adr 84)) aNil)))) (gN 3) tYes (eErr cl_ tell_ (eCV 3 tab_2 (zVal (eVar 0) (zVal (eVar 1) zNil)))) [3])))))
  (sIf (tB (e2s pNe (vE (eFr (f2s lAdd (vVar 2) (vE (eFr (fLst (aCons (eErr cl_ tell_ (eFn F_options_by (zVal (eVar 0) (zVal (eVar 1) (zVal (eC .non) zNil))))) aNil))))))) (vE (eFr (f2s lMul (vE (eFr (fLst (aCons (eC (.str "bidder")) aNil)))) (vE (eC (.int 5)))))))) (sRet (eC (.bl false))) sNil))))
  (sSeq (sFor (aSeq (eFn F__law_odd_allotments zNil)) (gN 1) (sSeq (sCell 2 (fComp (aSeq (eTup (aCons (eC (.adr 57)) (aCons (eC (.adr 75)) aNil)))) (gN 3) tYes (eErr cl_ tell_ (eCV 3 tab_3 (zVal (eVar 0) (zVal (eTup (aCons (eC (.int 3)) (aCons (eC (.int 1)) aNil))) (zVal (eVar 1) zNil))))) [3]))
  (sSeq (sApp (vVar 2) (eErr cl_ tell_ (eFn F_worth_of (zVal (eVar 0) (zVal (eVar 1) zNil)))))
  (sIf (tB (e2s pNe (vE (eFr (f2s lAdd (vVar 2) (vE (eFr (fLst (aCons (eErr cl_ tell_ (eFn F_takes_chains (zVal (eVar 0) (zVal (eTup (aCons (eC (.int 3)) (aCons (eC (.int 1)) aNil))) (zVal (eVar 1) (zVal (eC .non) zNil)))))) aNil))))))) (vE (eFr (f2s lMul (vE (eFr (fLst (aCons (eC (.str "allotment")) aNil)))) (vE (eC (.int 4)))))))) (sRet (eC (.bl false))) sNil))))
  (sSeq (sFor (aSeq (eTup (aCons (eC .non) (aCons (eTup aNil) (aCons (eFr (fLst (aCons (eC (.int 0)) aNil))) (aCons (eTup (aCons (eC (.int 0)) (aCons (eC (.int 0)) aNil))) (aCons (eTup (aCons (eC (.int 1)) (aCons (eC (.int 0)) aNil))) (aCons (eTup (aCons (eC (.int 2)) aNil)) (aCons (eTup (aCons (e1 pNeg (eC (.int 1))) aNil)) (aCons (eTup (aCons (eC (.bl true)) aNil)) (aCons (eTup (aCons (eC (.int 0)) (aCons (eC (.int 1)) (aCons (eC (.int 2)) aNil)))) (aCons (eTup (aCons (eC (.str "0")) aNil)) (aCons (eC (.int 0)) aNil))))))))))))) (gN 1) (sSeq (sCell 2 (fComp (aSeq (eTup (aCons (eC (.adr 61)) (aCons (eC (.adr 62)) (aCons (eC (.adr 63)) (aCons (eC (.adr 69)) aNil)))))) (gN 3) tYes (eErr cl_ tell_ (eCV 3 tab_3 (zVal (eVar 0) (zVal (eTup (aCons (eC (.int 0)) (aCons (eC (.int 1)) aNil))) (zVal (eVar 1) zNil))))) [3]))
  (sIf (tB (e2s pNe (vVar 2) (vE (eFr (f2s lMul (vE (eFr (fLst (aCons (eC (.str "set")) aNil)))) (vE (eC (.int 4)))))))) (sRet (eC (.bl false))) sNil)))
  (sRet (eC (.bl true))))))
def F__law_bidders_right : FF := fnEv 1 4 m__law_bidders_right
theorem b__law_bidders_right (Z : Zt g mg base) (cdv : Value) (A : Around) (outer : List Env) (s : Shared) (H : Hp) (E : XK) (hcd : ∃ oc od fd osl, g.K.lookup (g.fa 100) = some ⟨oc, od, .func fd, osl⟩ ∧ fd.code = cdv) (ok : Ok g (cD g Pr w mg base ["sale", "odd", "words", "call"] "_law_bidders_right" (defScope s__law_bidders_right) (g.fa 100) cdv A outer s H E) (wD E) 22) : SB g (cD g Pr w mg base ["sale", "odd", "words", "call"] "_law_bidders_right" (defScope s__law_bidders_right) (g.fa 100) cdv A outer s H E) (wD E) (defBody s__law_bidders_right) m__law_bidders_right := by
  obtain ⟨_, fdE⟩ := Z.fd__law_error
  have la := LamFact.at Z.la__law_bidders_right hcd
  exact 
  (sb_cons (ss_for (passes_of rfl) ok.calm (si_seq ok.K (se_tup (sa_cons se_non (sa_cons (se_un us_neg se_int) (sa_cons se_int (sa_cons se_bl (sa_cons se_str (sa_cons (se_tup (sa_cons se_int sa_nil)) sa_nil)))))))) (sg_name (i := 1) ok.nd rfl (loc_by rfl)) (sb_cons (ss_cellLc (i := 2) (is := [3]) (own := [("call", 3)]) ok rfl rfl (sw_true rfl rfl (by rfl) (by rfl)) (si_seq ok.K (se_tup (sa_cons (se_def (n := 31) rfl Z.gl_gain_of) (sa_cons (se_def (n := 32) rfl Z.gl_demand_of) sa_nil)))) (blkOk_by (by rfl)) (by decide) (hg_name (B := Blk _ _) (j := 3) (fun _ _ _ _ _ => ok.nd) (fun _ _ _ _ _ => rfl) (fun _ _ _ _ _ => loc_by rfl) (fun _ _ _ _ _ => .inl rfl)) (fun _ _ _ _ _ ok1 => sts_nil) (fun _ _ _ _ _ ok1 => (se_lamErr (kb := 20) ok1 (by decide) fdE sc__law_error bndE rfl Z.gl__law_error (vis_by rfl) rfl (fun cdv => gE Z rfl rfl cdv _) la (lamS_by (by rfl)) (by rfl) (by intros; rfl) (fun _ _ _ _ _ _ _ okL => (se_cv (i := 3) okL (fun n F h => tabD_3 Z n F h) rfl (vis_by rfl) (sz_val (se_var (i := 0) rfl (vis_by rfl)) (sz_val (se_tup (sa_cons se_int (sa_cons se_int sa_nil))) (sz_val (se_var (i := 1) rfl (vis_by rfl)) sz_nil))) (zl_val (zl_val (zl_val zl_nil))))))))
  (sb_cons (ss_cell (i := 2) ok.nd rfl (loc_by rfl) (sf_opS of_add (sv_var (i := 2) rfl (vis_by rfl)) (sv_e (se_fr (sf_comp (is := [3]) (own := [("call", 3)]) ok (si_seq ok.K (se_tup (sa_cons (se_def (n := 80) rfl Z.gl_menu) (sa_cons (se_def (n := 84) rfl Z.gl_without_bidder) sa_nil)))) (blkOk_by (by rfl)) (by decide) (hg_name (B := Blk _ _) (j := 3) (fun _ _ _ _ _ => ok.nd) (fun _ _ _ _ _ => rfl) (fun _ _ _ _ _ => loc_by rfl) (fun _ _ _ _ _ => .inl rfl)) (fun _ _ _ _ _ ok1 => sts_nil) (fun _ _ _ _ _ ok1 => (se_lamErr (kb := 20) ok1 (by decide) fdE sc__law_error bndE rfl Z.gl__law_error (vis_by rfl) rfl (fun cdv => gE Z rfl rfl cdv _) la (lamS_by (by rfl)) (by rfl) (by intros; rfl) (fun _ _ _ _ _ _ _ okL => (se_cv (i := 3) okL (fun n F h => tabD_2 Z n F h) rfl (vis_by rfl) (sz_val (se_var (i := 0) rfl (vis_by rfl)) (sz_val (se_var (i := 1) rfl (vis_by rfl)) sz_nil)) (zl_val (zl_val zl_nil)))))))))))
  (sb_one (ss_if (st_cmpS (os_ne ok) (sv_e (se_fr (sf_opS of_add (sv_var (i := 2) rfl (vis_by rfl)) (sv_e (se_fr (sf_lst (sa_cons (se_lamErr (kb := 20) ok (by decide) fdE sc__law_error bndE rfl Z.gl__law_error (vis_by rfl) rfl (fun cdv => gE Z rfl rfl cdv _) la (lamS_by (by rfl)) (by rfl) (by intros; rfl) (fun _ _ _ _ _ _ _ okL => (se_fnD okL (d_options_by Z) (by decide) rfl Z.gl_options_by (sz_val (se_var (i := 0) rfl (vis_by rfl)) (sz_val (se_var (i := 1) rfl (vis_by rfl)) (sz_val se_non sz_nil))) (zl_val (zl_val (zl_val zl_nil)))))) sa_nil))))))) (sv_e (se_fr (sf_opS of_mul (sv_e (se_fr (sf_lst (sa_cons se_str sa_nil)))) (sv_e se_int)))) (by rfl)) (sb_one (ss_ret se_bl)) sb_nil)))))
  (sb_cons (ss_for (passes_of rfl) ok.calm (si_seq ok.K (se_fn0 ok (d__law_odd_allotments Z) (by decide) rfl Z.gl__law_odd_allotments)) (sg_name (i := 1) ok.nd rfl (loc_by rfl)) (sb_cons (ss_cellLc (i := 2) (is := [3]) (own := [("call", 3)]) ok rfl rfl (sw_true rfl rfl (by rfl) (by rfl)) (si_seq ok.K (se_tup (sa_cons (se_def (n := 57) rfl Z.gl_goes_with) (sa_cons (se_def (n := 75) rfl Z.gl_chain_paper) sa_nil)))) (blkOk_by (by rfl)) (by decide) (hg_name (B := Blk _ _) (j := 3) (fun _ _ _ _ _ => ok.nd) (fun _ _ _ _ _ => rfl) (fun _ _ _ _ _ => loc_by rfl) (fun _ _ _ _ _ => .inl rfl)) (fun _ _ _ _ _ ok1 => sts_nil) (fun _ _ _ _ _ ok1 => (se_lamErr (kb := 20) ok1 (by decide) fdE sc__law_error bndE rfl Z.gl__law_error (vis_by rfl) rfl (fun cdv => gE Z rfl rfl cdv _) la (lamS_by (by rfl)) (by rfl) (by intros; rfl) (fun _ _ _ _ _ _ _ okL => (se_cv (i := 3) okL (fun n F h => tabD_3 Z n F h) rfl (vis_by rfl) (sz_val (se_var (i := 0) rfl (vis_by rfl)) (sz_val (se_tup (sa_cons se_int (sa_cons se_int sa_nil))) (sz_val (se_var (i := 1) rfl (vis_by rfl)) sz_nil))) (zl_val (zl_val (zl_val zl_nil))))))))
  (sb_cons (ss_app (sv_var (i := 2) rfl (vis_by rfl)) (se_lamErr (kb := 20) ok (by decide) fdE sc__law_error bndE rfl Z.gl__law_error (vis_by rfl) rfl (fun cdv => gE Z rfl rfl cdv _) la (lamS_by (by rfl)) (by rfl) (by intros; rfl) (fun _ _ _ _ _ _ _ okL => (se_fnD okL (d_worth_of Z) (by decide) rfl Z.gl_worth_of (sz_val (se_var (i := 0) rfl (vis_by rfl)) (sz_val (se_var (i := 1) rfl (vis_by rfl)) sz_nil)) (zl_val (zl_val zl_nil))))))
  (sb_one (ss_if (st_cmpS (os_ne ok) (sv_e (se_fr (sf_opS of_add (sv_var (i := 2) rfl (vis_by rfl)) (sv_e (se_fr (sf_lst (sa_cons (se_lamErr (kb := 20) ok (by decide) fdE sc__law_error bndE rfl Z.gl__law_error (vis_by rfl) rfl (fun cdv => gE Z rfl rfl cdv _) la (lamS_by (by rfl)) (by rfl) (by intros; rfl) (fun _ _ _ _ _ _ _ okL => (se_fnD okL (d_takes_chains Z) (by decide) rfl Z.gl_takes_chains (sz_val (se_var (i := 0) rfl (vis_by rfl)) (sz_val (se_tup (sa_cons se_int (sa_cons se_int sa_nil))) (sz_val (se_var (i := 1) rfl (vis_by rfl)) (sz_val se_non sz_nil)))) (zl_val (zl_val (zl_val (zl_val zl_nil))))))) sa_nil))))))) (sv_e (se_fr (sf_opS of_mul (sv_e (se_fr (sf_lst (sa_cons se_str sa_nil)))) (sv_e se_int)))) (by rfl)) (sb_one (ss_ret se_bl)) sb_nil)))))
  (sb_cons (ss_for (passes_of rfl) ok.calm (si_seq ok.K (se_tup (sa_cons se_non (sa_cons (se_tup sa_nil) (sa_cons (se_fr (sf_lst (sa_cons se_int sa_nil))) (sa_cons (se_tup (sa_cons se_int (sa_cons se_int sa_nil))) (sa_cons (se_tup (sa_cons se_int (sa_cons se_int sa_nil))) (sa_cons (se_tup (sa_cons se_int sa_nil)) (sa_cons (se_tup (sa_cons (se_un us_neg se_int) sa_nil)) (sa_cons (se_tup (sa_cons se_bl sa_nil)) (sa_cons (se_tup (sa_cons se_int (sa_cons se_int (sa_cons se_int sa_nil)))) (sa_cons (se_tup (sa_cons se_str sa_nil)) (sa_cons se_int sa_nil))))))))))))) (sg_name (i := 1) ok.nd rfl (loc_by rfl)) (sb_cons (ss_cellLc (i := 2) (is := [3]) (own := [("call", 3)]) ok rfl rfl (sw_true rfl rfl (by rfl) (by rfl)) (si_seq ok.K (se_tup (sa_cons (se_def (n := 61) rfl Z.gl_is_overdemanded) (sa_cons (se_def (n := 62) rfl Z.gl_is_underdemanded) (sa_cons (se_def (n := 63) rfl Z.gl_is_loose) (sa_cons (se_def (n := 69) rfl Z.gl_raised) sa_nil)))))) (blkOk_by (by rfl)) (by decide) (hg_name (B := Blk _ _) (j := 3) (fun _ _ _ _ _ => ok.nd) (fun _ _ _ _ _ => rfl) (fun _ _ _ _ _ => loc_by rfl) (fun _ _ _ _ _ => .inl rfl)) (fun _ _ _ _ _ ok1 => sts_nil) (fun _ _ _ _ _ ok1 => (se_lamErr (kb := 20) ok1 (by decide) fdE sc__law_error bndE rfl Z.gl__law_error (vis_by rfl) rfl (fun cdv => gE Z rfl rfl cdv _) la (lamS_by (by rfl)) (by rfl) (by intros; rfl) (fun _ _ _ _ _ _ _ okL => (se_cv (i := 3) okL (fun n F h => tabD_3 Z n F h) rfl (vis_by rfl) (sz_val (se_var (i := 0) rfl (vis_by rfl)) (sz_val (se_tup (sa_cons se_int (sa_cons se_int sa_nil))) (sz_val (se_var (i := 1) rfl (vis_by rfl)) sz_nil))) (zl_val (zl_val (zl_val zl_nil))))))))
  (sb_one (ss_if (st_cmpS (os_ne ok) (sv_var (i := 2) rfl (vis_by rfl)) (sv_e (se_fr (sf_opS of_mul (sv_e (se_fr (sf_lst (sa_cons se_str sa_nil)))) (sv_e se_int)))) (by rfl)) (sb_one (ss_ret se_bl)) sb_nil))))
  (sb_one (ss_ret se_bl)))))
theorem d__law_bidders_right (Z : Zt g mg base) : DefE g Pr w mg base 23 100 1 F__law_bidders_right :=
  defE_of (N := ["sale", "odd", "words", "call"]) (ps := ["sale"]) Z.fd__law_bidders_right sc__law_bidders_right rfl rfl (fun _ _ _ _ _ _ us hl => match us, hl with | [_], _ => rfl) (b__law_bidders_right Z)
theorem sc__law_cup : FnScope ["script", "cell"] ["script"] (defScope s__law_cup) := ⟨rfl, rfl, rfl, by decide +kernel, rfl, by decide +kernel, by decide +kernel⟩
def m__law_cup : BF := (sSeq (sSet 1 (eCall bAbs (aCons (e2s pIx (vE (eFr (f2s lAdd (vE (eFr (fCall lList (aCons (eVar 0) aNil)))) (vE (eFr (fLst (aCons (eC (.int 0)) aNil))))))) (vE (eC (.int 0)))) aNil)))
  (sRetF (fLst (aCons (eIf (tB (e2 pGe (eVar 1) (e2 pPow (eC (.int 10)) (eC (.int 18))))) (e2 pDiv (eVar 1) (eC (.int 83))) (eC (.int 0))) (aCons (e2 pAdd (e2 pMod (eCall bInt (aCons (e2 pAdd (e2 pMulA (eVar 1) (eC (.int 311))) (eC (.int 4597))) aNil)) (eC (.int 2061584333))) (eC (.int 179))) aNil)))))
def F__law_cup : FFL := fnEvF 1 2 m__law_cup
theorem b__law_cup (Z : Zt g mg base) (cdv : Value) (A : Around) (outer : List Env) (s : Shared) (H : Hp) (E : XK) (hcd : ∃ oc od fd osl, g.K.lookup (g.fa 91) = some ⟨oc, od, .func fd, osl⟩ ∧ fd.code = cdv) (ok : Ok g (cD g Pr w mg base ["script", "cell"] "_law_cup" (defScope s__law_cup) (g.fa 91) cdv A outer s H E) (wD E) 0) : SB g (cD g Pr w mg base ["script", "cell"] "_law_cup" (defScope s__law_cup) (g.fa 91) cdv A outer s H E) (wD E) (defBody s__law_cup) m__law_cup := 
  (sb_cons (ss_set (i := 1) ok.nd rfl (loc_by rfl) (se_callB cs_abs rfl Z.fr_abs bt_abs (sa_cons (se_ixS (is_ix ok.K) (sv_e (se_fr (sf_opS of_add (sv_e (se_fr (sf_callTy (cf_list ok.K) rfl Z.fr_list bt_list (sa_cons (se_var (i := 0) rfl (vis_by rfl)) sa_nil)))) (sv_e (se_fr (sf_lst (sa_cons se_int sa_nil))))))) (sv_e se_int) (fun _ _ => rfl)) sa_nil)))
  (sb_one (ss_retF (sf_lst (sa_cons (se_if (st_cmp os_ge (se_var (i := 1) rfl (vis_by rfl)) (se_op os_pow se_int se_int) (by rfl)) (se_op os_div (se_var (i := 1) rfl (vis_by rfl)) se_int) se_int) (sa_cons (se_op (os_add ok.K) (se_op os_mod (se_callTy cs_int rfl Z.fr_int bt_int (sa_cons (se_op (os_add ok.K) (se_op (os_mulA ok.K) (se_var (i := 1) rfl (vis_by rfl)) se_int) se_int) sa_nil)) se_int) se_int) sa_nil))))))
theorem d__law_cup (Z : Zt g mg base) : DefF g Pr w mg base 1 91 1 F__law_cup :=
  defF_of (N := ["script", "cell"]) (ps := ["script"]) Z.fd__law_cup sc__law_cup rfl rfl (fun _ _ _ _ _ _ us hl => match us, hl with | [_], _ => rfl) (b__law_cup Z)
theorem sc__law_odd_sales : FnScope [] [] (defScope s__law_odd_sales) := ⟨rfl, rfl, rfl, by decide +kernel, rfl, by decide +kernel, by decide +kernel⟩
def m__law_odd_sales : BF := (sRet (eFr (fLst (aCons (eC .non) (aCons (eTup aNil) (aCons (eTup (aCons (eTup (aCons (eC (.int 0)) aNil)) aNil)) (aCons (eTup (aCons (eTup (aCons (eC (.int 0)) aNil)) (aCons (eTup (aCons (eTup (aCons (eC (.int 1)) (aCons (eC (.int 2)) aNil))) aNil)) aNil))) (aCons (eTup (aCons (eTup (aCons (eC (.bl true)) aNil)) (aCons (eTup aNil) aNil))) (aCons (eFr (fLst (aCons (eTup (aCons (eC (.int 0)) aNil)) (aCons (eTup aNil) aNil)))) (aCons (eTup (aCons (eTup (aCons (eC (.int 0)) aNil)) (aCons (eFr (fLst (aCons (eTup (aCons (eC (.int 1)) aNil)) aNil))) aNil))) (aCons (eTup (aCons (eTup (aCons (e1 pNeg (eC (.int 1))) aNil)) (aCons (eTup aNil) aNil))) (aCons (eTup (aCons (e2 pMulA (eTup (aCons (eC (.int 0)) aNil)) (eC (.int 17))) (aCons (eTup aNil) aNil))) aNil))))))))))))
def F__law_odd_sales : FF := fnEv 0 0 m__law_odd_sales
theorem b__law_odd_sales (Z : Zt g mg base) (cdv : Value) (A : Around) (outer : List Env) (s : Shared) (H : Hp) (E : XK) (hcd : ∃ oc od fd osl, g.K.lookup (g.fa 95) = some ⟨oc, od, .func fd, osl⟩ ∧ fd.code = cdv) (ok : Ok g (cD g Pr w mg base [] "_law_odd_sales" (defScope s__law_odd_sales) (g.fa 95) cdv A outer s H E) (wD E) 0) : SB g (cD g Pr w mg base [] "_law_odd_sales" (defScope s__law_odd_sales) (g.fa 95) cdv A outer s H E) (wD E) (defBody s__law_odd_sales) m__law_odd_sales := 
  (sb_one (ss_ret (se_fr (sf_lst (sa_cons se_non (sa_cons (se_tup sa_nil) (sa_cons (se_tup (sa_cons (se_tup (sa_cons se_int sa_nil)) sa_nil)) (sa_cons (se_tup (sa_cons (se_tup (sa_cons se_int sa_nil)) (sa_cons (se_tup (sa_cons (se_tup (sa_cons se_int (sa_cons se_int sa_nil))) sa_nil)) sa_nil))) (sa_cons (se_tup (sa_cons (se_tup (sa_cons se_bl sa_nil)) (sa_cons (se_tup sa_nil) sa_nil))) (sa_cons (se_fr (sf_lst (sa_cons (se_tup (sa_cons se_int sa_nil)) (sa_cons (se_tup sa_nil) sa_nil)))) (sa_cons (se_tup (sa_cons (se_tup (sa_cons se_int sa_nil)) (sa_cons (se_fr (sf_lst (sa_cons (se_tup (sa_cons se_int sa_nil)) sa_nil))) sa_nil))) (sa_cons (se_tup (sa_cons (se_tup (sa_cons (se_un us_neg se_int) sa_nil)) (sa_cons (se_tup sa_nil) sa_nil))) (sa_cons (se_tup (sa_cons (se_op (os_mulA ok.K) (se_tup (sa_cons se_int sa_nil)) se_int) (sa_cons (se_tup sa_nil) sa_nil))) sa_nil)))))))))))))
theorem d__law_odd_sales (Z : Zt g mg base) : DefE g Pr w mg base 1 95 0 F__law_odd_sales :=
  defE_of (N := []) (ps := []) Z.fd__law_odd_sales sc__law_odd_sales rfl rfl (fun _ _ _ _ _ _ us hl => match us, hl with | [], _ => rfl) (b__law_odd_sales Z)
theorem sc__law_odd_prices : FnScope ["top"] [] (defScope s__law_odd_prices) := ⟨rfl, rfl, rfl, by decide +kernel, rfl, by decide +kernel, by decide +kernel⟩
def m__law_odd_prices : BF := (sSeq (sSet 0 (e2 pMulA (eC (.int 2)) (e2 pPow (eC (.int 10)) (eC (.int 6)))))
  (sRet (eFr (fLst (aCons (eC .non) (aCons (eTup aNil) (aCons (eTup (aCons (eC (.int 0)) aNil)) (aCons (eTup (aCons (eC (.int 0)) (aCons (eC (.int 1)) (aCons (eC (.int 1)) aNil)))) (aCons (eFr (fLst (aCons (eC (.int 0)) (aCons (eC (.int 1)) aNil)))) (aCons (eTup (aCons (eC (.int 0)) (aCons (eC (.int 0)) aNil))) (aCons (eTup (aCons (e1 pNeg (eC (.int 1))) (aCons (eC (.int 1)) aNil))) (aCons (eTup (aCons (eC (.int 0)) (aCons (e2 pAdd (eVar 0) (eC (.int 1))) aNil))) (aCons (eTup (aCons (eC (.bl true)) (aCons (eC (.int 1)) aNil))) (aCons (eTup (aCons (eC (.int 0)) (aCons (eC .non) aNil))) (aCons (eTup (aCons (eC (.str "0")) (aCons (eC (.int 1)) aNil))) (aCons (eTup (aCons (eC (.int 0)) (aCons (eC (.str "1")) aNil))) aNil))))))))))))))))
def F__law_odd_prices : FF := fnEv 0 1 m__law_odd_prices
theorem b__law_odd_prices (Z : Zt g mg base) (cdv : Value) (A : Around) (outer : List Env) (s : Shared) (H : Hp) (E : XK) (hcd : ∃ oc od fd osl, g.K.lookup (g.fa 96) = some ⟨oc, od, .func fd, osl⟩ ∧ fd.code = cdv) (ok : Ok g (cD g Pr w mg base ["top"] "_law_odd_prices" (defScope s__law_odd_prices) (g.fa 96) cdv A outer s H E) (wD E) 0) : SB g (cD g Pr w mg base ["top"] "_law_odd_prices" (defScope s__law_odd_prices) (g.fa 96) cdv A outer s H E) (wD E) (defBody s__law_odd_prices) m__law_odd_prices := 
  (sb_cons (ss_set (i := 0) ok.nd rfl (loc_by rfl) (se_op (os_mulA ok.K) se_int (se_op os_pow se_int se_int)))
  (sb_one (ss_ret (se_fr (sf_lst (sa_cons se_non (sa_cons (se_tup sa_nil) (sa_cons (se_tup (sa_cons se_int sa_nil)) (sa_cons (se_tup (sa_cons se_int (sa_cons se_int (sa_cons se_int sa_nil)))) (sa_cons (se_fr (sf_lst (sa_cons se_int (sa_cons se_int sa_nil)))) (sa_cons (se_tup (sa_cons se_int (sa_cons se_int sa_nil))) (sa_cons (se_tup (sa_cons (se_un us_neg se_int) (sa_cons se_int sa_nil))) (sa_cons (se_tup (sa_cons se_int (sa_cons (se_op (os_add ok.K) (se_var (i := 0) rfl (vis_by rfl)) se_int) sa_nil))) (sa_cons (se_tup (sa_cons se_bl (sa_cons se_int sa_nil))) (sa_cons (se_tup (sa_cons se_int (sa_cons se_non sa_nil))) (sa_cons (se_tup (sa_cons se_str (sa_cons se_int sa_nil))) (sa_cons (se_tup (sa_cons se_int (sa_cons se_str sa_nil))) sa_nil)))))))))))))))))
theorem d__law_odd_prices (Z : Zt g mg base) : DefE g Pr w mg base 1 96 0 F__law_odd_prices :=
  defE_of (N := ["top"]) (ps := []) Z.fd__law_odd_prices sc__law_odd_prices rfl rfl (fun _ _ _ _ _ _ us hl => match us, hl with | [], _ => rfl) (b__law_odd_prices Z)
theorem sc__law_prices_right : FnScope ["sale", "odd", "top", "words", "call", "names"] ["sale"] (defScope s__law_prices_right) := ⟨rfl, rfl, rfl, by decide +kernel, rfl, by decide +kernel, by decide +kernel⟩
def m__law_prices_right : BF := (sSeq (sFor (aSeq (eFn F__law_odd_prices zNil)) (gN 1) (sSeq (sCell 3 (fComp (aSeq (eTup (aCons (eC (.adr 58)) (aCons (eC (.adr 64)) (aCons (eC (.adr 65)) (aCons (eC (.adr 66)) aNil)))))) (gN 4) tYes (eErr cl_ tell_ (eCV 4 tab_2 (zVal (eVar 0) (zVal (eVar 1) zNil)))) [4]))
  (sSeq (sFor (aSeq (eTup (aCons (eC (.adr 31)) (aCons (eC (.adr 32)) (aCons (eC (.adr 57)) (aCons (eC (.adr 61)) (aCons (eC (.adr 62)) (aCons (eC (.adr 63)) (aCons (eC (.adr 69)) (aCons (eC (.adr 75)) aNil)))))))))) (gN 4) (sApp (vVar 3) (eErr cl_ tell_ (eCV 4 tab_3 (zVal (eVar 0) (zVal (eVar 1) (zVal (eC .non) zNil)))))))
  (sIf (tB (e2s pNe (vE (eFr (f2s lAdd (vVar 3) (vE (eFr (fLst (aCons (eErr cl_ tell_ (eFn F_takes_chains (zVal (eVar 0) (zVal (eVar 1) (zVal (eC .non) (zVal (eC .non) zNil)))))) aNil))))))) (vE (eFr (f2s lMul (vE (eFr (fLst (aCons (eC (.str "prices")) aNil)))) (vE (eC (.int 13)))))))) (sRet (eC (.bl false))) sNil))))
  (sSeq (sSet 2 (e2 pMulA (eC (.int 2)) (e2 pPow (eC (.int 10)) (eC (.int 6)))))
  (sSeq (sCell 3 (fComp (aSeq (eTup (aCons (eTup (aCons (eC (.int 1)) aNil)) (aCons (eTup (aCons (eC (.int 0)) aNil)) aNil)))) (gN 5) tYes (eErr cl_ tell_ (eFn F_raised (zVal (eVar 0) (zVal (eTup (aCons (eC (.int 0)) (aCons (eVar 2) aNil))) (zVal (eVar 5) zNil))))) [5]))
  (sRet (e2s pEq (vE (eFr (f2s lAdd (vVar 3) (vE (eFr (fLst (aCons (eErr cl_ tell_ (eFn F_is_competitive (zVal (eVar 0) (zVal (eTup (aCons (eVar 2) (aCons (eVar 2) aNil))) zNil)))) aNil))))))) (vE (eFr (fLst (aCons (eC (.str "prices")) (aCons (eC (.str "none")) (aCons (eC (.str "none")) aNil)))))))))))
def F__law_prices_right : FF := fnEv 1 6 m__law_prices_right
theorem b__law_prices_right (Z : Zt g mg base) (cdv : Value) (A : Around) (outer : List Env) (s : Shared) (H : Hp) (E : XK) (hcd : ∃ oc od fd osl, g.K.lookup (g.fa 99) = some ⟨oc, od, .func fd, osl⟩ ∧ fd.code = cdv) (ok : Ok g (cD g Pr w mg base ["sale", "odd", "top", "words", "call", "names"] "_law_prices_right" (defScope s__law_prices_right) (g.fa 99) cdv A outer s H E) (wD E) 22) : SB g (cD g Pr w mg base ["sale", "odd", "top", "words", "call", "names"] "_law_prices_right" (defScope s__law_prices_right) (g.fa 99) cdv A outer s H E) (wD E) (defBody s__law_prices_right) m__law_prices_right := by
  obtain ⟨_, fdE⟩ := Z.fd__law_error
  have la := LamFact.at Z.la__law_prices_right hcd
  exact 
  (sb_cons (ss_for (passes_of rfl) ok.calm (si_seq ok.K (se_fn0 ok (d__law_odd_prices Z) (by decide) rfl Z.gl__law_odd_prices)) (sg_name (i := 1) ok.nd rfl (loc_by rfl)) (sb_cons (ss_cellLc (i := 3) (is := [4]) (own := [("call", 4)]) ok rfl rfl (sw_true rfl rfl (by rfl) (by rfl)) (si_seq ok.K (se_tup (sa_cons (se_def (n := 58) rfl Z.gl_is_competitive) (sa_cons (se_def (n := 64) rfl Z.gl_overdemanded) (sa_cons (se_def (n := 65) rfl Z.gl_underdemanded) (sa_cons (se_def (n := 66) rfl Z.gl_loose) sa_nil)))))) (blkOk_by (by rfl)) (by decide) (hg_name (B := Blk _ _) (j := 4) (fun _ _ _ _ _ => ok.nd) (fun _ _ _ _ _ => rfl) (fun _ _ _ _ _ => loc_by rfl) (fun _ _ _ _ _ => .inl rfl)) (fun _ _ _ _ _ ok1 => sts_nil) (fun _ _ _ _ _ ok1 => (se_lamErr (kb := 20) ok1 (by decide) fdE sc__law_error bndE rfl Z.gl__law_error (vis_by rfl) rfl (fun cdv => gE Z rfl rfl cdv _) la (lamS_by (by rfl)) (by rfl) (by intros; rfl) (fun _ _ _ _ _ _ _ okL => (se_cv (i := 4) okL (fun n F h => tabD_2 Z n F h) rfl (vis_by rfl) (sz_val (se_var (i := 0) rfl (vis_by rfl)) (sz_val (se_var (i := 1) rfl (vis_by rfl)) sz_nil)) (zl_val (zl_val zl_nil)))))))
  (sb_cons (ss_for (passes_of rfl) ok.calm (si_seq ok.K (se_tup (sa_cons (se_def (n := 31) rfl Z.gl_gain_of) (sa_cons (se_def (n := 32) rfl Z.gl_demand_of) (sa_cons (se_def (n := 57) rfl Z.gl_goes_with) (sa_cons (se_def (n := 61) rfl Z.gl_is_overdemanded) (sa_cons (se_def (n := 62) rfl Z.gl_is_underdemanded) (sa_cons (se_def (n := 63) rfl Z.gl_is_loose) (sa_cons (se_def (n := 69) rfl Z.gl_raised) (sa_cons (se_def (n := 75) rfl Z.gl_chain_paper) sa_nil)))))))))) (sg_name (i := 4) ok.nd rfl (loc_by rfl)) (sb_one (ss_app (sv_var (i := 3) rfl (vis_by rfl)) (se_lamErr (kb := 20) ok (by decide) fdE sc__law_error bndE rfl Z.gl__law_error (vis_by rfl) rfl (fun cdv => gE Z rfl rfl cdv _) la (lamS_by (by rfl)) (by rfl) (by intros; rfl) (fun _ _ _ _ _ _ _ okL => (se_cv (i := 4) okL (fun n F h => tabD_3 Z n F h) rfl (vis_by rfl) (sz_val (se_var (i := 0) rfl (vis_by rfl)) (sz_val (se_var (i := 1) rfl (vis_by rfl)) (sz_val se_non sz_nil))) (zl_val (zl_val (zl_val zl_nil)))))))))
  (sb_one (ss_if (st_cmpS (os_ne ok) (sv_e (se_fr (sf_opS of_add (sv_var (i := 3) rfl (vis_by rfl)) (sv_e (se_fr (sf_lst (sa_cons (se_lamErr (kb := 20) ok (by decide) fdE sc__law_error bndE rfl Z.gl__law_error (vis_by rfl) rfl (fun cdv => gE Z rfl rfl cdv _) la (lamS_by (by rfl)) (by rfl) (by intros; rfl) (fun _ _ _ _ _ _ _ okL => (se_fnD okL (d_takes_chains Z) (by decide) rfl Z.gl_takes_chains (sz_val (se_var (i := 0) rfl (vis_by rfl)) (sz_val (se_var (i := 1) rfl (vis_by rfl)) (sz_val se_non (sz_val se_non sz_nil)))) (zl_val (zl_val (zl_val (zl_val zl_nil))))))) sa_nil))))))) (sv_e (se_fr (sf_opS of_mul (sv_e (se_fr (sf_lst (sa_cons se_str sa_nil)))) (sv_e se_int)))) (by rfl)) (sb_one (ss_ret se_bl)) sb_nil)))))
  (sb_cons (ss_set (i := 2) ok.nd rfl (loc_by rfl) (se_op (os_mulA ok.K) se_int (se_op os_pow se_int se_int)))
  (sb_cons (ss_cellLc (i := 3) (is := [5]) (own := [("names", 5)]) ok rfl rfl (sw_true rfl rfl (by rfl) (by rfl)) (si_seq ok.K (se_tup (sa_cons (se_tup (sa_cons se_int sa_nil)) (sa_cons (se_tup (sa_cons se_int sa_nil)) sa_nil)))) (blkOk_by (by rfl)) (by decide) (hg_name (B := Blk _ _) (j := 5) (fun _ _ _ _ _ => ok.nd) (fun _ _ _ _ _ => rfl) (fun _ _ _ _ _ => loc_by rfl) (fun _ _ _ _ _ => .inl rfl)) (fun _ _ _ _ _ ok1 => sts_nil) (fun _ _ _ _ _ ok1 => (se_lamErr (kb := 20) ok1 (by decide) fdE sc__law_error bndE rfl Z.gl__law_error (vis_by rfl) rfl (fun cdv => gE Z rfl rfl cdv _) la (lamS_by (by rfl)) (by rfl) (by intros; rfl) (fun _ _ _ _ _ _ _ okL => (se_fnD okL (d_raised Z) (by decide) rfl Z.gl_raised (sz_val (se_var (i := 0) rfl (vis_by rfl)) (sz_val (se_tup (sa_cons se_int (sa_cons (se_var (i := 2) rfl (vis_by rfl)) sa_nil))) (sz_val (se_var (i := 5) rfl (vis_by rfl)) sz_nil))) (zl_val (zl_val (zl_val zl_nil))))))))
  (sb_one (ss_ret (se_cmpS (os_eq ok) (sv_e (se_fr (sf_opS of_add (sv_var (i := 3) rfl (vis_by rfl)) (sv_e (se_fr (sf_lst (sa_cons (se_lamErr (kb := 20) ok (by decide) fdE sc__law_error bndE rfl Z.gl__law_error (vis_by rfl) rfl (fun cdv => gE Z rfl rfl cdv _) la (lamS_by (by rfl)) (by rfl) (by intros; rfl) (fun _ _ _ _ _ _ _ okL => (se_fnD okL (d_is_competitive Z) (by decide) rfl Z.gl_is_competitive (sz_val (se_var (i := 0) rfl (vis_by rfl)) (sz_val (se_tup (sa_cons (se_var (i := 2) rfl (vis_by rfl)) (sa_cons (se_var (i := 2) rfl (vis_by rfl)) sa_nil))) sz_nil)) (zl_val (zl_val zl_nil))))) sa_nil))))))) (sv_e (se_fr (sf_lst (sa_cons se_str (sa_cons se_str (sa_cons se_str sa_nil)))))) (by rfl)))))))
theorem d__law_prices_right (Z : Zt g mg base) : DefE g Pr w mg base 23 99 1 F__law_prices_right :=
  defE_of (N := ["sale", "odd", "top", "words", "call", "names"]) (ps := ["sale"]) Z.fd__law_prices_right sc__law_prices_right rfl rfl (fun _ _ _ _ _ _ us hl => match us, hl with | [_], _ => rfl) (b__law_prices_right Z)
theorem sc__law_rows_right : FnScope ["sale", "top", "odd", "words", "numbers", "call"] ["sale"] (defScope s__law_rows_right) := ⟨rfl, rfl, rfl, by decide +kernel, rfl, by decide +kernel, by decide +kernel⟩
def m__law_rows_right : BF := (sSeq (sSet 1 (e2 pPow (eC (.int 10)) (eC (.int 6))))
  (sSeq (sFor (aSeq (eTup (aCons (eC .non) (aCons (eTup aNil) (aCons (eTup (aCons (eC (.int 0)) aNil)) (aCons (eTup (aCons (eC (.int 0)) (aCons (eC (.int 0)) (aCons (eC (.int 0)) aNil)))) (aCons (eFr (fLst (aCons (eC (.int 0)) (aCons (eC (.int 0)) aNil)))) (aCons (eTup (aCons (eC (.int 0)) (aCons (e2 pAdd (eVar 1) (eC (.int 1))) aNil))) (aCons (eTup (aCons (e1 pNeg (eC (.int 1))) (aCons (eC (.int 0)) aNil))) (aCons (eTup (aCons (eC (.bl true)) (aCons (eC (.int 0)) aNil))) (aCons (eTup (aCons (eC (.int 0)) (aCons (eC .non) aNil))) aNil))))))))))) (gN 2) (sSeq (sSet 4 (eIf (tB (e2 pEq (eVar 2) (eTup (aCons (eC (.int 0)) (aCons (eC (.int 0)) (aCons (eC (.int 0)) aNil)))))) (eTup (aCons (eC (.int 0)) (aCons (eC (.int 0)) (aCons (eC (.int 0)) (aCons (eC (.int 0)) aNil))))) (eVar 2)))
  (sSeq (sCell 3 (fComp (aSeq (eTup (aCons (eC (.adr 82)) (aCons (eC (.adr 86)) aNil)))) (gN 5) tYes (eErr cl_ tell_ (eCV 5 tab_2 (zVal (eVar 0) (zVal (eVar 2) zNil)))) [5]))
  (sSeq (sCell 3 (f2s lAdd (vVar 3) (vE (eFr (fComp (aSeq (eTup (aCons (eC (.adr 83)) (aCons (eC (.adr 87)) aNil)))) (gN 5) tYes (eErr cl_ tell_ (eCV 5 tab_3 (zVal (eVar 0) (zVal (eC (.int 0)) (zVal (eVar 4) zNil))))) [5])))))
  (sIf (tB (e2s pNe (vE (eFr (f2s lAdd (vVar 3) (vE (eFr (fLst (aCons (eErr cl_ tell_ (eFn F_options_by (zVal (eVar 0) (zVal (eC (.int 0)) (zVal (eVar 2) zNil))))) aNil))))))) (vE (eFr (f2s lMul (vE (eFr (fLst (aCons (eC (.str "bids")) aNil)))) (vE (eC (.int 5)))))))) (sRet (eC (.bl false))) sNil)))))
  (sSeq (sFor (aSeq (eTup (aCons (eC .non) (aCons (eTup aNil) (aCons (eTup (aCons (eC (.int 0)) (aCons (eC (.int 1)) aNil))) (aCons (eTup (aCons (eC (.int 0)) (aCons (eC (.int 1)) (aCons (eC (.int 1)) aNil)))) (aCons (eTup (aCons (eC (.int 0)) (aCons (eC (.int 1)) (aCons (eC (.int 3)) aNil)))) (aCons (eFr (fLst (aCons (eC (.int 0)) (aCons (eC (.int 1)) (aCons (eC (.int 2)) aNil))))) (aCons (eTup (aCons (eC (.int 0)) (aCons (eC (.bl true)) (aCons (eC (.int 2)) aNil)))) (aCons (eTup (aCons (eC (.int 0)) (aCons (eC (.int 1)) (aCons (eC (.int 2)) (aCons (eC (.int 2)) aNil))))) (aCons (eTup (aCons (eC (.int 0)) (aCons (eC (.int 1)) (aCons (eC (.str "2")) aNil)))) (aCons (eC (.int 0)) aNil)))))))))))) (gN 2) (sIf (tB (e2 pNe (eErr cl_ tell_ (eFn F_told_allotment (zVal (eVar 0) (zVal (eVar 2) zNil)))) (eC (.str "lots")))) (sRet (eC (.bl false))) sNil))
  (sSeq (sFor (aSeq (eTup (aCons (eC .non) (aCons (e1 pNeg (eC (.int 1))) (aCons (eC (.int 2)) (aCons (eC (.bl true)) (aCons (eC (.str "0")) aNil))))))) (gN 2) (sIf (tB (e2 pNe (eErr cl_ tell_ (eFn F_without_name (zVal (eVar 0) (zVal (eVar 2) zNil)))) (eC (.str "number")))) (sRet (eC (.bl false))) sNil))
  (sSeq (sFor (aSeq (eTup (aCons (eC .non) (aCons (e1 pNeg (eC (.int 1))) (aCons (e2 pAdd (eVar 1) (eC (.int 1))) (aCons (eC (.bl true)) (aCons (eC (.str "0")) aNil))))))) (gN 2) (sIf (tB (e2s pNe (vE (eFr (fComp (aSeq (eTup (aCons (eC (.adr 83)) (aCons (eC (.adr 87)) aNil)))) (gN 5) tYes (eErr cl_ tell_ (eCV 5 tab_3 (zVal (eVar 0) (zVal (eVar 2) (zVal (eC .non) zNil))))) [5]))) (vE (eFr (f2s lMul (vE (eFr (fLst (aCons (eC (.str "number")) aNil)))) (vE (eC (.int 2)))))))) (sRet (eC (.bl false))) sNil))
  (sSeq (sCell 3 (fLst (aCons (eErr cl_ tell_ (eFn F_with_name (zVal (eVar 0) (zVal (eVar 1) (zVal (eTup (aCons (eVar 1) (aCons (eC (.int 0)) (aCons (eC (.int 0)) aNil)))) zNil))))) aNil)))
  (sSeq (sApp (vVar 3) (eErr cl_ tell_ (eFn F_chain_paper (zVal (eVar 0) (zVal (eTup (aCons (eC (.int 3)) (aCons (eC (.int 1)) aNil))) (zVal (eTup aNil) zNil))))))
  (sSeq (sApp (vVar 3) (eErr cl_ tell_ (eFn F_takes_chains (zVal (eVar 0) (zVal (eTup (aCons (eC (.int 2)) (aCons (eC (.int 1)) aNil))) (zVal (eTup (aCons (eTup (aCons (eC (.int 0)) (aCons (eC (.int 1)) aNil))) (aCons (eTup (aCons (eC (.int 1)) (aCons (eC (.int 0)) aNil))) aNil))) (zVal (eC .non) zNil)))))))
  (sSeq (sCell 3 (f2s lAdd (vVar 3) (vE (eFr (fComp (aSeq (eTup (aCons (eC (.adr 84)) (aCons (eC (.adr 85)) aNil)))) (gN 5) tYes (eErr cl_ tell_ (eCV 5 tab_2 (zVal (eTup (aCons (eTup aNil) (aCons (eTup aNil) aNil))) (zVal (eC (.int 0)) zNil)))) [5])))))
  (sSeq (sApp (vVar 3) (eErr cl_ tell_ (eFn F_chain_paper (zVal (eTup (aCons (eTup (aCons (eC (.int 0)) aNil)) (aCons (eTup (aCons (eTup (aCons (eC (.int 5)) aNil)) aNil)) aNil))) (zVal (eTup (aCons (eC (.int 5)) aNil)) (zVal (eTup aNil) zNil))))))
  (sSeq (sApp (vVar 3) (eErr cl_ tell_ (eFn F_takes_chains (zVal (eTup (aCons (eTup (aCons (eC (.int 0)) aNil)) (aCons (eTup (aCons (eTup (aCons (eC (.int 5)) aNil)) aNil)) aNil))) (zVal (eTup (aCons (eC (.int 5)) aNil)) (zVal (eTup aNil) (zVal (eC .non) zNil)))))))
  (sRet (e2s pEq (vVar 3) (vE (eFr (fLst (aCons (eC (.str "none")) (aCons (eC (.str "possible")) (aCons (eC (.str "possible")) (aCons (eC (.str "bidder")) (aCons (eC (.str "number")) (aCons (eC (.str "possible")) (aCons (eC (.str "possible")) aNil)))))))))))))))))))))))
def F__law_rows_right : FF := fnEv 1 6 m__law_rows_right
theorem b__law_rows_right (Z : Zt g mg base) (cdv : Value) (A : Around) (outer : List Env) (s : Shared) (H : Hp) (E : XK) (hcd : ∃ oc od fd osl, g.K.lookup (g.fa 101) = some ⟨oc, od, .func fd, osl⟩ ∧ fd.code = cdv) (ok : Ok g (cD g Pr w mg base ["sale", "top", "odd", "words", "numbers", "call"] "_law_rows_right" (defScope s__law_rows_right) (g.fa 101) cdv A outer s H E) (wD E) 22) : SB g (cD g Pr w mg base ["sale", "top", "odd", "words", "numbers", "call"] "_law_rows_right" (defScope s__law_rows_right) (g.fa 101) cdv A outer s H E) (wD E) (defBody s__law_rows_right) m__law_rows_right := by
  obtain ⟨_, fdE⟩ := Z.fd__law_error
  have la := LamFact.at Z.la__law_rows_right hcd
  exact 
  (sb_cons (ss_set (i := 1) ok.nd rfl (loc_by rfl) (se_op os_pow se_int se_int))
  (sb_cons (ss_for (passes_of rfl) ok.calm (si_seq ok.K (se_tup (sa_cons se_non (sa_cons (se_tup sa_nil) (sa_cons (se_tup (sa_cons se_int sa_nil)) (sa_cons (se_tup (sa_cons se_int (sa_cons se_int (sa_cons se_int sa_nil)))) (sa_cons (se_fr (sf_lst (sa_cons se_int (sa_cons se_int sa_nil)))) (sa_cons (se_tup (sa_cons se_int (sa_cons (se_op (os_add ok.K) (se_var (i := 1) rfl (vis_by rfl)) se_int) sa_nil))) (sa_cons (se_tup (sa_cons (se_un us_neg se_int) (sa_cons se_int sa_nil))) (sa_cons (se_tup (sa_cons se_bl (sa_cons se_int sa_nil))) (sa_cons (se_tup (sa_cons se_int (sa_cons se_non sa_nil))) sa_nil))))))))))) (sg_name (i := 2) ok.nd rfl (loc_by rfl)) (sb_cons (ss_set (i := 4) ok.nd rfl (loc_by rfl) (se_if (st_cmp (os_eq ok) (se_var (i := 2) rfl (vis_by rfl)) (se_tup (sa_cons se_int (sa_cons se_int (sa_cons se_int sa_nil)))) (by rfl)) (se_tup (sa_cons se_int (sa_cons se_int (sa_cons se_int (sa_cons se_int sa_nil))))) (se_var (i := 2) rfl (vis_by rfl))))
  (sb_cons (ss_cellLc (i := 3) (is := [5]) (own := [("call", 5)]) ok rfl rfl (sw_true rfl rfl (by rfl) (by rfl)) (si_seq ok.K (se_tup (sa_cons (se_def (n := 82) rfl Z.gl_with_bidder) (sa_cons (se_def (n := 86) rfl Z.gl_risen) sa_nil)))) (blkOk_by (by rfl)) (by decide) (hg_name (B := Blk _ _) (j := 5) (fun _ _ _ _ _ => ok.nd) (fun _ _ _ _ _ => rfl) (fun _ _ _ _ _ => loc_by rfl) (fun _ _ _ _ _ => .inl rfl)) (fun _ _ _ _ _ ok1 => sts_nil) (fun _ _ _ _ _ ok1 => (se_lamErr (kb := 20) ok1 (by decide) fdE sc__law_error bndE rfl Z.gl__law_error (vis_by rfl) rfl (fun cdv => gE Z rfl rfl cdv _) la (lamS_by (by rfl)) (by rfl) (by intros; rfl) (fun _ _ _ _ _ _ _ okL => (se_cv (i := 5) okL (fun n F h => tabD_2 Z n F h) rfl (vis_by rfl) (sz_val (se_var (i := 0) rfl (vis_by rfl)) (sz_val (se_var (i := 2) rfl (vis_by rfl)) sz_nil)) (zl_val (zl_val zl_nil)))))))
  (sb_cons (ss_cell (i := 3) ok.nd rfl (loc_by rfl) (sf_opS of_add (sv_var (i := 3) rfl (vis_by rfl)) (sv_e (se_fr (sf_comp (is := [5]) (own := [("call", 5)]) ok (si_seq ok.K (se_tup (sa_cons (se_def (n := 83) rfl Z.gl_with_name) (sa_cons (se_def (n := 87) rfl Z.gl_fallen) sa_nil)))) (blkOk_by (by rfl)) (by decide) (hg_name (B := Blk _ _) (j := 5) (fun _ _ _ _ _ => ok.nd) (fun _ _ _ _ _ => rfl) (fun _ _ _ _ _ => loc_by rfl) (fun _ _ _ _ _ => .inl rfl)) (fun _ _ _ _ _ ok1 => sts_nil) (fun _ _ _ _ _ ok1 => (se_lamErr (kb := 20) ok1 (by decide) fdE sc__law_error bndE rfl Z.gl__law_error (vis_by rfl) rfl (fun cdv => gE Z rfl rfl cdv _) la (lamS_by (by rfl)) (by rfl) (by intros; rfl) (fun _ _ _ _ _ _ _ okL => (se_cv (i := 5) okL (fun n F h => tabD_3 Z n F h) rfl (vis_by rfl) (sz_val (se_var (i := 0) rfl (vis_by rfl)) (sz_val se_int (sz_val (se_var (i := 4) rfl (vis_by rfl)) sz_nil))) (zl_val (zl_val (zl_val zl_nil))))))))))))
  (sb_one (ss_if (st_cmpS (os_ne ok) (sv_e (se_fr (sf_opS of_add (sv_var (i := 3) rfl (vis_by rfl)) (sv_e (se_fr (sf_lst (sa_cons (se_lamErr (kb := 20) ok (by decide) fdE sc__law_error bndE rfl Z.gl__law_error (vis_by rfl) rfl (fun cdv => gE Z rfl rfl cdv _) la (lamS_by (by rfl)) (by rfl) (by intros; rfl) (fun _ _ _ _ _ _ _ okL => (se_fnD okL (d_options_by Z) (by decide) rfl Z.gl_options_by (sz_val (se_var (i := 0) rfl (vis_by rfl)) (sz_val se_int (sz_val (se_var (i := 2) rfl (vis_by rfl)) sz_nil))) (zl_val (zl_val (zl_val zl_nil)))))) sa_nil))))))) (sv_e (se_fr (sf_opS of_mul (sv_e (se_fr (sf_lst (sa_cons se_str sa_nil)))) (sv_e se_int)))) (by rfl)) (sb_one (ss_ret se_bl)) sb_nil))))))
  (sb_cons (ss_for (passes_of rfl) ok.calm (si_seq ok.K (se_tup (sa_cons se_non (sa_cons (se_tup sa_nil) (sa_cons (se_tup (sa_cons se_int (sa_cons se_int sa_nil))) (sa_cons (se_tup (sa_cons se_int (sa_cons se_int (sa_cons se_int sa_nil)))) (sa_cons (se_tup (sa_cons se_int (sa_cons se_int (sa_cons se_int sa_nil)))) (sa_cons (se_fr (sf_lst (sa_cons se_int (sa_cons se_int (sa_cons se_int sa_nil))))) (sa_cons (se_tup (sa_cons se_int (sa_cons se_bl (sa_cons se_int sa_nil)))) (sa_cons (se_tup (sa_cons se_int (sa_cons se_int (sa_cons se_int (sa_cons se_int sa_nil))))) (sa_cons (se_tup (sa_cons se_int (sa_cons se_int (sa_cons se_str sa_nil)))) (sa_cons se_int sa_nil)))))))))))) (sg_name (i := 2) ok.nd rfl (loc_by rfl)) (sb_one (ss_if (st_cmp (os_ne ok) (se_lamErr (kb := 20) ok (by decide) fdE sc__law_error bndE rfl Z.gl__law_error (vis_by rfl) rfl (fun cdv => gE Z rfl rfl cdv _) la (lamS_by (by rfl)) (by rfl) (by intros; rfl) (fun _ _ _ _ _ _ _ okL => (se_fnD okL (d_told_allotment Z) (by decide) rfl Z.gl_told_allotment (sz_val (se_var (i := 0) rfl (vis_by rfl)) (sz_val (se_var (i := 2) rfl (vis_by rfl)) sz_nil)) (zl_val (zl_val zl_nil))))) se_str (by rfl)) (sb_one (ss_ret se_bl)) sb_nil)))
  (sb_cons (ss_for (passes_of rfl) ok.calm (si_seq ok.K (se_tup (sa_cons se_non (sa_cons (se_un us_neg se_int) (sa_cons se_int (sa_cons se_bl (sa_cons se_str sa_nil))))))) (sg_name (i := 2) ok.nd rfl (loc_by rfl)) (sb_one (ss_if (st_cmp (os_ne ok) (se_lamErr (kb := 20) ok (by decide) fdE sc__law_error bndE rfl Z.gl__law_error (vis_by rfl) rfl (fun cdv => gE Z rfl rfl cdv _) la (lamS_by (by rfl)) (by rfl) (by intros; rfl) (fun _ _ _ _ _ _ _ okL => (se_fnD okL (d_without_name Z) (by decide) rfl Z.gl_without_name (sz_val (se_var (i := 0) rfl (vis_by rfl)) (sz_val (se_var (i := 2) rfl (vis_by rfl)) sz_nil)) (zl_val (zl_val zl_nil))))) se_str (by rfl)) (sb_one (ss_ret se_bl)) sb_nil)))
  (sb_cons (ss_for (passes_of rfl) ok.calm (si_seq ok.K (se_tup (sa_cons se_non (sa_cons (se_un us_neg se_int) (sa_cons (se_op (os_add ok.K) (se_var (i := 1) rfl (vis_by rfl)) se_int) (sa_cons se_bl (sa_cons se_str sa_nil))))))) (sg_name (i := 2) ok.nd rfl (loc_by rfl)) (sb_one (ss_if (st_cmpS (os_ne ok) (sv_e (se_fr (sf_comp (is := [5]) (own := [("call", 5)]) ok (si_seq ok.K (se_tup (sa_cons (se_def (n := 83) rfl Z.gl_with_name) (sa_cons (se_def (n := 87) rfl Z.gl_fallen) sa_nil)))) (blkOk_by (by rfl)) (by decide) (hg_name (B := Blk _ _) (j := 5) (fun _ _ _ _ _ => ok.nd) (fun _ _ _ _ _ => rfl) (fun _ _ _ _ _ => loc_by rfl) (fun _ _ _ _ _ => .inl rfl)) (fun _ _ _ _ _ ok1 => sts_nil) (fun _ _ _ _ _ ok1 => (se_lamErr (kb := 20) ok1 (by decide) fdE sc__law_error bndE rfl Z.gl__law_error (vis_by rfl) rfl (fun cdv => gE Z rfl rfl cdv _) la (lamS_by (by rfl)) (by rfl) (by intros; rfl) (fun _ _ _ _ _ _ _ okL => (se_cv (i := 5) okL (fun n F h => tabD_3 Z n F h) rfl (vis_by rfl) (sz_val (se_var (i := 0) rfl (vis_by rfl)) (sz_val (se_var (i := 2) rfl (vis_by rfl)) (sz_val se_non sz_nil))) (zl_val (zl_val (zl_val zl_nil)))))))))) (sv_e (se_fr (sf_opS of_mul (sv_e (se_fr (sf_lst (sa_cons se_str sa_nil)))) (sv_e se_int)))) (by rfl)) (sb_one (ss_ret se_bl)) sb_nil)))
  (sb_cons (ss_cell (i := 3) ok.nd rfl (loc_by rfl) (sf_lst (sa_cons (se_lamErr (kb := 20) ok (by decide) fdE sc__law_error bndE rfl Z.gl__law_error (vis_by rfl) rfl (fun cdv => gE Z rfl rfl cdv _) la (lamS_by (by rfl)) (by rfl) (by intros; rfl) (fun _ _ _ _ _ _ _ okL => (se_fnD okL (d_with_name Z) (by decide) rfl Z.gl_with_name (sz_val (se_var (i := 0) rfl (vis_by rfl)) (sz_val (se_var (i := 1) rfl (vis_by rfl)) (sz_val (se_tup (sa_cons (se_var (i := 1) rfl (vis_by rfl)) (sa_cons se_int (sa_cons se_int sa_nil)))) sz_nil))) (zl_val (zl_val (zl_val zl_nil)))))) sa_nil)))
  (sb_cons (ss_app (sv_var (i := 3) rfl (vis_by rfl)) (se_lamErr (kb := 20) ok (by decide) fdE sc__law_error bndE rfl Z.gl__law_error (vis_by rfl) rfl (fun cdv => gE Z rfl rfl cdv _) la (lamS_by (by rfl)) (by rfl) (by intros; rfl) (fun _ _ _ _ _ _ _ okL => (se_fnD okL (d_chain_paper Z) (by decide) rfl Z.gl_chain_paper (sz_val (se_var (i := 0) rfl (vis_by rfl)) (sz_val (se_tup (sa_cons se_int (sa_cons se_int sa_nil))) (sz_val (se_tup sa_nil) sz_nil))) (zl_val (zl_val (zl_val zl_nil)))))))
  (sb_cons (ss_app (sv_var (i := 3) rfl (vis_by rfl)) (se_lamErr (kb := 20) ok (by decide) fdE sc__law_error bndE rfl Z.gl__law_error (vis_by rfl) rfl (fun cdv => gE Z rfl rfl cdv _) la (lamS_by (by rfl)) (by rfl) (by intros; rfl) (fun _ _ _ _ _ _ _ okL => (se_fnD okL (d_takes_chains Z) (by decide) rfl Z.gl_takes_chains (sz_val (se_var (i := 0) rfl (vis_by rfl)) (sz_val (se_tup (sa_cons se_int (sa_cons se_int sa_nil))) (sz_val (se_tup (sa_cons (se_tup (sa_cons se_int (sa_cons se_int sa_nil))) (sa_cons (se_tup (sa_cons se_int (sa_cons se_int sa_nil))) sa_nil))) (sz_val se_non sz_nil)))) (zl_val (zl_val (zl_val (zl_val zl_nil))))))))
  (sb_cons (ss_cell (i := 3) ok.nd rfl (loc_by rfl) (sf_opS of_add (sv_var (i := 3) rfl (vis_by rfl)) (sv_e (se_fr (sf_comp (is := [5]) (own := [("call", 5)]) ok (si_seq ok.K (se_tup (sa_cons (se_def (n := 84) rfl Z.gl_without_bidder) (sa_cons (se_def (n := 85) rfl Z.gl_without_name) sa_nil)))) (blkOk_by (by rfl)) (by decide) (hg_name (B := Blk _ _) (j := 5) (fun _ _ _ _ _ => ok.nd) (fun _ _ _ _ _ => rfl) (fun _ _ _ _ _ => loc_by rfl) (fun _ _ _ _ _ => .inl rfl)) (fun _ _ _ _ _ ok1 => sts_nil) (fun _ _ _ _ _ ok1 => (se_lamErr (kb := 20) ok1 (by decide) fdE sc__law_error bndE rfl Z.gl__law_error (vis_by rfl) rfl (fun cdv => gE Z rfl rfl cdv _) la (lamS_by (by rfl)) (by rfl) (by intros; rfl) (fun _ _ _ _ _ _ _ okL => (se_cv (i := 5) okL (fun n F h => tabD_2 Z n F h) rfl (vis_by rfl) (sz_val (se_tup (sa_cons (se_tup sa_nil) (sa_cons (se_tup sa_nil) sa_nil))) (sz_val se_int sz_nil)) (zl_val (zl_val zl_nil)))))))))))
  (sb_cons (ss_app (sv_var (i := 3) rfl (vis_by rfl)) (se_lamErr (kb := 20) ok (by decide) fdE sc__law_error bndE rfl Z.gl__law_error (vis_by rfl) rfl (fun cdv => gE Z rfl rfl cdv _) la (lamS_by (by rfl)) (by rfl) (by intros; rfl) (fun _ _ _ _ _ _ _ okL => (se_fnD okL (d_chain_paper Z) (by decide) rfl Z.gl_chain_paper (sz_val (se_tup (sa_cons (se_tup (sa_cons se_int sa_nil)) (sa_cons (se_tup (sa_cons (se_tup (sa_cons se_int sa_nil)) sa_nil)) sa_nil))) (sz_val (se_tup (sa_cons se_int sa_nil)) (sz_val (se_tup sa_nil) sz_nil))) (zl_val (zl_val (zl_val zl_nil)))))))
  (sb_cons (ss_app (sv_var (i := 3) rfl (vis_by rfl)) (se_lamErr (kb := 20) ok (by decide) fdE sc__law_error bndE rfl Z.gl__law_error (vis_by rfl) rfl (fun cdv => gE Z rfl rfl cdv _) la (lamS_by (by rfl)) (by rfl) (by intros; rfl) (fun _ _ _ _ _ _ _ okL => (se_fnD okL (d_takes_chains Z) (by decide) rfl Z.gl_takes_chains (sz_val (se_tup (sa_cons (se_tup (sa_cons se_int sa_nil)) (sa_cons (se_tup (sa_cons (se_tup (sa_cons se_int sa_nil)) sa_nil)) sa_nil))) (sz_val (se_tup (sa_cons se_int sa_nil)) (sz_val (se_tup sa_nil) (sz_val se_non sz_nil)))) (zl_val (zl_val (zl_val (zl_val zl_nil))))))))
  (sb_one (ss_ret (se_cmpS (os_eq ok) (sv_var (i := 3) rfl (vis_by rfl)) (sv_e (se_fr (sf_lst (sa_cons se_str (sa_cons se_str (sa_cons se_str (sa_cons se_str (sa_cons se_str (sa_cons se_str (sa_cons se_str sa_nil)))))))))) (by rfl)))))))))))))))
theorem d__law_rows_right (Z : Zt g mg base) : DefE g Pr w mg base 23 101 1 F__law_rows_right :=
  defE_of (N := ["sale", "top", "odd", "words", "numbers", "call"]) (ps := ["sale"]) Z.fd__law_rows_right sc__law_rows_right rfl rfl (fun _ _ _ _ _ _ us hl => match us, hl with | [_], _ => rfl) (b__law_rows_right Z)
theorem sc_greatest_worth : FnScope ["sale"] ["sale"] (defScope s_greatest_worth) := ⟨rfl, rfl, rfl, by decide +kernel, rfl, by decide +kernel, by decide +kernel⟩
def m_greatest_worth : BF := (sSeq (sExpr (eFn F_need_sale (zVal (eVar 0) zNil)))
  sStuck)
def F_greatest_worth : FF := fnEv 1 1 m_greatest_worth
theorem b_greatest_worth (Z : Zt g mg base) (cdv : Value) (A : Around) (outer : List Env) (s : Shared) (H : Hp) (E : XK) (hcd : ∃ oc od fd osl, g.K.lookup (g.fa 34) = some ⟨oc, od, .func fd, osl⟩ ∧ fd.code = cdv) (ok : Ok g (cD g Pr w mg base ["sale"] "greatest_worth" (defScope s_greatest_worth) (g.fa 34) cdv A outer s H E) (wD E) 4) : SB g (cD g Pr w mg base ["sale"] "greatest_worth" (defScope s_greatest_worth) (g.fa 34) cdv A outer s H E) (wD E) (defBody s_greatest_worth) m_greatest_worth := 
  (sb_cons (ss_expr (se_fnD ok (d_need_sale Z) (by decide) rfl Z.gl_need_sale (sz_val (se_var (i := 0) rfl (vis_by rfl)) sz_nil) (zl_val zl_nil)))
  sb_stuck)
theorem d_greatest_worth (Z : Zt g mg base) : DefE g Pr w mg base 5 34 1 F_greatest_worth :=
  defE_of (N := ["sale"]) (ps := ["sale"]) Z.fd_greatest_worth sc_greatest_worth rfl rfl (fun _ _ _ _ _ _ us hl => match us, hl with | [_], _ => rfl) (b_greatest_worth Z)
theorem sc_best_allotment : FnScope ["sale"] ["sale"] (defScope s_best_allotment) := ⟨rfl, rfl, rfl, by decide +kernel, rfl, by decide +kernel, by decide +kernel⟩
def m_best_allotment : BF := (sSeq (sExpr (eFn F_need_sale (zVal (eVar 0) zNil)))
  sStuck)
def F_best_allotment : FF := fnEv 1 1 m_best_allotment
theorem b_best_allotment (Z : Zt g mg base) (cdv : Value) (A : Around) (outer : List Env) (s : Shared) (H : Hp) (E : XK) (hcd : ∃ oc od fd osl, g.K.lookup (g.fa 35) = some ⟨oc, od, .func fd, osl⟩ ∧ fd.code = cdv) (ok : Ok g (cD g Pr w mg base ["sale"] "best_allotment" (defScope s_best_allotment) (g.fa 35) cdv A outer s H E) (wD E) 4) : SB g (cD g Pr w mg base ["sale"] "best_allotment" (defScope s_best_allotment) (g.fa 35) cdv A outer s H E) (wD E) (defBody s_best_allotment) m_best_allotment := 
  (sb_cons (ss_expr (se_fnD ok (d_need_sale Z) (by decide) rfl Z.gl_need_sale (sz_val (se_var (i := 0) rfl (vis_by rfl)) sz_nil) (zl_val zl_nil)))
  sb_stuck)
theorem d_best_allotment (Z : Zt g mg base) : DefE g Pr w mg base 5 35 1 F_best_allotment :=
  defE_of (N := ["sale"]) (ps := ["sale"]) Z.fd_best_allotment sc_best_allotment rfl rfl (fun _ _ _ _ _ _ us hl => match us, hl with | [_], _ => rfl) (b_best_allotment Z)
theorem sc_least_prices : FnScope ["sale"] ["sale"] (defScope s_least_prices) := ⟨rfl, rfl, rfl, by decide +kernel, rfl, by decide +kernel, by decide +kernel⟩
def m_least_prices : BF := (sSeq (sExpr (eFn F_need_sale (zVal (eVar 0) zNil)))
  sStuck)
def F_least_prices : FF := fnEv 1 1 m_least_prices
theorem b_least_prices (Z : Zt g mg base) (cdv : Value) (A : Around) (outer : List Env) (s : Shared) (H : Hp) (E : XK) (hcd : ∃ oc od fd osl, g.K.lookup (g.fa 59) = some ⟨oc, od, .func fd, osl⟩ ∧ fd.code = cdv) (ok : Ok g (cD g Pr w mg base ["sale"] "least_prices" (defScope s_least_prices) (g.fa 59) cdv A outer s H E) (wD E) 4) : SB g (cD g Pr w mg base ["sale"] "least_prices" (defScope s_least_prices) (g.fa 59) cdv A outer s H E) (wD E) (defBody s_least_prices) m_least_prices := 
  (sb_cons (ss_expr (se_fnD ok (d_need_sale Z) (by decide) rfl Z.gl_need_sale (sz_val (se_var (i := 0) rfl (vis_by rfl)) sz_nil) (zl_val zl_nil)))
  sb_stuck)
theorem d_least_prices (Z : Zt g mg base) : DefE g Pr w mg base 5 59 1 F_least_prices :=
  defE_of (N := ["sale"]) (ps := ["sale"]) Z.fd_least_prices sc_least_prices rfl rfl (fun _ _ _ _ _ _ us hl => match us, hl with | [_], _ => rfl) (b_least_prices Z)
theorem sc_greatest_prices : FnScope ["sale"] ["sale"] (defScope s_greatest_prices) := ⟨rfl, rfl, rfl, by decide +kernel, rfl, by decide +kernel, by decide +kernel⟩
def m_greatest_prices : BF := (sSeq (sExpr (eFn F_need_sale (zVal (eVar 0) zNil)))
  sStuck)
def F_greatest_prices : FF := fnEv 1 1 m_greatest_prices
theorem b_greatest_prices (Z : Zt g mg base) (cdv : Value) (A : Around) (outer : List Env) (s : Shared) (H : Hp) (E : XK) (hcd : ∃ oc od fd osl, g.K.lookup (g.fa 60) = some ⟨oc, od, .func fd, osl⟩ ∧ fd.code = cdv) (ok : Ok g (cD g Pr w mg base ["sale"] "greatest_prices" (defScope s_greatest_prices) (g.fa 60) cdv A outer s H E) (wD E) 4) : SB g (cD g Pr w mg base ["sale"] "greatest_prices" (defScope s_greatest_prices) (g.fa 60) cdv A outer s H E) (wD E) (defBody s_greatest_prices) m_greatest_prices := 
  (sb_cons (ss_expr (se_fnD ok (d_need_sale Z) (by decide) rfl Z.gl_need_sale (sz_val (se_var (i := 0) rfl (vis_by rfl)) sz_nil) (zl_val zl_nil)))
  sb_stuck)
theorem d_greatest_prices (Z : Zt g mg base) : DefE g Pr w mg base 5 60 1 F_greatest_prices :=
  defE_of (N := ["sale"]) (ps := ["sale"]) Z.fd_greatest_prices sc_greatest_prices rfl rfl (fun _ _ _ _ _ _ us hl => match us, hl with | [_], _ => rfl) (b_greatest_prices Z)
theorem sc_raises : FnScope ["sale", "names", "prices", "found"] ["sale"] (defScope s_raises) := ⟨rfl, rfl, rfl, by decide +kernel, rfl, by decide +kernel, by decide +kernel⟩
def m_raises : BF := (sSeq (sExpr (eFn F_need_sale (zVal (eVar 0) zNil)))
  sStuck)
def F_raises : FF := fnEv 1 4 m_raises
theorem b_raises (Z : Zt g mg base) (cdv : Value) (A : Around) (outer : List Env) (s : Shared) (H : Hp) (E : XK) (hcd : ∃ oc od fd osl, g.K.lookup (g.fa 70) = some ⟨oc, od, .func fd, osl⟩ ∧ fd.code = cdv) (ok : Ok g (cD g Pr w mg base ["sale", "names", "prices", "found"] "raises" (defScope s_raises) (g.fa 70) cdv A outer s H E) (wD E) 4) : SB g (cD g Pr w mg base ["sale", "names", "prices", "found"] "raises" (defScope s_raises) (g.fa 70) cdv A outer s H E) (wD E) (defBody s_raises) m_raises := 
  (sb_cons (ss_expr (se_fnD ok (d_need_sale Z) (by decide) rfl Z.gl_need_sale (sz_val (se_var (i := 0) rfl (vis_by rfl)) sz_nil) (zl_val zl_nil)))
  sb_stuck)
theorem d_raises (Z : Zt g mg base) : DefE g Pr w mg base 5 70 1 F_raises :=
  defE_of (N := ["sale", "names", "prices", "found"]) (ps := ["sale"]) Z.fd_raises sc_raises rfl rfl (fun _ _ _ _ _ _ us hl => match us, hl with | [_], _ => rfl) (b_raises Z)
theorem sc__law_sales_right : FnScope ["odd", "words", "call"] ["odd"] (defScope s__law_sales_right) := ⟨rfl, rfl, rfl, by decide +kernel, rfl, by decide +kernel, by decide +kernel⟩
def tab_1 : List (Nat × FF) := [(34, F_greatest_worth), (35, F_best_allotment), (59, F_least_prices), (60, F_greatest_prices), (70, F_raises)]
theorem tabD_1 (Z : Zt g mg base) : TabOk g Pr w mg base 20 1 tab_1 := (tabOk_cons (d_greatest_worth Z) (by decide) (tabOk_cons (d_best_allotment Z) (by decide) (tabOk_cons (d_least_prices Z) (by decide) (tabOk_cons (d_greatest_prices Z) (by decide) (tabOk_cons (d_raises Z) (by decide) tabOk_nil)))))
def m__law_sales_right : BF := (sSeq (sCell 1 (fComp (aSeq (eTup (aCons (eC (.adr 34)) (aCons (eC (.adr 35)) (aCons (eC (.adr 59)) (aCons (eC (.adr 60)) (aCons (eC (.adr 70)) aNil))))))) (gN 2) tYes (eErr cl_ tell_ (eCV 2 tab_1 (zVal (eVar 0) zNil))) [2]))
  (sSeq (sFor (aSeq (eTup (aCons (eC (.adr 33)) (aCons (eC (.adr 58)) (aCons (eC (.adr 64)) (aCons (eC (.adr 65)) (aCons (eC (.adr 66)) (aCons (eC (.adr 72)) (aCons (eC (.adr 80)) (aCons (eC (.adr 90)) (aCons (eC (.adr 82)) aNil))))))))))) (gN 2) (sApp (vVar 1) (eErr cl_ tell_ (eCV 2 tab_2 (zVal (eVar 0) (zVal (eC .non) zNil))))))
  (sSeq (sFor (aSeq (eTup (aCons (eC (.adr 84)) (aCons (eC (.adr 85)) (aCons (eC (.adr 86)) aNil))))) (gN 2) (sApp (vVar 1) (eErr cl_ tell_ (eCV 2 tab_2 (zVal (eVar 0) (zVal (eC .non) zNil))))))
  (sSeq (sFor (aSeq (eTup (aCons (eC (.adr 31)) (aCons (eC (.adr 32)) (aCons (eC (.adr 57)) (aCons (eC (.adr 61)) (aCons (eC (.adr 62)) (aCons (eC (.adr 63)) (aCons (eC (.adr 69)) (aCons (eC (.adr 75)) (aCons (eC (.adr 81)) aNil))))))))))) (gN 2) (sApp (vVar 1) (eErr cl_ tell_ (eCV 2 tab_3 (zVal (eVar 0) (zVal (eC .non) (zVal (eC .non) zNil)))))))
  (sSeq (sFor (aSeq (eTup (aCons (eC (.adr 83)) (aCons (eC (.adr 87)) aNil)))) (gN 2) (sApp (vVar 1) (eErr cl_ tell_ (eCV 2 tab_3 (zVal (eVar 0) (zVal (eC .non) (zVal (eC .non) zNil)))))))
  (sSeq (sApp (vVar 1) (eErr cl_ tell_ (eFn F_takes_chains (zVal (eVar 0) (zVal (eC .non) (zVal (eC .non) (zVal (eC .non) zNil)))))))
  (sRet (e2s pEq (vVar 1) (vE (eFr (f2s lMul (vE (eFr (fLst (aCons (eC (.str "sale")) aNil)))) (vE (eC (.int 29))))))))))))))
def F__law_sales_right : FF := fnEv 1 3 m__law_sales_right
theorem b__law_sales_right (Z : Zt g mg base) (cdv : Value) (A : Around) (outer : List Env) (s : Shared) (H : Hp) (E : XK) (hcd : ∃ oc od fd osl, g.K.lookup (g.fa 98) = some ⟨oc, od, .func fd, osl⟩ ∧ fd.code = cdv) (ok : Ok g (cD g Pr w mg base ["odd", "words", "call"] "_law_sales_right" (defScope s__law_sales_right) (g.fa 98) cdv A outer s H E) (wD E) 22) : SB g (cD g Pr w mg base ["odd", "words", "call"] "_law_sales_right" (defScope s__law_sales_right) (g.fa 98) cdv A outer s H E) (wD E) (defBody s__law_sales_right) m__law_sales_right := by
  obtain ⟨_, fdE⟩ := Z.fd__law_error
  have la := LamFact.at Z.la__law_sales_right hcd
  exact 
  (sb_cons (ss_cellLc (i := 1) (is := [2]) (own := [("call", 2)]) ok rfl rfl (sw_true rfl rfl (by rfl) (by rfl)) (si_seq ok.K (se_tup (sa_cons (se_def (n := 34) rfl Z.gl_greatest_worth) (sa_cons (se_def (n := 35) rfl Z.gl_best_allotment) (sa_cons (se_def (n := 59) rfl Z.gl_least_prices) (sa_cons (se_def (n := 60) rfl Z.gl_greatest_prices) (sa_cons (se_def (n := 70) rfl Z.gl_raises) sa_nil))))))) (blkOk_by (by rfl)) (by decide) (hg_name (B := Blk _ _) (j := 2) (fun _ _ _ _ _ => ok.nd) (fun _ _ _ _ _ => rfl) (fun _ _ _ _ _ => loc_by rfl) (fun _ _ _ _ _ => .inl rfl)) (fun _ _ _ _ _ ok1 => sts_nil) (fun _ _ _ _ _ ok1 => (se_lamErr (kb := 20) ok1 (by decide) fdE sc__law_error bndE rfl Z.gl__law_error (vis_by rfl) rfl (fun cdv => gE Z rfl rfl cdv _) la (lamS_by (by rfl)) (by rfl) (by intros; rfl) (fun _ _ _ _ _ _ _ okL => (se_cv (i := 2) okL (fun n F h => tabD_1 Z n F h) rfl (vis_by rfl) (sz_val (se_var (i := 0) rfl (vis_by rfl)) sz_nil) (zl_val zl_nil))))))
  (sb_cons (ss_for (passes_of rfl) ok.calm (si_seq ok.K (se_tup (sa_cons (se_def (n := 33) rfl Z.gl_worth_of) (sa_cons (se_def (n := 58) rfl Z.gl_is_competitive) (sa_cons (se_def (n := 64) rfl Z.gl_overdemanded) (sa_cons (se_def (n := 65) rfl Z.gl_underdemanded) (sa_cons (se_def (n := 66) rfl Z.gl_loose) (sa_cons (se_def (n := 72) rfl Z.gl_takes_raises) (sa_cons (se_def (n := 80) rfl Z.gl_menu) (sa_cons (se_def (n := 90) rfl Z.gl_told_allotment) (sa_cons (se_def (n := 82) rfl Z.gl_with_bidder) sa_nil))))))))))) (sg_name (i := 2) ok.nd rfl (loc_by rfl)) (sb_one (ss_app (sv_var (i := 1) rfl (vis_by rfl)) (se_lamErr (kb := 20) ok (by decide) fdE sc__law_error bndE rfl Z.gl__law_error (vis_by rfl) rfl (fun cdv => gE Z rfl rfl cdv _) la (lamS_by (by rfl)) (by rfl) (by intros; rfl) (fun _ _ _ _ _ _ _ okL => (se_cv (i := 2) okL (fun n F h => tabD_2 Z n F h) rfl (vis_by rfl) (sz_val (se_var (i := 0) rfl (vis_by rfl)) (sz_val se_non sz_nil)) (zl_val (zl_val zl_nil))))))))
  (sb_cons (ss_for (passes_of rfl) ok.calm (si_seq ok.K (se_tup (sa_cons (se_def (n := 84) rfl Z.gl_without_bidder) (sa_cons (se_def (n := 85) rfl Z.gl_without_name) (sa_cons (se_def (n := 86) rfl Z.gl_risen) sa_nil))))) (sg_name (i := 2) ok.nd rfl (loc_by rfl)) (sb_one (ss_app (sv_var (i := 1) rfl (vis_by rfl)) (se_lamErr (kb := 20) ok (by decide) fdE sc__law_error bndE rfl Z.gl__law_error (vis_by rfl) rfl (fun cdv => gE Z rfl rfl cdv _) la (lamS_by (by rfl)) (by rfl) (by intros; rfl) (fun _ _ _ _ _ _ _ okL => (se_cv (i := 2) okL (fun n F h => tabD_2 Z n F h) rfl (vis_by rfl) (sz_val (se_var (i := 0) rfl (vis_by rfl)) (sz_val se_non sz_nil)) (zl_val (zl_val zl_nil))))))))
  (sb_cons (ss_for (passes_of rfl) ok.calm (si_seq ok.K (se_tup (sa_cons (se_def (n := 31) rfl Z.gl_gain_of) (sa_cons (se_def (n := 32) rfl Z.gl_demand_of) (sa_cons (se_def (n := 57) rfl Z.gl_goes_with) (sa_cons (se_def (n := 61) rfl Z.gl_is_overdemanded) (sa_cons (se_def (n := 62) rfl Z.gl_is_underdemanded) (sa_cons (se_def (n := 63) rfl Z.gl_is_loose) (sa_cons (se_def (n := 69) rfl Z.gl_raised) (sa_cons (se_def (n := 75) rfl Z.gl_chain_paper) (sa_cons (se_def (n := 81) rfl Z.gl_options_by) sa_nil))))))))))) (sg_name (i := 2) ok.nd rfl (loc_by rfl)) (sb_one (ss_app (sv_var (i := 1) rfl (vis_by rfl)) (se_lamErr (kb := 20) ok (by decide) fdE sc__law_error bndE rfl Z.gl__law_error (vis_by rfl) rfl (fun cdv => gE Z rfl rfl cdv _) la (lamS_by (by rfl)) (by rfl) (by intros; rfl) (fun _ _ _ _ _ _ _ okL => (se_cv (i := 2) okL (fun n F h => tabD_3 Z n F h) rfl (vis_by rfl) (sz_val (se_var (i := 0) rfl (vis_by rfl)) (sz_val se_non (sz_val se_non sz_nil))) (zl_val (zl_val (zl_val zl_nil)))))))))
  (sb_cons (ss_for (passes_of rfl) ok.calm (si_seq ok.K (se_tup (sa_cons (se_def (n := 83) rfl Z.gl_with_name) (sa_cons (se_def (n := 87) rfl Z.gl_fallen) sa_nil)))) (sg_name (i := 2) ok.nd rfl (loc_by rfl)) (sb_one (ss_app (sv_var (i := 1) rfl (vis_by rfl)) (se_lamErr (kb := 20) ok (by decide) fdE sc__law_error bndE rfl Z.gl__law_error (vis_by rfl) rfl (fun cdv => gE Z rfl rfl cdv _) la (lamS_by (by rfl)) (by rfl) (by intros; rfl) (fun _ _ _ _ _ _ _ okL => (se_cv (i := 2) okL (fun n F h => tabD_3 Z n F h) rfl (vis_by rfl) (sz_val (se_var (i := 0) rfl (vis_by rfl)) (sz_val se_non (sz_val se_non sz_nil))) (zl_val (zl_val (zl_val zl_nil)))))))))
  (sb_cons (ss_app (sv_var (i := 1) rfl (vis_by rfl)) (se_lamErr (kb := 20) ok (by decide) fdE sc__law_error bndE rfl Z.gl__law_error (vis_by rfl) rfl (fun cdv => gE Z rfl rfl cdv _) la (lamS_by (by rfl)) (by rfl) (by intros; rfl) (fun _ _ _ _ _ _ _ okL => (se_fnD okL (d_takes_chains Z) (by decide) rfl Z.gl_takes_chains (sz_val (se_var (i := 0) rfl (vis_by rfl)) (sz_val se_non (sz_val se_non (sz_val se_non sz_nil)))) (zl_val (zl_val (zl_val (zl_val zl_nil))))))))
  (sb_one (ss_ret (se_cmpS (os_eq ok) (sv_var (i := 1) rfl (vis_by rfl)) (sv_e (se_fr (sf_opS of_mul (sv_e (se_fr (sf_lst (sa_cons se_str sa_nil)))) (sv_e se_int)))) (by rfl))))))))))
theorem d__law_sales_right (Z : Zt g mg base) : DefE g Pr w mg base 23 98 1 F__law_sales_right :=
  defE_of (N := ["odd", "words", "call"]) (ps := ["odd"]) Z.fd__law_sales_right sc__law_sales_right rfl rfl (fun _ _ _ _ _ _ us hl => match us, hl with | [_], _ => rfl) (b__law_sales_right Z)
theorem sc__law_roll : FnScope ["cup", "many", "deep", "found"] ["cup", "many"] (defScope s__law_roll) := ⟨rfl, rfl, rfl, by decide +kernel, rfl, by decide +kernel, by decide +kernel⟩
def m__law_roll : BF := (sSeq (sIf (tB (e2 pGt (e2s pIx (vVar 0) (vE (eC (.int 0)))) (eC (.int 0)))) (sSeq (sSet 3 (e2 pMod (eCall bInt (aCons (e2s pIx (vVar 0) (vE (eC (.int 0)))) aNil)) (eVar 1)))
  (sSeq (sAsg (vE (e2 pDiv (e2s pIx (vVar 0) (vE (eC (.int 0)))) (eVar 1))) (gvSub (vVar 0) (eC (.int 0))))
  (sRet (eVar 3)))) sNil)
  (sSeq (sAsg (vE (e2 pMod (eCall bInt (aCons (e2 pAdd (e2 pMulA (e2s pIx (vVar 0) (vE (eC (.int 1)))) (eC (.int 30757))) (eC (.int 8219))) aNil)) (eC (.int 2147483543)))) (gvSub (vVar 0) (eC (.int 1))))
  (sSeq (sSet 2 (e2 pMod (eCall bInt (aCons (e2 pMulA (e2s pIx (vVar 0) (vE (eC (.int 1)))) (e2 pAdd (e2s pIx (vVar 0) (vE (eC (.int 1)))) (eC (.int 251)))) aNil)) (eC (.int 2147483587))))
  (sRet (e2 pMod (eCall bInt (aCons (e2 pDiv (eVar 2) (eC (.int 829))) aNil)) (eVar 1))))))
def F__law_roll : FF := fnEv 2 4 m__law_roll
theorem b__law_roll (Z : Zt g mg base) (cdv : Value) (A : Around) (outer : List Env) (s : Shared) (H : Hp) (E : XK) (hcd : ∃ oc od fd osl, g.K.lookup (g.fa 92) = some ⟨oc, od, .func fd, osl⟩ ∧ fd.code = cdv) (ok : Ok g (cD g Pr w mg base ["cup", "many", "deep", "found"] "_law_roll" (defScope s__law_roll) (g.fa 92) cdv A outer s H E) (wD E) 0) : SB g (cD g Pr w mg base ["cup", "many", "deep", "found"] "_law_roll" (defScope s__law_roll) (g.fa 92) cdv A outer s H E) (wD E) (defBody s__law_roll) m__law_roll := 
  (sb_cons (ss_if (st_cmp os_gt (se_ixS (is_ix ok.K) (sv_var (i := 0) rfl (vis_by rfl)) (sv_e se_int) (fun _ _ => rfl)) se_int (by rfl)) (sb_cons (ss_set (i := 3) ok.nd rfl (loc_by rfl) (se_op os_mod (se_callTy cs_int rfl Z.fr_int bt_int (sa_cons (se_ixS (is_ix ok.K) (sv_var (i := 0) rfl (vis_by rfl)) (sv_e se_int) (fun _ _ => rfl)) sa_nil)) (se_var (i := 1) rfl (vis_by rfl))))
  (sb_cons (ss_asg (sv_e (se_op os_div (se_ixS (is_ix ok.K) (sv_var (i := 0) rfl (vis_by rfl)) (sv_e se_int) (fun _ _ => rfl)) (se_var (i := 1) rfl (vis_by rfl)))) (sgv_sub (sv_var (i := 0) rfl (vis_by rfl)) se_int))
  (sb_one (ss_ret (se_var (i := 3) rfl (vis_by rfl)))))) sb_nil)
  (sb_cons (ss_asg (sv_e (se_op os_mod (se_callTy cs_int rfl Z.fr_int bt_int (sa_cons (se_op (os_add ok.K) (se_op (os_mulA ok.K) (se_ixS (is_ix ok.K) (sv_var (i := 0) rfl (vis_by rfl)) (sv_e se_int) (fun _ _ => rfl)) se_int) se_int) sa_nil)) se_int)) (sgv_sub (sv_var (i := 0) rfl (vis_by rfl)) se_int))
  (sb_cons (ss_set (i := 2) ok.nd rfl (loc_by rfl) (se_op os_mod (se_callTy cs_int rfl Z.fr_int bt_int (sa_cons (se_op (os_mulA ok.K) (se_ixS (is_ix ok.K) (sv_var (i := 0) rfl (vis_by rfl)) (sv_e se_int) (fun _ _ => rfl)) (se_op (os_add ok.K) (se_ixS (is_ix ok.K) (sv_var (i := 0) rfl (vis_by rfl)) (sv_e se_int) (fun _ _ => rfl)) se_int)) sa_nil)) se_int))
  (sb_one (ss_ret (se_op os_mod (se_callTy cs_int rfl Z.fr_int bt_int (sa_cons (se_op os_div (se_var (i := 2) rfl (vis_by rfl)) se_int) sa_nil)) (se_var (i := 1) rfl (vis_by rfl))))))))
theorem d__law_roll (Z : Zt g mg base) : DefE g Pr w mg base 1 92 2 F__law_roll :=
  defE_of (N := ["cup", "many", "deep", "found"]) (ps := ["cup", "many"]) Z.fd__law_roll sc__law_roll rfl rfl (fun _ _ _ _ _ _ us hl => match us, hl with | [_, _], _ => rfl) (b__law_roll Z)
theorem sc__law_some : FnScope ["cup", "things"] ["cup", "things"] (defScope s__law_some) := ⟨rfl, rfl, rfl, by decide +kernel, rfl, by decide +kernel, by decide +kernel⟩
def m__law_some : BF := (sRet (e2 pIx (eVar 1) (eFn F__law_roll (zCons (vVar 0) (zVal (eCall bLen (aCons (eVar 1) aNil)) zNil)))))
def F__law_some : FF := fnEv 2 2 m__law_some
theorem b__law_some (Z : Zt g mg base) (cdv : Value) (A : Around) (outer : List Env) (s : Shared) (H : Hp) (E : XK) (hcd : ∃ oc od fd osl, g.K.lookup (g.fa 93) = some ⟨oc, od, .func fd, osl⟩ ∧ fd.code = cdv) (ok : Ok g (cD g Pr w mg base ["cup", "things"] "_law_some" (defScope s__law_some) (g.fa 93) cdv A outer s H E) (wD E) 1) : SB g (cD g Pr w mg base ["cup", "things"] "_law_some" (defScope s__law_some) (g.fa 93) cdv A outer s H E) (wD E) (defBody s__law_some) m__law_some := 
  (sb_one (ss_ret (se_ix (is_ix ok.K) (se_var (i := 1) rfl (vis_by rfl)) (se_fnD ok (d__law_roll Z) (by decide) rfl Z.gl__law_roll (sz_cons (sv_var (i := 0) rfl (vis_by rfl)) (sz_val (se_callB (cs_len ok.K) rfl Z.fr_len bt_len (sa_cons (se_var (i := 1) rfl (vis_by rfl)) sa_nil)) sz_nil)) (zl_cons (zl_val zl_nil))) (fun _ _ => rfl))))
theorem d__law_some (Z : Zt g mg base) : DefE g Pr w mg base 2 93 2 F__law_some :=
  defE_of (N := ["cup", "things"]) (ps := ["cup", "things"]) Z.fd__law_some sc__law_some rfl rfl (fun _ _ _ _ _ _ us hl => match us, hl with | [_, _], _ => rfl) (b__law_some Z)
theorem sc_law : FnScope ["script", "cup", "sale", "odd", "one"] ["script"] (defScope s_law) := ⟨rfl, rfl, rfl, by decide +kernel, rfl, by decide +kernel, by decide +kernel⟩
def m_law : BF := (sSeq (sCell 1 (fFn F__law_cup (zVal (eVar 0) zNil)))
  (sSeq (sSet 2 (eTup (aCons (eTup (aCons (eC (.int 0)) (aCons (eC (.int 1)) aNil))) (aCons (eTup (aCons (eTup (aCons (eC (.int 5)) (aCons (eC (.int 4)) aNil))) (aCons (eTup (aCons (eC (.int 5)) (aCons (eC (.int 2)) aNil))) (aCons (eTup (aCons (eC (.int 3)) (aCons (eC (.int 0)) aNil))) aNil)))) aNil))))
  (sSeq (sSet 3 (eFn F__law_some (zCons (vVar 1) (zVal (eFn F__law_odd_sales zNil) zNil))))
  (sSeq (sIf (tNot (tB (eFn F__law_sales_right (zVal (eVar 3) zNil)))) (sRet (eC (.bl false))) sNil)
  (sSeq (sIf (tB (e2s pNe (vE (eFr (fComp (aSeq (eFn F__law_odd_sales zNil)) (gN 4) (tB (e2 pNe (eErr cl_ tell_ (eFn F_least_prices (zVal (eVar 4) zNil))) (eC (.str "sale")))) (eVar 4) [4]))) (vE (eFr (fLst aNil))))) (sRet (eC (.bl false))) sNil)
  (sRet (eAnd (eFn F__law_prices_right (zVal (eVar 2) zNil)) (eAnd (eFn F__law_bidders_right (zVal (eVar 2) zNil)) (eFn F__law_rows_right (zVal (eVar 2) zNil))))))))))
def F_law : FF := fnEv 1 5 m_law
theorem b_law (Z : Zt g mg base) (cdv : Value) (A : Around) (outer : List Env) (s : Shared) (H : Hp) (E : XK) (hcd : ∃ oc od fd osl, g.K.lookup (g.fa 102) = some ⟨oc, od, .func fd, osl⟩ ∧ fd.code = cdv) (ok : Ok g (cD g Pr w mg base ["script", "cup", "sale", "odd", "one"] "law" (defScope s_law) (g.fa 102) cdv A outer s H E) (wD E) 23) : SB g (cD g Pr w mg base ["script", "cup", "sale", "odd", "one"] "law" (defScope s_law) (g.fa 102) cdv A outer s H E) (wD E) (defBody s_law) m_law := by
  obtain ⟨_, fdE⟩ := Z.fd__law_error
  have la := LamFact.at Z.la_law hcd
  exact 
  (sb_cons (ss_cell (i := 1) ok.nd rfl (loc_by rfl) (sf_fnD ok (d__law_cup Z) (by decide) rfl Z.gl__law_cup (sz_val (se_var (i := 0) rfl (vis_by rfl)) sz_nil) (zl_val zl_nil)))
  (sb_cons (ss_set (i := 2) ok.nd rfl (loc_by rfl) (se_tup (sa_cons (se_tup (sa_cons se_int (sa_cons se_int sa_nil))) (sa_cons (se_tup (sa_cons (se_tup (sa_cons se_int (sa_cons se_int sa_nil))) (sa_cons (se_tup (sa_cons se_int (sa_cons se_int sa_nil))) (sa_cons (se_tup (sa_cons se_int (sa_cons se_int sa_nil))) sa_nil)))) sa_nil))))
  (sb_cons (ss_set (i := 3) ok.nd rfl (loc_by rfl) (se_fnD ok (d__law_some Z) (by decide) rfl Z.gl__law_some (sz_cons (sv_var (i := 1) rfl (vis_by rfl)) (sz_val (se_fn0 ok (d__law_odd_sales Z) (by decide) rfl Z.gl__law_odd_sales) sz_nil)) (zl_cons (zl_val zl_nil))))
  (sb_cons (ss_if (st_not (st_val (se_fnD ok (d__law_sales_right Z) (by decide) rfl Z.gl__law_sales_right (sz_val (se_var (i := 3) rfl (vis_by rfl)) sz_nil) (zl_val zl_nil)))) (sb_one (ss_ret se_bl)) sb_nil)
  (sb_cons (ss_if (st_cmpS (os_ne ok) (sv_e (se_fr (sf_comp (is := [4]) (own := [("one", 4)]) ok (si_seq ok.K (se_fn0 ok (d__law_odd_sales Z) (by decide) rfl Z.gl__law_odd_sales)) (blkOk_by (by rfl)) (by decide) (hg_name (B := Blk _ _) (j := 4) (fun _ _ _ _ _ => ok.nd) (fun _ _ _ _ _ => rfl) (fun _ _ _ _ _ => loc_by rfl) (fun _ _ _ _ _ => .inl rfl)) (fun _ _ _ _ _ ok1 => (sts_one (st_cmp (os_ne ok1) (se_lamErr (kb := 20) ok1 (by decide) fdE sc__law_error bndE rfl Z.gl__law_error (vis_by rfl) rfl (fun cdv => gE Z rfl rfl cdv _) la (lamS_by (by rfl)) (by rfl) (by intros; rfl) (fun _ _ _ _ _ _ _ okL => (se_fnD okL (d_least_prices Z) (by decide) rfl Z.gl_least_prices (sz_val (se_var (i := 4) rfl (vis_by rfl)) sz_nil) (zl_val zl_nil)))) se_str (by rfl)))) (fun _ _ _ _ _ ok1 => (se_var (i := 4) rfl (vis_by rfl)))))) (sv_e (se_fr (sf_lst sa_nil))) (by rfl)) (sb_one (ss_ret se_bl)) sb_nil)
  (sb_one (ss_ret (se_and (se_fnD ok (d__law_prices_right Z) (by decide) rfl Z.gl__law_prices_right (sz_val (se_var (i := 2) rfl (vis_by rfl)) sz_nil) (zl_val zl_nil)) (se_and (se_fnD ok (d__law_bidders_right Z) (by decide) rfl Z.gl__law_bidders_right (sz_val (se_var (i := 2) rfl (vis_by rfl)) sz_nil) (zl_val zl_nil)) (se_one (se_fnD ok (d__law_rows_right Z) (by decide) rfl Z.gl__law_rows_right (sz_val (se_var (i := 2) rfl (vis_by rfl)) sz_nil) (zl_val zl_nil))))))))))))
theorem d_law (Z : Zt g mg base) : DefE g Pr w mg base 24 102 1 F_law :=
  defE_of (N := ["script", "cup", "sale", "odd", "one"]) (ps := ["script"]) Z.fd_law sc_law rfl rfl (fun _ _ _ _ _ _ us hl => match us, hl with | [_], _ => rfl) (b_law Z)
end
end K54

set_option Elab.async false
set_option linter.all false
set_option maxRecDepth 100000
set_option maxHeartbeats 0
namespace K54
open PySem PySem.Spec PyProof.Rows L2 L2H LamX Ev
def nm_ (n : Nat) : Str := ((["RegistryError", "InvalidSale", "InvalidPrices", "InvalidBidder", "InvalidBids", "InvalidLots", "InvalidNumber", "InvalidSet", "InvalidAllotment", "NotPossible", "TooMany", "is_whole", "need_whole", "is_tuple_of", "is_row", "is_sale", "need_sale", "need_prices", "need_bidder", "is_pair", "is_allotment", "need_allotment", "gain_in", "demand_in", "surplus_of", "ways_from", "let_in", "holders_of", "worth_in", "holders_by"] : List Str) ++ ((["allotment_by", "gain_of", "demand_of", "worth_of", "greatest_worth", "best_allotment", "need_set", "names_by", "goes_in", "is_competitive_in", "least_in", "other_ways", "greatest_in", "matched_in", "changed", "wanting", "within", "lost_in", "least_over", "is_over", "is_least_over", "risen_names", "askers_of", "is_under", "under_in", "loose_in", "checked", "goes_with", "is_competitive", "least_prices"] : List Str) ++ ((["greatest_prices", "is_overdemanded", "is_underdemanded", "is_loose", "overdemanded", "underdemanded", "loose", "raised_by", "need_few", "raised", "raises", "is_set_of", "takes_raises", "checked_pair", "next_bidder", "chain_paper", "has_end", "takes_chains", "need_row", "sale_without", "menu", "options_by", "with_bidder", "with_name", "without_bidder", "without_name", "risen", "fallen", "need_lots", "can_go_on"] : List Str) ++ ((["told_allotment", "_law_cup", "_law_roll", "_law_some", "_law_error", "_law_odd_sales", "_law_odd_prices", "_law_odd_allotments", "_law_sales_right", "_law_prices_right", "_law_bidders_right", "_law_rows_right", "law"] : List Str))))).getD n ""
def fa_ : List He.Fa := ([.free "abs", .free "all", .free "bool", .free "enumerate", .free "int", .free "isinstance", .free "len", .free "list", .free "max", .free "range", .free "set", .free "sorted", .free "str", .free "sum", .free "tuple", .free "zip", .glo "InvalidAllotment", .glo "InvalidBidder", .glo "InvalidBids", .glo "InvalidLots", .glo "InvalidNumber", .glo "InvalidPrices", .glo "InvalidSale", .glo "InvalidSet", .glo "NotPossible", .glo "RegistryError", .glo "TooMany", .glo "_law_bidders_right", .glo "_law_cup", .glo "_law_error"] : List He.Fa) ++ (([.glo "_law_odd_allotments", .glo "_law_odd_prices", .glo "_law_odd_sales", .glo "_law_prices_right", .glo "_law_roll", .glo "_law_rows_right", .glo "_law_sales_right", .glo "_law_some", .glo "best_allotment", .glo "chain_paper", .glo "checked", .glo "checked_pair", .glo "demand_of", .glo "fallen", .glo "gain_in", .glo "gain_of", .glo "goes_in", .glo "goes_with", .glo "greatest_in", .glo "greatest_prices", .glo "greatest_worth", .glo "holders_by", .glo "holders_of", .glo "is_allotment", .glo "is_competitive", .glo "is_competitive_in", .glo "is_loose", .glo "is_overdemanded", .glo "is_pair", .glo "is_row"] : List He.Fa) ++ (([.glo "is_sale", .glo "is_tuple_of", .glo "is_underdemanded", .glo "is_whole", .glo "least_in", .glo "least_prices", .glo "let_in", .glo "loose", .glo "menu", .glo "names_by", .glo "need_allotment", .glo "need_bidder", .glo "need_lots", .glo "need_prices", .glo "need_row", .glo "need_sale", .glo "need_set", .glo "need_whole", .glo "options_by", .glo "other_ways", .glo "overdemanded", .glo "raised", .glo "raised_by", .glo "raises", .glo "risen", .glo "sale_without", .glo "surplus_of", .glo "takes_chains", .glo "takes_raises", .glo "told_allotment"] : List He.Fa) ++ (([.glo "underdemanded", .glo "ways_from", .glo "with_bidder", .glo "with_name", .glo "without_bidder", .glo "without_name", .glo "worth_in", .glo "worth_of", .int "BIDDERS" 30, .int "NAMES" 16, .int "NONE" (-1), .int "NUMBER" 1000000, .int "PRICE" 2000000, .exc "InvalidAllotment", .exc "InvalidBidder", .exc "InvalidBids", .exc "InvalidLots", .exc "InvalidNumber", .exc "InvalidPrices", .exc "InvalidSale", .exc "InvalidSet", .exc "NotPossible", .glo "law"] : List He.Fa))))
def fn_ : List He.DefD := ([⟨("_law_error", none), "_law_error", "_law_error", defArgs s__law_error, defBody s__law_error, defScope s__law_error, [], []⟩, ⟨("_law_odd_allotments", none), "_law_odd_allotments", "_law_odd_allotments", defArgs s__law_odd_allotments, defBody s__law_odd_allotments, defScope s__law_odd_allotments, [], []⟩, ⟨("ways_from", none), "ways_from", "ways_from", defArgs s_ways_from, defBody s_ways_from, defScope s_ways_from, [], []⟩, ⟨("let_in", none), "let_in", "let_in", defArgs s_let_in, defBody s_let_in, defScope s_let_in, [], []⟩, ⟨("surplus_of", none), "surplus_of", "surplus_of", defArgs s_surplus_of, defBody s_surplus_of, defScope s_surplus_of, [], []⟩, ⟨("holders_of", none), "holders_of", "holders_of", defArgs s_holders_of, defBody s_holders_of, defScope s_holders_of, [], []⟩, ⟨("names_by", none), "names_by", "names_by", defArgs s_names_by, defBody s_names_by, defScope s_names_by, [], []⟩, ⟨("other_ways", none), "other_ways", "other_ways", defArgs s_other_ways, defBody s_other_ways, defScope s_other_ways, [], []⟩, ⟨("greatest_in", none), "greatest_in", "greatest_in", defArgs s_greatest_in, defBody s_greatest_in, defScope s_greatest_in, [], []⟩, ⟨("is_whole", none), "is_whole", "is_whole", defArgs s_is_whole, defBody s_is_whole, defScope s_is_whole, [], []⟩, ⟨("need_bidder", none), "need_bidder", "need_bidder", defArgs s_need_bidder, defBody s_need_bidder, defScope s_need_bidder, [], []⟩, ⟨("is_tuple_of", none), "is_tuple_of", "is_tuple_of", defArgs s_is_tuple_of, defBody s_is_tuple_of, defScope s_is_tuple_of, [], []⟩, ⟨("is_row", none), "is_row", "is_row", defArgs s_is_row, defBody s_is_row, defScope s_is_row, [], []⟩, ⟨("is_sale", none), "is_sale", "is_sale", defArgs s_is_sale, defBody s_is_sale, defScope s_is_sale, [], []⟩, ⟨("need_sale", none), "need_sale", "need_sale", defArgs s_need_sale, defBody s_need_sale, defScope s_need_sale, [], []⟩, ⟨("sale_without", none), "sale_without", "sale_without", defArgs s_sale_without, defBody s_sale_without, defScope s_sale_without, [], []⟩, ⟨("menu", none), "menu", "menu", defArgs s_menu, defBody s_menu, defScope s_menu, [], []⟩, ⟨("need_row", none), "need_row", "need_row", defArgs s_need_row, defBody s_need_row, defScope s_need_row, [], []⟩, ⟨("options_by", none), "options_by", "options_by", defArgs s_options_by, defBody s_options_by, defScope s_options_by, [], []⟩, ⟨("need_prices", none), "need_prices", "need_prices", defArgs s_need_prices, defBody s_need_prices, defScope s_need_prices, [], []⟩, ⟨("checked", none), "checked", "checked", defArgs s_checked, defBody s_checked, defScope s_checked, [], []⟩, ⟨("gain_in", none), "gain_in", "gain_in", defArgs s_gain_in, defBody s_gain_in, defScope s_gain_in, [], []⟩, ⟨("holders_by", none), "holders_by", "holders_by", defArgs s_holders_by, defBody s_holders_by, defScope s_holders_by, [], []⟩, ⟨("goes_in", none), "goes_in", "goes_in", defArgs s_goes_in, defBody s_goes_in, defScope s_goes_in, [], []⟩, ⟨("is_pair", none), "is_pair", "is_pair", defArgs s_is_pair, defBody s_is_pair, defScope s_is_pair, [], []⟩, ⟨("is_allotment", none), "is_allotment", "is_allotment", defArgs s_is_allotment, defBody s_is_allotment, defScope s_is_allotment, [], []⟩, ⟨("need_allotment", none), "need_allotment", "need_allotment", defArgs s_need_allotment, defBody s_need_allotment, defScope s_need_allotment, [], []⟩, ⟨("checked_pair", none), "checked_pair", "checked_pair", defArgs s_checked_pair, defBody s_checked_pair, defScope s_checked_pair, [], []⟩, ⟨("takes_chains", none), "takes_chains", "takes_chains", defArgs s_takes_chains, defBody s_takes_chains, defScope s_takes_chains, [], []⟩, ⟨("worth_of", none), "worth_of", "worth_of", defArgs s_worth_of, defBody s_worth_of, defScope s_worth_of, [], []⟩] : List He.DefD) ++ (([⟨("worth_in", none), "worth_in", "worth_in", defArgs s_worth_in, defBody s_worth_in, defScope s_worth_in, [], []⟩, ⟨("is_competitive_in", none), "is_competitive_in", "is_competitive_in", defArgs s_is_competitive_in, defBody s_is_competitive_in, defScope s_is_competitive_in, [], []⟩, ⟨("is_competitive", none), "is_competitive", "is_competitive", defArgs s_is_competitive, defBody s_is_competitive, defScope s_is_competitive, [], []⟩, ⟨("overdemanded", none), "overdemanded", "overdemanded", defArgs s_overdemanded, defBody s_overdemanded, defScope s_overdemanded, [], []⟩, ⟨("underdemanded", none), "underdemanded", "underdemanded", defArgs s_underdemanded, defBody s_underdemanded, defScope s_underdemanded, [], []⟩, ⟨("loose", none), "loose", "loose", defArgs s_loose, defBody s_loose, defScope s_loose, [], []⟩, ⟨("takes_raises", none), "takes_raises", "takes_raises", defArgs s_takes_raises, defBody s_takes_raises, defScope s_takes_raises, [], []⟩, ⟨("need_lots", none), "need_lots", "need_lots", defArgs s_need_lots, defBody s_need_lots, defScope s_need_lots, [], []⟩, ⟨("told_allotment", none), "told_allotment", "told_allotment", defArgs s_told_allotment, defBody s_told_allotment, defScope s_told_allotment, [], []⟩, ⟨("with_bidder", none), "with_bidder", "with_bidder", defArgs s_with_bidder, defBody s_with_bidder, defScope s_with_bidder, [], []⟩, ⟨("without_bidder", none), "without_bidder", "without_bidder", defArgs s_without_bidder, defBody s_without_bidder, defScope s_without_bidder, [], []⟩, ⟨("need_whole", none), "need_whole", "need_whole", defArgs s_need_whole, defBody s_need_whole, defScope s_need_whole, [], []⟩, ⟨("without_name", none), "without_name", "without_name", defArgs s_without_name, defBody s_without_name, defScope s_without_name, [], []⟩, ⟨("least_in", none), "least_in", "least_in", defArgs s_least_in, defBody s_least_in, defScope s_least_in, [], []⟩, ⟨("risen", none), "risen", "risen", defArgs s_risen, defBody s_risen, defScope s_risen, [], []⟩, ⟨("gain_of", none), "gain_of", "gain_of", defArgs s_gain_of, defBody s_gain_of, defScope s_gain_of, [], []⟩, ⟨("demand_of", none), "demand_of", "demand_of", defArgs s_demand_of, defBody s_demand_of, defScope s_demand_of, [], []⟩, ⟨("goes_with", none), "goes_with", "goes_with", defArgs s_goes_with, defBody s_goes_with, defScope s_goes_with, [], []⟩, ⟨("need_set", none), "need_set", "need_set", defArgs s_need_set, defBody s_need_set, defScope s_need_set, [], []⟩, ⟨("is_overdemanded", none), "is_overdemanded", "is_overdemanded", defArgs s_is_overdemanded, defBody s_is_overdemanded, defScope s_is_overdemanded, [], []⟩, ⟨("is_underdemanded", none), "is_underdemanded", "is_underdemanded", defArgs s_is_underdemanded, defBody s_is_underdemanded, defScope s_is_underdemanded, [], []⟩, ⟨("is_loose", none), "is_loose", "is_loose", defArgs s_is_loose, defBody s_is_loose, defScope s_is_loose, [], []⟩, ⟨("raised_by", none), "raised_by", "raised_by", defArgs s_raised_by, defBody s_raised_by, defScope s_raised_by, [], []⟩, ⟨("raised", none), "raised", "raised", defArgs s_raised, defBody s_raised, defScope s_raised, [], []⟩, ⟨("chain_paper", none), "chain_paper", "chain_paper", defArgs s_chain_paper, defBody s_chain_paper, defScope s_chain_paper, [], []⟩, ⟨("with_name", none), "with_name", "with_name", defArgs s_with_name, defBody s_with_name, defScope s_with_name, [], []⟩, ⟨("fallen", none), "fallen", "fallen", defArgs s_fallen, defBody s_fallen, defScope s_fallen, [], []⟩, ⟨("_law_bidders_right", none), "_law_bidders_right", "_law_bidders_right", defArgs s__law_bidders_right, defBody s__law_bidders_right, defScope s__law_bidders_right, [], []⟩, ⟨("_law_cup", none), "_law_cup", "_law_cup", defArgs s__law_cup, defBody s__law_cup, defScope s__law_cup, [], []⟩, ⟨("_law_odd_sales", none), "_law_odd_sales", "_law_odd_sales", defArgs s__law_odd_sales, defBody s__law_odd_sales, defScope s__law_odd_sales, [], []⟩] : List He.DefD) ++ (([⟨("_law_odd_prices", none), "_law_odd_prices", "_law_odd_prices", defArgs s__law_odd_prices, defBody s__law_odd_prices, defScope s__law_odd_prices, [], []⟩, ⟨("_law_prices_right", none), "_law_prices_right", "_law_prices_right", defArgs s__law_prices_right, defBody s__law_prices_right, defScope s__law_prices_right, [], []⟩, ⟨("_law_rows_right", none), "_law_rows_right", "_law_rows_right", defArgs s__law_rows_right, defBody s__law_rows_right, defScope s__law_rows_right, [], []⟩, ⟨("greatest_worth", none), "greatest_worth", "greatest_worth", defArgs s_greatest_worth, defBody s_greatest_worth, defScope s_greatest_worth, [], []⟩, ⟨("best_allotment", none), "best_allotment", "best_allotment", defArgs s_best_allotment, defBody s_best_allotment, defScope s_best_allotment, [], []⟩, ⟨("least_prices", none), "least_prices", "least_prices", defArgs s_least_prices, defBody s_least_prices, defScope s_least_prices, [], []⟩, ⟨("greatest_prices", none), "greatest_prices", "greatest_prices", defArgs s_greatest_prices, defBody s_greatest_prices, defScope s_greatest_prices, [], []⟩, ⟨("raises", none), "raises", "raises", defArgs s_raises, defBody s_raises, defScope s_raises, [], []⟩, ⟨("_law_sales_right", none), "_law_sales_right", "_law_sales_right", defArgs s__law_sales_right, defBody s__law_sales_right, defScope s__law_sales_right, [], []⟩, ⟨("_law_roll", none), "_law_roll", "_law_roll", defArgs s__law_roll, defBody s__law_roll, defScope s__law_roll, [], []⟩, ⟨("_law_some", none), "_law_some", "_law_some", defArgs s__law_some, defBody s__law_some, defScope s__law_some, [], []⟩, ⟨("law", none), "law", "law", defArgs s_law, defBody s_law, defScope s_law, [], []⟩] : List He.DefD)))
def xs_ : List Str := (["_law_error", "_law_odd_allotments", "ways_from", "let_in", "surplus_of", "holders_of", "names_by", "other_ways", "greatest_in", "is_whole", "need_bidder", "is_tuple_of", "is_row", "is_sale", "need_sale", "sale_without", "menu", "need_row", "options_by", "need_prices", "checked", "gain_in", "holders_by", "goes_in", "is_pair", "is_allotment", "need_allotment", "checked_pair", "takes_chains", "worth_of"] : List Str) ++ ((["worth_in", "is_competitive_in", "is_competitive", "overdemanded", "underdemanded", "loose", "takes_raises", "need_lots", "told_allotment", "with_bidder", "without_bidder", "need_whole", "without_name", "least_in", "risen", "gain_of", "demand_of", "goes_with", "need_set", "is_overdemanded", "is_underdemanded", "is_loose", "raised_by", "raised", "chain_paper", "with_name", "fallen", "_law_bidders_right", "_law_cup", "_law_odd_sales"] : List Str) ++ ((["_law_odd_prices", "_law_prices_right", "_law_rows_right", "greatest_worth", "best_allotment", "least_prices", "greatest_prices", "raises", "_law_sales_right", "_law_roll", "_law_some", "law", "RegistryError", "InvalidSale", "InvalidPrices", "InvalidBidder", "InvalidBids", "InvalidLots", "InvalidNumber", "InvalidSet", "InvalidAllotment", "NotPossible", "TooMany"] : List Str)))
def tf_ : List He.Defn := [("_law_bidders_right", none), ("_law_prices_right", none), ("_law_rows_right", none), ("_law_sales_right", none), ("law", none)]
def ex_ (K : PySem.W.Frag) : Bool := clsB nm_ sub_ cl_ tst_ 0 K && decide ((tf_.map fun p => (He.cT K p).2).Nodup)
abbrev R_ : PySem.W.OpenRow := PySem.W.OpenLaw.row PySem.Challenge.rw_soleholder_k54_errors_of_sales
abbrev hk_ : PySem.W.Hook := hookY xs_ fa_ fn_ tf_ ex_
def ob_ (s : PySem.W.SharedT) : He.AlX := obsY xs_ fa_ fn_ tf_ ex_ (HandSHeadRun.getT s)
theorem ob_eq (s : PySem.W.SharedT) : ob_ s = hk_.obs s.abs := obsY_eq (HandSHeadRun.getT_eq s)
def loose_ : List Str := (["__name__", "RegistryError", "InvalidSale", "InvalidPrices", "InvalidBidder", "InvalidBids", "InvalidLots", "InvalidNumber", "InvalidSet", "InvalidAllotment", "NotPossible", "TooMany", "is_whole", "need_whole", "is_tuple_of", "NAMES", "BIDDERS", "NUMBER", "PRICE", "NONE", "is_row", "is_sale", "need_sale", "need_prices", "need_bidder", "is_pair", "is_allotment", "need_allotment", "gain_in", "demand_in"] : List Str) ++ ((["surplus_of", "ways_from", "let_in", "holders_of", "worth_in", "holders_by", "allotment_by", "gain_of", "demand_of", "worth_of", "greatest_worth", "best_allotment", "need_set", "names_by", "goes_in", "is_competitive_in", "least_in", "other_ways", "greatest_in", "matched_in", "changed", "wanting", "within", "lost_in", "least_over", "is_over", "is_least_over", "risen_names", "askers_of", "is_under"] : List Str) ++ ((["under_in", "loose_in", "checked", "goes_with", "is_competitive", "least_prices", "greatest_prices", "is_overdemanded", "is_underdemanded", "is_loose", "overdemanded", "underdemanded", "loose", "RAISES", "raised_by", "need_few", "raised", "raises", "is_set_of", "takes_raises", "checked_pair", "next_bidder", "chain_paper", "has_end", "takes_chains", "need_row", "sale_without", "menu", "options_by", "with_bidder"] : List Str) ++ ((["with_name", "without_bidder", "without_name", "risen", "fallen", "need_lots", "can_go_on", "told_allotment", "_law_cup", "_law_roll", "_law_some", "_law_error", "_law_odd_sales", "_law_odd_prices", "_law_odd_allotments", "_law_sales_right", "_law_prices_right", "_law_bidders_right", "_law_rows_right"] : List Str))))
theorem run_ (w : World) : HandSHeadRun.RunEq R_ (PySem.W.view R_.prog [118]) hk_ ob_ 20000 loose_ w := by
  intro os
  kernel_rfl
abbrev gg_ (K : PySem.W.Frag) : Gx := ggOf nm_ tf_ K
theorem facts_ {w : World} {K : PySem.W.Frag} {h : Heap} {mg : Str → Option Value} {fa : Addr} (X : K.In h) (G : h.Ns mainGlobals mg) (hfa : mg ("law" : Str) = some (.ref fa)) (c : He.SaysX fa_ fn_ [] tf_ ex_ w h K)
    (hT : ∀ ns : List Int, ns.length ≤ 63 → (∀ z ∈ ns, Builtin.Int.intBits z ≤ 1048576) → ∃ cs, F_law [.val (.scr ns)] [] = .ok (.bl true) cs) : LamX.LawAtS PySem.Challenge.rw_soleholder_k54_errors_of_sales w K (L2N.CX (PySem.Challenge.rw_soleholder_k54_errors_of_sales).prog w) 24 63 "script" mg fa h := by
  obtain ⟨hc, hn⟩ := He.ba (show (clsB nm_ sub_ cl_ tst_ 0 K && decide ((tf_.map fun p => (He.cT K p).2).Nodup)) = true from c.more)
  have hn := of_decide_eq_true hn
  have Z : ∀ base : Heap, (∀ p ∈ tf_.map (He.cT K), LamX.TabB base mg p.1 p.2) → Zt (gg_ K) mg base := fun base TB =>
    { fr_abs := He.free_ok X G (c.t.d.fact 0 (f := .free "abs") rfl),
      fr_all := He.free_ok X G (c.t.d.fact 1 (f := .free "all") rfl),
      fr_bool := He.free_ok X G (c.t.d.fact 2 (f := .free "bool") rfl),
      fr_enumerate := He.free_ok X G (c.t.d.fact 3 (f := .free "enumerate") rfl),
      fr_int := He.free_ok X G (c.t.d.fact 4 (f := .free "int") rfl),
      fr_isinstance := He.free_ok X G (c.t.d.fact 5 (f := .free "isinstance") rfl),
      fr_len := He.free_ok X G (c.t.d.fact 6 (f := .free "len") rfl),
      fr_list := He.free_ok X G (c.t.d.fact 7 (f := .free "list") rfl),
      fr_max := He.free_ok X G (c.t.d.fact 8 (f := .free "max") rfl),
      fr_range := He.free_ok X G (c.t.d.fact 9 (f := .free "range") rfl),
      fr_set := He.free_ok X G (c.t.d.fact 10 (f := .free "set") rfl),
      fr_sorted := He.free_ok X G (c.t.d.fact 11 (f := .free "sorted") rfl),
      fr_str := He.free_ok X G (c.t.d.fact 12 (f := .free "str") rfl),
      fr_sum := He.free_ok X G (c.t.d.fact 13 (f := .free "sum") rfl),
      fr_tuple := He.free_ok X G (c.t.d.fact 14 (f := .free "tuple") rfl),
      fr_zip := He.free_ok X G (c.t.d.fact 15 (f := .free "zip") rfl),
      gl_InvalidAllotment := He.glo_ok X G (c.t.d.fact 16 (f := .glo "InvalidAllotment") rfl),
      gl_InvalidBidder := He.glo_ok X G (c.t.d.fact 17 (f := .glo "InvalidBidder") rfl),
      gl_InvalidBids := He.glo_ok X G (c.t.d.fact 18 (f := .glo "InvalidBids") rfl),
      gl_InvalidLots := He.glo_ok X G (c.t.d.fact 19 (f := .glo "InvalidLots") rfl),
      gl_InvalidNumber := He.glo_ok X G (c.t.d.fact 20 (f := .glo "InvalidNumber") rfl),
      gl_InvalidPrices := He.glo_ok X G (c.t.d.fact 21 (f := .glo "InvalidPrices") rfl),
      gl_InvalidSale := He.glo_ok X G (c.t.d.fact 22 (f := .glo "InvalidSale") rfl),
      gl_InvalidSet := He.glo_ok X G (c.t.d.fact 23 (f := .glo "InvalidSet") rfl),
      gl_NotPossible := He.glo_ok X G (c.t.d.fact 24 (f := .glo "NotPossible") rfl),
      gl_RegistryError := He.glo_ok X G (c.t.d.fact 25 (f := .glo "RegistryError") rfl),
      gl_TooMany := He.glo_ok X G (c.t.d.fact 26 (f := .glo "TooMany") rfl),
      gl__law_bidders_right := He.glo_ok X G (c.t.d.fact 27 (f := .glo "_law_bidders_right") rfl),
      gl__law_cup := He.glo_ok X G (c.t.d.fact 28 (f := .glo "_law_cup") rfl),
      gl__law_error := He.glo_ok X G (c.t.d.fact 29 (f := .glo "_law_error") rfl),
      gl__law_odd_allotments := He.glo_ok X G (c.t.d.fact 30 (f := .glo "_law_odd_allotments") rfl),
      gl__law_odd_prices := He.glo_ok X G (c.t.d.fact 31 (f := .glo "_law_odd_prices") rfl),
      gl__law_odd_sales := He.glo_ok X G (c.t.d.fact 32 (f := .glo "_law_odd_sales") rfl),
      gl__law_prices_right := He.glo_ok X G (c.t.d.fact 33 (f := .glo "_law_prices_right") rfl),
      gl__law_roll := He.glo_ok X G (c.t.d.fact 34 (f := .glo "_law_roll") rfl),
      gl__law_rows_right := He.glo_ok X G (c.t.d.fact 35 (f := .glo "_law_rows_right") rfl),
      gl__law_sales_right := He.glo_ok X G (c.t.d.fact 36 (f := .glo "_law_sales_right") rfl),
      gl__law_some := He.glo_ok X G (c.t.d.fact 37 (f := .glo "_law_some") rfl),
      gl_best_allotment := He.glo_ok X G (c.t.d.fact 38 (f := .glo "best_allotment") rfl),
      gl_chain_paper := He.glo_ok X G (c.t.d.fact 39 (f := .glo "chain_paper") rfl),
      gl_checked := He.glo_ok X G (c.t.d.fact 40 (f := .glo "checked") rfl),
      gl_checked_pair := He.glo_ok X G (c.t.d.fact 41 (f := .glo "checked_pair") rfl),
      gl_demand_of := He.glo_ok X G (c.t.d.fact 42 (f := .glo "demand_of") rfl),
      gl_fallen := He.glo_ok X G (c.t.d.fact 43 (f := .glo "fallen") rfl),
      gl_gain_in := He.glo_ok X G (c.t.d.fact 44 (f := .glo "gain_in") rfl),
      gl_gain_of := He.glo_ok X G (c.t.d.fact 45 (f := .glo "gain_of") rfl),
      gl_goes_in := He.glo_ok X G (c.t.d.fact 46 (f := .glo "goes_in") rfl),
      gl_goes_with := He.glo_ok X G (c.t.d.fact 47 (f := .glo "goes_with") rfl),
      gl_greatest_in := He.glo_ok X G (c.t.d.fact 48 (f := .glo "greatest_in") rfl),
      gl_greatest_prices := He.glo_ok X G (c.t.d.fact 49 (f := .glo "greatest_prices") rfl),
      gl_greatest_worth := He.glo_ok X G (c.t.d.fact 50 (f := .glo "greatest_worth") rfl),
      gl_holders_by := He.glo_ok X G (c.t.d.fact 51 (f := .glo "holders_by") rfl),
      gl_holders_of := He.glo_ok X G (c.t.d.fact 52 (f := .glo "holders_of") rfl),
      gl_is_allotment := He.glo_ok X G (c.t.d.fact 53 (f := .glo "is_allotment") rfl),
      gl_is_competitive := He.glo_ok X G (c.t.d.fact 54 (f := .glo "is_competitive") rfl),
      gl_is_competitive_in := He.glo_ok X G (c.t.d.fact 55 (f := .glo "is_competitive_in") rfl),
      gl_is_loose := He.glo_ok X G (c.t.d.fact 56 (f := .glo "is_loose") rfl),
      gl_is_overdemanded := He.glo_ok X G (c.t.d.fact 57 (f := .glo "is_overdemanded") rfl),
      gl_is_pair := He.glo_ok X G (c.t.d.fact 58 (f := .glo "is_pair") rfl),
      gl_is_row := He.glo_ok X G (c.t.d.fact 59 (f := .glo "is_row") rfl),
      gl_is_sale := He.glo_ok X G (c.t.d.fact 60 (f := .glo "is_sale") rfl),
      gl_is_tuple_of := He.glo_ok X G (c.t.d.fact 61 (f := .glo "is_tuple_of") rfl),
      gl_is_underdemanded := He.glo_ok X G (c.t.d.fact 62 (f := .glo "is_underdemanded") rfl),
      gl_is_whole := He.glo_ok X G (c.t.d.fact 63 (f := .glo "is_whole") rfl),
      gl_least_in := He.glo_ok X G (c.t.d.fact 64 (f := .glo "least_in") rfl),
      gl_least_prices := He.glo_ok X G (c.t.d.fact 65 (f := .glo "least_prices") rfl),
      gl_let_in := He.glo_ok X G (c.t.d.fact 66 (f := .glo "let_in") rfl),
      gl_loose := He.glo_ok X G (c.t.d.fact 67 (f := .glo "loose") rfl),
      gl_menu := He.glo_ok X G (c.t.d.fact 68 (f := .glo "menu") rfl),
      gl_names_by := He.glo_ok X G (c.t.d.fact 69 (f := .glo "names_by") rfl),
      gl_need_allotment := He.glo_ok X G (c.t.d.fact 70 (f := .glo "need_allotment") rfl),
      gl_need_bidder := He.glo_ok X G (c.t.d.fact 71 (f := .glo "need_bidder") rfl),
      gl_need_lots := He.glo_ok X G (c.t.d.fact 72 (f := .glo "need_lots") rfl),
      gl_need_prices := He.glo_ok X G (c.t.d.fact 73 (f := .glo "need_prices") rfl),
      gl_need_row := He.glo_ok X G (c.t.d.fact 74 (f := .glo "need_row") rfl),
      gl_need_sale := He.glo_ok X G (c.t.d.fact 75 (f := .glo "need_sale") rfl),
      gl_need_set := He.glo_ok X G (c.t.d.fact 76 (f := .glo "need_set") rfl),
      gl_need_whole := He.glo_ok X G (c.t.d.fact 77 (f := .glo "need_whole") rfl),
      gl_options_by := He.glo_ok X G (c.t.d.fact 78 (f := .glo "options_by") rfl),
      gl_other_ways := He.glo_ok X G (c.t.d.fact 79 (f := .glo "other_ways") rfl),
      gl_overdemanded := He.glo_ok X G (c.t.d.fact 80 (f := .glo "overdemanded") rfl),
      gl_raised := He.glo_ok X G (c.t.d.fact 81 (f := .glo "raised") rfl),
      gl_raised_by := He.glo_ok X G (c.t.d.fact 82 (f := .glo "raised_by") rfl),
      gl_raises := He.glo_ok X G (c.t.d.fact 83 (f := .glo "raises") rfl),
      gl_risen := He.glo_ok X G (c.t.d.fact 84 (f := .glo "risen") rfl),
      gl_sale_without := He.glo_ok X G (c.t.d.fact 85 (f := .glo "sale_without") rfl),
      gl_surplus_of := He.glo_ok X G (c.t.d.fact 86 (f := .glo "surplus_of") rfl),
      gl_takes_chains := He.glo_ok X G (c.t.d.fact 87 (f := .glo "takes_chains") rfl),
      gl_takes_raises := He.glo_ok X G (c.t.d.fact 88 (f := .glo "takes_raises") rfl),
      gl_told_allotment := He.glo_ok X G (c.t.d.fact 89 (f := .glo "told_allotment") rfl),
      gl_underdemanded := He.glo_ok X G (c.t.d.fact 90 (f := .glo "underdemanded") rfl),
      gl_ways_from := He.glo_ok X G (c.t.d.fact 91 (f := .glo "ways_from") rfl),
      gl_with_bidder := He.glo_ok X G (c.t.d.fact 92 (f := .glo "with_bidder") rfl),
      gl_with_name := He.glo_ok X G (c.t.d.fact 93 (f := .glo "with_name") rfl),
      gl_without_bidder := He.glo_ok X G (c.t.d.fact 94 (f := .glo "without_bidder") rfl),
      gl_without_name := He.glo_ok X G (c.t.d.fact 95 (f := .glo "without_name") rfl),
      gl_worth_in := He.glo_ok X G (c.t.d.fact 96 (f := .glo "worth_in") rfl),
      gl_worth_of := He.glo_ok X G (c.t.d.fact 97 (f := .glo "worth_of") rfl),
      gi_BIDDERS := He.int_ok X G (c.t.d.fact 98 (f := .int "BIDDERS" 30) rfl),
      gi_NAMES := He.int_ok X G (c.t.d.fact 99 (f := .int "NAMES" 16) rfl),
      gi_NONE := He.int_ok X G (c.t.d.fact 100 (f := .int "NONE" (-1)) rfl),
      gi_NUMBER := He.int_ok X G (c.t.d.fact 101 (f := .int "NUMBER" 1000000) rfl),
      gi_PRICE := He.int_ok X G (c.t.d.fact 102 (f := .int "PRICE" 2000000) rfl),
      ex_InvalidAllotment := He.exc_ok (c.t.d.fact 103 (f := .exc "InvalidAllotment") rfl),
      ex_InvalidBidder := He.exc_ok (c.t.d.fact 104 (f := .exc "InvalidBidder") rfl),
      ex_InvalidBids := He.exc_ok (c.t.d.fact 105 (f := .exc "InvalidBids") rfl),
      ex_InvalidLots := He.exc_ok (c.t.d.fact 106 (f := .exc "InvalidLots") rfl),
      ex_InvalidNumber := He.exc_ok (c.t.d.fact 107 (f := .exc "InvalidNumber") rfl),
      ex_InvalidPrices := He.exc_ok (c.t.d.fact 108 (f := .exc "InvalidPrices") rfl),
      ex_InvalidSale := He.exc_ok (c.t.d.fact 109 (f := .exc "InvalidSale") rfl),
      ex_InvalidSet := He.exc_ok (c.t.d.fact 110 (f := .exc "InvalidSet") rfl),
      ex_NotPossible := He.exc_ok (c.t.d.fact 111 (f := .exc "NotPossible") rfl),
      fd__law_error := c.t.d.def_ 0 (d := ⟨("_law_error", none), "_law_error", "_law_error", defArgs s__law_error, defBody s__law_error, defScope s__law_error, [], []⟩) rfl,
      fd__law_odd_allotments := c.t.d.def_ 1 (d := ⟨("_law_odd_allotments", none), "_law_odd_allotments", "_law_odd_allotments", defArgs s__law_odd_allotments, defBody s__law_odd_allotments, defScope s__law_odd_allotments, [], []⟩) rfl,
      fd_ways_from := c.t.d.def_ 2 (d := ⟨("ways_from", none), "ways_from", "ways_from", defArgs s_ways_from, defBody s_ways_from, defScope s_ways_from, [], []⟩) rfl,
      fd_let_in := c.t.d.def_ 3 (d := ⟨("let_in", none), "let_in", "let_in", defArgs s_let_in, defBody s_let_in, defScope s_let_in, [], []⟩) rfl,
      fd_surplus_of := c.t.d.def_ 4 (d := ⟨("surplus_of", none), "surplus_of", "surplus_of", defArgs s_surplus_of, defBody s_surplus_of, defScope s_surplus_of, [], []⟩) rfl,
      fd_holders_of := c.t.d.def_ 5 (d := ⟨("holders_of", none), "holders_of", "holders_of", defArgs s_holders_of, defBody s_holders_of, defScope s_holders_of, [], []⟩) rfl,
      fd_names_by := c.t.d.def_ 6 (d := ⟨("names_by", none), "names_by", "names_by", defArgs s_names_by, defBody s_names_by, defScope s_names_by, [], []⟩) rfl,
      fd_other_ways := c.t.d.def_ 7 (d := ⟨("other_ways", none), "other_ways", "other_ways", defArgs s_other_ways, defBody s_other_ways, defScope s_other_ways, [], []⟩) rfl,
      fd_greatest_in := c.t.d.def_ 8 (d := ⟨("greatest_in", none), "greatest_in", "greatest_in", defArgs s_greatest_in, defBody s_greatest_in, defScope s_greatest_in, [], []⟩) rfl,
      fd_is_whole := c.t.d.def_ 9 (d := ⟨("is_whole", none), "is_whole", "is_whole", defArgs s_is_whole, defBody s_is_whole, defScope s_is_whole, [], []⟩) rfl,
      fd_need_bidder := c.t.d.def_ 10 (d := ⟨("need_bidder", none), "need_bidder", "need_bidder", defArgs s_need_bidder, defBody s_need_bidder, defScope s_need_bidder, [], []⟩) rfl,
      fd_is_tuple_of := c.t.d.def_ 11 (d := ⟨("is_tuple_of", none), "is_tuple_of", "is_tuple_of", defArgs s_is_tuple_of, defBody s_is_tuple_of, defScope s_is_tuple_of, [], []⟩) rfl,
      fd_is_row := c.t.d.def_ 12 (d := ⟨("is_row", none), "is_row", "is_row", defArgs s_is_row, defBody s_is_row, defScope s_is_row, [], []⟩) rfl,
      fd_is_sale := c.t.d.def_ 13 (d := ⟨("is_sale", none), "is_sale", "is_sale", defArgs s_is_sale, defBody s_is_sale, defScope s_is_sale, [], []⟩) rfl,
      fd_need_sale := c.t.d.def_ 14 (d := ⟨("need_sale", none), "need_sale", "need_sale", defArgs s_need_sale, defBody s_need_sale, defScope s_need_sale, [], []⟩) rfl,
      fd_sale_without := c.t.d.def_ 15 (d := ⟨("sale_without", none), "sale_without", "sale_without", defArgs s_sale_without, defBody s_sale_without, defScope s_sale_without, [], []⟩) rfl,
      fd_menu := c.t.d.def_ 16 (d := ⟨("menu", none), "menu", "menu", defArgs s_menu, defBody s_menu, defScope s_menu, [], []⟩) rfl,
      fd_need_row := c.t.d.def_ 17 (d := ⟨("need_row", none), "need_row", "need_row", defArgs s_need_row, defBody s_need_row, defScope s_need_row, [], []⟩) rfl,
      fd_options_by := c.t.d.def_ 18 (d := ⟨("options_by", none), "options_by", "options_by", defArgs s_options_by, defBody s_options_by, defScope s_options_by, [], []⟩) rfl,
      fd_need_prices := c.t.d.def_ 19 (d := ⟨("need_prices", none), "need_prices", "need_prices", defArgs s_need_prices, defBody s_need_prices, defScope s_need_prices, [], []⟩) rfl,
      fd_checked := c.t.d.def_ 20 (d := ⟨("checked", none), "checked", "checked", defArgs s_checked, defBody s_checked, defScope s_checked, [], []⟩) rfl,
      fd_gain_in := c.t.d.def_ 21 (d := ⟨("gain_in", none), "gain_in", "gain_in", defArgs s_gain_in, defBody s_gain_in, defScope s_gain_in, [], []⟩) rfl,
      fd_holders_by := c.t.d.def_ 22 (d := ⟨("holders_by", none), "holders_by", "holders_by", defArgs s_holders_by, defBody s_holders_by, defScope s_holders_by, [], []⟩) rfl,
      fd_goes_in := c.t.d.def_ 23 (d := ⟨("goes_in", none), "goes_in", "goes_in", defArgs s_goes_in, defBody s_goes_in, defScope s_goes_in, [], []⟩) rfl,
      fd_is_pair := c.t.d.def_ 24 (d := ⟨("is_pair", none), "is_pair", "is_pair", defArgs s_is_pair, defBody s_is_pair, defScope s_is_pair, [], []⟩) rfl,
      fd_is_allotment := c.t.d.def_ 25 (d := ⟨("is_allotment", none), "is_allotment", "is_allotment", defArgs s_is_allotment, defBody s_is_allotment, defScope s_is_allotment, [], []⟩) rfl,
      fd_need_allotment := c.t.d.def_ 26 (d := ⟨("need_allotment", none), "need_allotment", "need_allotment", defArgs s_need_allotment, defBody s_need_allotment, defScope s_need_allotment, [], []⟩) rfl,
      fd_checked_pair := c.t.d.def_ 27 (d := ⟨("checked_pair", none), "checked_pair", "checked_pair", defArgs s_checked_pair, defBody s_checked_pair, defScope s_checked_pair, [], []⟩) rfl,
      fd_takes_chains := c.t.d.def_ 28 (d := ⟨("takes_chains", none), "takes_chains", "takes_chains", defArgs s_takes_chains, defBody s_takes_chains, defScope s_takes_chains, [], []⟩) rfl,
      fd_worth_of := c.t.d.def_ 29 (d := ⟨("worth_of", none), "worth_of", "worth_of", defArgs s_worth_of, defBody s_worth_of, defScope s_worth_of, [], []⟩) rfl,
      fd_worth_in := c.t.d.def_ 30 (d := ⟨("worth_in", none), "worth_in", "worth_in", defArgs s_worth_in, defBody s_worth_in, defScope s_worth_in, [], []⟩) rfl,
      fd_is_competitive_in := c.t.d.def_ 31 (d := ⟨("is_competitive_in", none), "is_competitive_in", "is_competitive_in", defArgs s_is_competitive_in, defBody s_is_competitive_in, defScope s_is_competitive_in, [], []⟩) rfl,
      fd_is_competitive := c.t.d.def_ 32 (d := ⟨("is_competitive", none), "is_competitive", "is_competitive", defArgs s_is_competitive, defBody s_is_competitive, defScope s_is_competitive, [], []⟩) rfl,
      fd_overdemanded := c.t.d.def_ 33 (d := ⟨("overdemanded", none), "overdemanded", "overdemanded", defArgs s_overdemanded, defBody s_overdemanded, defScope s_overdemanded, [], []⟩) rfl,
      fd_underdemanded := c.t.d.def_ 34 (d := ⟨("underdemanded", none), "underdemanded", "underdemanded", defArgs s_underdemanded, defBody s_underdemanded, defScope s_underdemanded, [], []⟩) rfl,
      fd_loose := c.t.d.def_ 35 (d := ⟨("loose", none), "loose", "loose", defArgs s_loose, defBody s_loose, defScope s_loose, [], []⟩) rfl,
      fd_takes_raises := c.t.d.def_ 36 (d := ⟨("takes_raises", none), "takes_raises", "takes_raises", defArgs s_takes_raises, defBody s_takes_raises, defScope s_takes_raises, [], []⟩) rfl,
      fd_need_lots := c.t.d.def_ 37 (d := ⟨("need_lots", none), "need_lots", "need_lots", defArgs s_need_lots, defBody s_need_lots, defScope s_need_lots, [], []⟩) rfl,
      fd_told_allotment := c.t.d.def_ 38 (d := ⟨("told_allotment", none), "told_allotment", "told_allotment", defArgs s_told_allotment, defBody s_told_allotment, defScope s_told_allotment, [], []⟩) rfl,
      fd_with_bidder := c.t.d.def_ 39 (d := ⟨("with_bidder", none), "with_bidder", "with_bidder", defArgs s_with_bidder, defBody s_with_bidder, defScope s_with_bidder, [], []⟩) rfl,
      fd_without_bidder := c.t.d.def_ 40 (d := ⟨("without_bidder", none), "without_bidder", "without_bidder", defArgs s_without_bidder, defBody s_without_bidder, defScope s_without_bidder, [], []⟩) rfl,
      fd_need_whole := c.t.d.def_ 41 (d := ⟨("need_whole", none), "need_whole", "need_whole", defArgs s_need_whole, defBody s_need_whole, defScope s_need_whole, [], []⟩) rfl,
      fd_without_name := c.t.d.def_ 42 (d := ⟨("without_name", none), "without_name", "without_name", defArgs s_without_name, defBody s_without_name, defScope s_without_name, [], []⟩) rfl,
      fd_least_in := c.t.d.def_ 43 (d := ⟨("least_in", none), "least_in", "least_in", defArgs s_least_in, defBody s_least_in, defScope s_least_in, [], []⟩) rfl,
      fd_risen := c.t.d.def_ 44 (d := ⟨("risen", none), "risen", "risen", defArgs s_risen, defBody s_risen, defScope s_risen, [], []⟩) rfl,
      fd_gain_of := c.t.d.def_ 45 (d := ⟨("gain_of", none), "gain_of", "gain_of", defArgs s_gain_of, defBody s_gain_of, defScope s_gain_of, [], []⟩) rfl,
      fd_demand_of := c.t.d.def_ 46 (d := ⟨("demand_of", none), "demand_of", "demand_of", defArgs s_demand_of, defBody s_demand_of, defScope s_demand_of, [], []⟩) rfl,
      fd_goes_with := c.t.d.def_ 47 (d := ⟨("goes_with", none), "goes_with", "goes_with", defArgs s_goes_with, defBody s_goes_with, defScope s_goes_with, [], []⟩) rfl,
      fd_need_set := c.t.d.def_ 48 (d := ⟨("need_set", none), "need_set", "need_set", defArgs s_need_set, defBody s_need_set, defScope s_need_set, [], []⟩) rfl,
      fd_is_overdemanded := c.t.d.def_ 49 (d := ⟨("is_overdemanded", none), "is_overdemanded", "is_overdemanded", defArgs s_is_overdemanded, defBody s_is_overdemanded, defScope s_is_overdemanded, [], []⟩) rfl,
      fd_is_underdemanded := c.t.d.def_ 50 (d := ⟨("is_underdemanded", none), "is_underdemanded", "is_underdemanded", defArgs s_is_underdemanded, defBody s_is_underdemanded, defScope s_is_underdemanded, [], []⟩) rfl,
      fd_is_loose := c.t.d.def_ 51 (d := ⟨("is_loose", none), "is_loose", "is_loose", defArgs s_is_loose, defBody s_is_loose, defScope s_is_loose, [], []⟩) rfl,
      fd_raised_by := c.t.d.def_ 52 (d := ⟨("raised_by", none), "raised_by", "raised_by", defArgs s_raised_by, defBody s_raised_by, defScope s_raised_by, [], []⟩) rfl,
      fd_raised := c.t.d.def_ 53 (d := ⟨("raised", none), "raised", "raised", defArgs s_raised, defBody s_raised, defScope s_raised, [], []⟩) rfl,
      fd_chain_paper := c.t.d.def_ 54 (d := ⟨("chain_paper", none), "chain_paper", "chain_paper", defArgs s_chain_paper, defBody s_chain_paper, defScope s_chain_paper, [], []⟩) rfl,
      fd_with_name := c.t.d.def_ 55 (d := ⟨("with_name", none), "with_name", "with_name", defArgs s_with_name, defBody s_with_name, defScope s_with_name, [], []⟩) rfl,
      fd_fallen := c.t.d.def_ 56 (d := ⟨("fallen", none), "fallen", "fallen", defArgs s_fallen, defBody s_fallen, defScope s_fallen, [], []⟩) rfl,
      fd__law_bidders_right := c.t.d.def_ 57 (d := ⟨("_law_bidders_right", none), "_law_bidders_right", "_law_bidders_right", defArgs s__law_bidders_right, defBody s__law_bidders_right, defScope s__law_bidders_right, [], []⟩) rfl,
      fd__law_cup := c.t.d.def_ 58 (d := ⟨("_law_cup", none), "_law_cup", "_law_cup", defArgs s__law_cup, defBody s__law_cup, defScope s__law_cup, [], []⟩) rfl,
      fd__law_odd_sales := c.t.d.def_ 59 (d := ⟨("_law_odd_sales", none), "_law_odd_sales", "_law_odd_sales", defArgs s__law_odd_sales, defBody s__law_odd_sales, defScope s__law_odd_sales, [], []⟩) rfl,
      fd__law_odd_prices := c.t.d.def_ 60 (d := ⟨("_law_odd_prices", none), "_law_odd_prices", "_law_odd_prices", defArgs s__law_odd_prices, defBody s__law_odd_prices, defScope s__law_odd_prices, [], []⟩) rfl,
      fd__law_prices_right := c.t.d.def_ 61 (d := ⟨("_law_prices_right", none), "_law_prices_right", "_law_prices_right", defArgs s__law_prices_right, defBody s__law_prices_right, defScope s__law_prices_right, [], []⟩) rfl,
      fd__law_rows_right := c.t.d.def_ 62 (d := ⟨("_law_rows_right", none), "_law_rows_right", "_law_rows_right", defArgs s__law_rows_right, defBody s__law_rows_right, defScope s__law_rows_right, [], []⟩) rfl,
      fd_greatest_worth := c.t.d.def_ 63 (d := ⟨("greatest_worth", none), "greatest_worth", "greatest_worth", defArgs s_greatest_worth, defBody s_greatest_worth, defScope s_greatest_worth, [], []⟩) rfl,
      fd_best_allotment := c.t.d.def_ 64 (d := ⟨("best_allotment", none), "best_allotment", "best_allotment", defArgs s_best_allotment, defBody s_best_allotment, defScope s_best_allotment, [], []⟩) rfl,
      fd_least_prices := c.t.d.def_ 65 (d := ⟨("least_prices", none), "least_prices", "least_prices", defArgs s_least_prices, defBody s_least_prices, defScope s_least_prices, [], []⟩) rfl,
      fd_greatest_prices := c.t.d.def_ 66 (d := ⟨("greatest_prices", none), "greatest_prices", "greatest_prices", defArgs s_greatest_prices, defBody s_greatest_prices, defScope s_greatest_prices, [], []⟩) rfl,
      fd_raises := c.t.d.def_ 67 (d := ⟨("raises", none), "raises", "raises", defArgs s_raises, defBody s_raises, defScope s_raises, [], []⟩) rfl,
      fd__law_sales_right := c.t.d.def_ 68 (d := ⟨("_law_sales_right", none), "_law_sales_right", "_law_sales_right", defArgs s__law_sales_right, defBody s__law_sales_right, defScope s__law_sales_right, [], []⟩) rfl,
      fd__law_roll := c.t.d.def_ 69 (d := ⟨("_law_roll", none), "_law_roll", "_law_roll", defArgs s__law_roll, defBody s__law_roll, defScope s__law_roll, [], []⟩) rfl,
      fd__law_some := c.t.d.def_ 70 (d := ⟨("_law_some", none), "_law_some", "_law_some", defArgs s__law_some, defBody s__law_some, defScope s__law_some, [], []⟩) rfl,
      fd_law := c.t.d.def_ 71 (d := ⟨("law", none), "law", "law", defArgs s_law, defBody s_law, defScope s_law, [], []⟩) rfl,
      la__law_bidders_right := lamFact_of (x := "_law_bidders_right") rfl (c.t.d.def_ 57 (d := ⟨("_law_bidders_right", none), "_law_bidders_right", "_law_bidders_right", defArgs s__law_bidders_right, defBody s__law_bidders_right, defScope s__law_bidders_right, [], []⟩) rfl) (by decide) hn TB,
      la__law_prices_right := lamFact_of (x := "_law_prices_right") rfl (c.t.d.def_ 61 (d := ⟨("_law_prices_right", none), "_law_prices_right", "_law_prices_right", defArgs s__law_prices_right, defBody s__law_prices_right, defScope s__law_prices_right, [], []⟩) rfl) (by decide) hn TB,
      la__law_rows_right := lamFact_of (x := "_law_rows_right") rfl (c.t.d.def_ 62 (d := ⟨("_law_rows_right", none), "_law_rows_right", "_law_rows_right", defArgs s__law_rows_right, defBody s__law_rows_right, defScope s__law_rows_right, [], []⟩) rfl) (by decide) hn TB,
      la__law_sales_right := lamFact_of (x := "_law_sales_right") rfl (c.t.d.def_ 68 (d := ⟨("_law_sales_right", none), "_law_sales_right", "_law_sales_right", defArgs s__law_sales_right, defBody s__law_sales_right, defScope s__law_sales_right, [], []⟩) rfl) (by decide) hn TB,
      la_law := lamFact_of (x := "law") rfl (c.t.d.def_ 71 (d := ⟨("law", none), "law", "law", defArgs s_law, defBody s_law, defScope s_law, [], []⟩) rfl) (by decide) hn TB,
      ct_ := clsT_of hc }
  obtain ⟨fd, F⟩ := c.t.d.def_ 71 (d := ⟨("law", none), "law", "law", defArgs s_law, defBody s_law, defScope s_law, [], []⟩) rfl
  have e := hfa.symm.trans (He.glo_ok X G (c.t.d.fact 112 (f := .glo "law") rfl))
  cases e
  have b := FunD.bindsA (ps := ["script"]) F fun _ _ _ _ _ _ us hl => match us, hl with | [_], _ => rfl
  refine law_end (nm := nm_) (tf := tf_) (F := F_law) X F (fun s v => b s [v] rfl) c.empty c.out c.hd (fun base _ _ TB => ?_) hT
  exact fn_evX (g := gg_ K) (N := ["script", "cup", "sale", "odd", "one"]) (ps := ["script"]) F sc_law rfl rfl fun cdv A outer s H E ⟨oc, od, osl, h1, h2⟩ ok => b_law (g := gg_ K) (Z base TB) cdv A outer s H E ⟨oc, od, fd, osl, h1, h2⟩ ok
theorem holds_ (hT : ∀ ns : List Int, ns.length ≤ 63 → (∀ z ∈ ns, Builtin.Int.intBits z ≤ 1048576) → ∃ cs, F_law [.val (.scr ns)] [] = .ok (.bl true) cs) : PySem.Challenge.rw_soleholder_k54_errors_of_sales.Holds := by
  open PySem PySem.W PySem.Calls PyProof.Rows in
  w_on; o_law
  refine HandSHeadRun.head_any (r := OpenLaw.row PySem.Challenge.rw_soleholder_k54_errors_of_sales) (q := view (OpenLaw.row PySem.Challenge.rw_soleholder_k54_errors_of_sales).prog [118]) (H := hk_) (ob := ob_) (M := 20000) (loose := loose_) (d := HandSHeadRun.topDef (OpenLaw.row PySem.Challenge.rw_soleholder_k54_errors_of_sales).prog 118) (kwd := []) ob_eq
    (by kernel_rfl) (fun s => by kernel_rfl) run_ (by kernel_rfl) (by kernel_rfl) (by kernel_rfl) (by rfl) (by first | assumption | decide +kernel) (by decide +kernel) ⟨rfl, rfl, rfl, rfl, rfl, by decide +kernel⟩ ?hw ?hc
  case hw => w_witness2
  case hc =>
    refine LamX.walk_ofTsE (l := PySem.Challenge.rw_soleholder_k54_errors_of_sales) (n := 63) (k := 24) (x := "script") (CX := fun w => L2N.CX (PySem.Challenge.rw_soleholder_k54_errors_of_sales).prog w) rfl (by decide) (by kernel_rfl) ⟨rfl, by decide, by decide⟩ ?F (fun w H s e s' z => noCX z)
    intro w mg fa h Y G hmg0
    obtain ⟨K, KX, c⟩ := Y
    have hmg : mg ("law" : PySem.Str) = some (.ref fa) := by
      have e : (HandSHeadRun.topDef (OpenLaw.row PySem.Challenge.rw_soleholder_k54_errors_of_sales).prog 118).name = ("law" : PySem.Str) := by kernel_rfl
      rw [← e]
      exact hmg0
    exact ⟨K, KX, facts_ KX G hmg c hT⟩
end K54

set_option Elab.async false
set_option linter.all false
set_option maxRecDepth 1000000
set_option maxHeartbeats 4000000
/-! k54, the plain law. -/
namespace K54
open PySem Ev
theorem pw_ : (10 : Int) ^ 18 = 1000000000000000000 := by decide +kernel
theorem sm1_ : Ev.small64 311 = true := by decide +kernel
theorem sm2_ : Ev.small64 30757 = true := by decide +kernel
theorem at0_ {α : Type} (x : α) (xs : List α) : L2.atI (x :: xs) 0 = some x := by
  unfold L2.atI L2.ixN
  rw [if_pos (Int.le_refl _), if_pos (by simp only [List.length_cons]; omega)]
  rfl
theorem at1_ {α : Type} (x y : α) (xs : List α) : L2.atI (x :: y :: xs) 1 = some y := by
  unfold L2.atI L2.ixN
  rw [if_pos (by decide), if_pos (by simp only [List.length_cons]; omega)]
  rfl
theorem ix0_ : L2.ixN 2 0 = some 0 := by decide
theorem ix1_ : L2.ixN 2 1 = some 1 := by decide
theorem cup_ (ns : List Int) (h : ns.length ≤ 63) : ∃ a b : Int, F__law_cup [.val (.scr ns)] [] = .ok [.int a, .int b] [] := by
  have key : ∀ c : Int, ∃ a b : Int, (sRetF (fLst (aCons (eIf (Ev.tB (e2 pGe (eVar 1) (e2 pPow (eC (.int 10)) (eC (.int 18))))) (e2 pDiv (eVar 1) (eC (.int 83))) (eC (.int 0))) (aCons (e2 pAdd (e2 pMod (eCall bInt (aCons (e2 pAdd (e2 pMulA (eVar 1) (eC (.int 311))) (eC (.int 4597))) aNil)) (eC (.int 2061584333))) (eC (.int 179))) aNil))))
      [some (.val (.scr ns)), some (.val (.int c))] [] = .rtF [.int a, .int b] [] := fun c => by
    by_cases hc : (10 : Int) ^ 18 ≤ c
    · refine ⟨c / 83, (c * 311 + 4597) % 2061584333 + 179, ?_⟩
      rw [pw_] at hc
      simp [sRetF, fLst, fCall, aCons, aNil, eIf, Ev.tB, e2, eVar, eC, pGe, pPow, pDiv, pAdd, pMod, eCall, bInt, pMulA, pMul, sm1_, Res.bind, Res.lift, Res.st, hc]
    · refine ⟨0, (c * 311 + 4597) % 2061584333 + 179, ?_⟩
      rw [pw_] at hc
      simp [sRetF, fLst, fCall, aCons, aNil, eIf, Ev.tB, e2, eVar, eC, pGe, pPow, pDiv, pAdd, pMod, eCall, bInt, pMulA, pMul, sm1_, Res.bind, Res.lift, Res.st, hc]
  have fin : ∀ c : Int, (sSet 1 (eCall bAbs (aCons (e2s pIx (vE (eFr (f2s lAdd (vE (eFr (fCall lList (aCons (eVar 0) aNil)))) (vE (eFr (fLst (aCons (eC (.int 0)) aNil))))))) (vE (eC (.int 0)))) aNil))) [some (.val (.scr ns)), none] [] = .nx [some (.val (.scr ns)), some (.val (.int c))] [] → ∃ a b : Int, F__law_cup [.val (.scr ns)] [] = .ok [.int a, .int b] [] := fun c hc => by
    obtain ⟨a, b, e⟩ := key c
    refine ⟨a, b, ?_⟩
    show (match m__law_cup [some (.val (.scr ns)), none] [] with | .rtF v cs' => Res.ok v (cs'.take 0) | .exc e _ cs' => .exc e (cs'.take 0) | _ => .stuck) = _
    have : m__law_cup [some (.val (.scr ns)), none] [] = .rtF [.int a, .int b] [] := by
      unfold m__law_cup sSeq
      rw [hc]
      exact e
    rw [this]
    rfl
  cases ns with
  | nil => exact fin 0 rfl
  | cons n r =>
    refine fin (if n < 0 then -n else n) ?_
    have h1 : (r.length + 1) + 1 ≤ 16777216 := by simp at h; omega
    have h2 : (0 : Int) ≤ 0 := Int.le_refl _
    simp [sSet, eCall, bAbs, aCons, aNil, e2s, vE, eFr, f2s, fCall, eVar, eC, fLst, lAdd, lList, pIx, at0_, at1_, ix0_, ix1_, derefS, Res.bind, Res.lift, Res.st, h1]
theorem roll_ (a b : Int) : ∃ (k : Nat) (a' b' : Int), k < 9 ∧ F__law_roll [.cel 0, .val (.int 9)] [.lst [.int a, .int b]] = .ok (.int k) [.lst [.int a', .int b']] := by
  by_cases ha : 0 < a
  · refine ⟨(a % 9).toNat, a / 9, b, by omega, ?_⟩
    have : ((a % 9).toNat : Int) = a % 9 := by omega
    rw [this]
    simp [F__law_roll, m__law_roll, fnEv, sSeq, sSet, sIf, sAsg, sRet, sNil, gvSub, Ev.tB, vVar, eCall, bInt, aCons, aNil, e2s, vE, e2, eVar, eC, pGt, pIx, pDiv, pMod, at0_, at1_, ix0_, ix1_, derefS, Res.bind, Res.lift, Res.st, RS.bind, ha]
  · have hb0 : 0 ≤ (b * 30757 + 8219) % 2147483543 := by omega
    have hb1 : (b * 30757 + 8219) % 2147483543 < 2147483543 := by omega
    have hs : Ev.small64 ((b * 30757 + 8219) % 2147483543) = true := by
      unfold Ev.small64
      rw [Bool.and_eq_true, decide_eq_true_eq, decide_eq_true_eq]
      constructor <;> omega
    refine ⟨(((b * 30757 + 8219) % 2147483543 * ((b * 30757 + 8219) % 2147483543 + 251)) % 2147483587 / 829 % 9).toNat, a, (b * 30757 + 8219) % 2147483543, by omega, ?_⟩
    generalize hd : ((b * 30757 + 8219) % 2147483543 * ((b * 30757 + 8219) % 2147483543 + 251)) % 2147483587 = d
    have : ((d / 829 % 9).toNat : Int) = d / 829 % 9 := by omega
    rw [this]
    simp [F__law_roll, m__law_roll, fnEv, sSeq, sSet, sIf, sAsg, sRet, sNil, gvSub, Ev.tB, vVar, eCall, bInt, aCons, aNil, e2s, vE, e2, eVar, eC, pGt, pIx, pDiv, pMod, pAdd, pMulA, pMul, sm2_, hs, hd, at0_, at1_, ix0_, ix1_, derefS, Res.bind, Res.lift, Res.st, RS.bind, ha]
def odds_ : List PV := match F__law_odd_sales [] [] with
  | .ok (.lst xs) _ => xs
  | _ => []
theorem odds_eq (cs : Cs) : F__law_odd_sales [] cs = .ok (.lst odds_) (cs.take cs.length) := by kernel_rfl
theorem odds_len : odds_.length = 9 := by kernel_rfl
theorem some_ (a b : Int) : ∃ (k : Nat) (a' b' : Int), k < 9 ∧ ∀ x, odds_[k]? = some x → F__law_some [.cel 0, .val (.lst odds_)] [.lst [.int a, .int b]] = .ok x [.lst [.int a', .int b']] := by
  obtain ⟨k, a', b', hk, e⟩ := roll_ a b
  refine ⟨k, a', b', hk, fun x hx => ?_⟩
  have e1 : F__law_roll [.cel 0, .val (.int odds_.length)] [.lst [.int a, .int b]] = .ok (.int k) [.lst [.int a', .int b']] := by rw [odds_len]; exact e
  have e2 : L2.atI odds_ (k : Int) = some x := by
    unfold L2.atI L2.ixN
    rw [if_pos (by omega), if_pos (by rw [odds_len]; omega)]
    exact hx
  simp [F__law_some, m__law_some, fnEv, sRet, Ev.e2, eVar, vVar, eFn, zCons, zVal, zNil, eCall, bLen, aCons, aNil, pIx, Res.bind, Res.lift, Res.st, e1, e2]
end K54

set_option Elab.async false
set_option linter.all false
set_option maxRecDepth 1000000
set_option maxHeartbeats 4000000
/-! k54, the plain law: the nine draws, in the kernel. -/
namespace K54
open PySem Ev
def r_law : BF := (sSeq (sIf (tNot (tB (eFn F__law_sales_right (zVal (eVar 3) zNil)))) (sRet (eC (.bl false))) sNil)
  (sSeq (sIf (tB (e2s pNe (vE (eFr (fComp (aSeq (eFn F__law_odd_sales zNil)) (gN 4) (tB (e2 pNe (eErr cl_ tell_ (eFn F_least_prices (zVal (eVar 4) zNil))) (eC (.str "sale")))) (eVar 4) [4]))) (vE (eFr (fLst aNil))))) (sRet (eC (.bl false))) sNil)
  (sRet (eAnd (eFn F__law_prices_right (zVal (eVar 2) zNil)) (eAnd (eFn F__law_bidders_right (zVal (eVar 2) zNil)) (eFn F__law_rows_right (zVal (eVar 2) zNil)))))))
theorem m_law_eq : m_law = sSeq (sCell 1 (fFn F__law_cup (zVal (eVar 0) zNil))) (sSeq (sSet 2 (eTup (aCons (eTup (aCons (eC (.int 0)) (aCons (eC (.int 1)) aNil))) (aCons (eTup (aCons (eTup (aCons (eC (.int 5)) (aCons (eC (.int 4)) aNil))) (aCons (eTup (aCons (eC (.int 5)) (aCons (eC (.int 2)) aNil))) (aCons (eTup (aCons (eC (.int 3)) (aCons (eC (.int 0)) aNil))) aNil)))) aNil)))) (sSeq (sSet 3 (eFn F__law_some (zCons (vVar 1) (zVal (eFn F__law_odd_sales zNil) zNil)))) r_law)) := rfl
def sale_ : PV := match eC (.int 0) [] [] with
  | _ => .tup [.tup [.int 0, .int 1], .tup [.tup [.int 5, .int 4], .tup [.int 5, .int 2], .tup [.int 3, .int 0]]]
def ok_ : RS → Bool
  | .rt (.bl true) _ => true
  | _ => false
theorem ok_of {r : RS} (h : ok_ r = true) : ∃ cs, r = .rt (.bl true) cs := by
  unfold ok_ at h
  split at h
  · exact ⟨_, rfl⟩
  · cases h
theorem sSeq_nx {a b : BF} {sg sg' : Sg} {cs cs' : Cs} (h : a sg cs = .nx sg' cs') : sSeq a b sg cs = b sg' cs' := by unfold sSeq; rw [h]; rfl
theorem p_ (a b : Int) : F__law_prices_right [.val sale_] [.lst [.int a, .int b]] = .ok (.bl true) [.lst [.int a, .int b]] := by kernel_rfl
theorem q_ (a b : Int) : F__law_bidders_right [.val sale_] [.lst [.int a, .int b]] = .ok (.bl true) [.lst [.int a, .int b]] := by kernel_rfl
theorem w_ (a b : Int) : F__law_rows_right [.val sale_] [.lst [.int a, .int b]] = .ok (.bl true) [.lst [.int a, .int b]] := by kernel_rfl
theorem t5_ (ns : List Int) (x : PV) (a b : Int) : ((sIf (tB (e2s pNe (vE (eFr (fComp (aSeq (eFn F__law_odd_sales zNil)) (gN 4) (tB (e2 pNe (eErr cl_ tell_ (eFn F_least_prices (zVal (eVar 4) zNil))) (eC (.str "sale")))) (eVar 4) [4]))) (vE (eFr (fLst aNil))))) (sRet (eC (.bl false))) sNil)) [some (.val (.scr ns)), some (.cel 0), some (.val sale_), some (.val x), none] [.lst [.int a, .int b]] = .nx [some (.val (.scr ns)), some (.cel 0), some (.val sale_), some (.val x), none] [.lst [.int a, .int b]] := by kernel_rfl
theorem sr0_ (a b : Int) : ∃ x, odds_[0]? = some x ∧ F__law_sales_right [.val x] [.lst [.int a, .int b]] = .ok (.bl true) [.lst [.int a, .int b]] := ⟨_, rfl, by kernel_rfl⟩
theorem sr1_ (a b : Int) : ∃ x, odds_[1]? = some x ∧ F__law_sales_right [.val x] [.lst [.int a, .int b]] = .ok (.bl true) [.lst [.int a, .int b]] := ⟨_, rfl, by kernel_rfl⟩
theorem sr2_ (a b : Int) : ∃ x, odds_[2]? = some x ∧ F__law_sales_right [.val x] [.lst [.int a, .int b]] = .ok (.bl true) [.lst [.int a, .int b]] := ⟨_, rfl, by kernel_rfl⟩
theorem sr3_ (a b : Int) : ∃ x, odds_[3]? = some x ∧ F__law_sales_right [.val x] [.lst [.int a, .int b]] = .ok (.bl true) [.lst [.int a, .int b]] := ⟨_, rfl, by kernel_rfl⟩
theorem sr4_ (a b : Int) : ∃ x, odds_[4]? = some x ∧ F__law_sales_right [.val x] [.lst [.int a, .int b]] = .ok (.bl true) [.lst [.int a, .int b]] := ⟨_, rfl, by kernel_rfl⟩
theorem sr5_ (a b : Int) : ∃ x, odds_[5]? = some x ∧ F__law_sales_right [.val x] [.lst [.int a, .int b]] = .ok (.bl true) [.lst [.int a, .int b]] := ⟨_, rfl, by kernel_rfl⟩
theorem sr6_ (a b : Int) : ∃ x, odds_[6]? = some x ∧ F__law_sales_right [.val x] [.lst [.int a, .int b]] = .ok (.bl true) [.lst [.int a, .int b]] := ⟨_, rfl, by kernel_rfl⟩
theorem sr7_ (a b : Int) : ∃ x, odds_[7]? = some x ∧ F__law_sales_right [.val x] [.lst [.int a, .int b]] = .ok (.bl true) [.lst [.int a, .int b]] := ⟨_, rfl, by kernel_rfl⟩
theorem sr8_ (a b : Int) : ∃ x, odds_[8]? = some x ∧ F__law_sales_right [.val x] [.lst [.int a, .int b]] = .ok (.bl true) [.lst [.int a, .int b]] := ⟨_, rfl, by kernel_rfl⟩
theorem sr_ (k : Nat) (hk : k < 9) (x : PV) (hx : odds_[k]? = some x) (a b : Int) : F__law_sales_right [.val x] [.lst [.int a, .int b]] = .ok (.bl true) [.lst [.int a, .int b]] := by
  match k, hk with
  | 0, _ => obtain ⟨y, e1, e2⟩ := sr0_ a b; rw [e1] at hx; cases hx; exact e2
  | 1, _ => obtain ⟨y, e1, e2⟩ := sr1_ a b; rw [e1] at hx; cases hx; exact e2
  | 2, _ => obtain ⟨y, e1, e2⟩ := sr2_ a b; rw [e1] at hx; cases hx; exact e2
  | 3, _ => obtain ⟨y, e1, e2⟩ := sr3_ a b; rw [e1] at hx; cases hx; exact e2
  | 4, _ => obtain ⟨y, e1, e2⟩ := sr4_ a b; rw [e1] at hx; cases hx; exact e2
  | 5, _ => obtain ⟨y, e1, e2⟩ := sr5_ a b; rw [e1] at hx; cases hx; exact e2
  | 6, _ => obtain ⟨y, e1, e2⟩ := sr6_ a b; rw [e1] at hx; cases hx; exact e2
  | 7, _ => obtain ⟨y, e1, e2⟩ := sr7_ a b; rw [e1] at hx; cases hx; exact e2
  | 8, _ => obtain ⟨y, e1, e2⟩ := sr8_ a b; rw [e1] at hx; cases hx; exact e2
theorem law_ (ns : List Int) (h : ns.length ≤ 63) : ∃ cs, F_law [.val (.scr ns)] [] = .ok (.bl true) cs := by
  obtain ⟨a, b, e1⟩ := cup_ ns h
  obtain ⟨k, a', b', hk, e2⟩ := some_ a b
  obtain ⟨x, hx⟩ : ∃ x, odds_[k]? = some x := ⟨_, List.getElem?_eq_getElem (by rw [odds_len]; exact hk)⟩
  have e3 := e2 x hx
  refine ⟨[], ?_⟩
  have s1 : sCell 1 (fFn F__law_cup (zVal (eVar 0) zNil)) [some (.val (.scr ns)), none, none, none, none] [] = .nx [some (.val (.scr ns)), some (.cel 0), none, none, none] [.lst [.int a, .int b]] := by
    simp [sCell, fFn, zVal, zNil, eVar, Res.bind, Res.st, e1]
  have s3 : (sSet 3 (eFn F__law_some (zCons (vVar 1) (zVal (eFn F__law_odd_sales zNil) zNil)))) [some (.val (.scr ns)), some (.cel 0), some (.val sale_), none, none] [.lst [.int a, .int b]] = .nx [some (.val (.scr ns)), some (.cel 0), some (.val sale_), some (.val x), none] [.lst [.int a', .int b']] := by
    have e5 := odds_eq [.lst [.int a, .int b]]
    simp [sSet, eFn, zCons, zVal, zNil, vVar, e5, e3, Res.bind, Res.st]
  show (match m_law [some (.val (.scr ns)), none, none, none, none] [] with | .rt v cs' => Res.ok v (cs'.take 0) | .nx _ cs' => .ok .non (cs'.take 0) | .exc e _ cs' => .exc e (cs'.take 0) | _ => .stuck) = _
  have s2 : (sSet 2 (eTup (aCons (eTup (aCons (eC (.int 0)) (aCons (eC (.int 1)) aNil))) (aCons (eTup (aCons (eTup (aCons (eC (.int 5)) (aCons (eC (.int 4)) aNil))) (aCons (eTup (aCons (eC (.int 5)) (aCons (eC (.int 2)) aNil))) (aCons (eTup (aCons (eC (.int 3)) (aCons (eC (.int 0)) aNil))) aNil)))) aNil)))) [some (.val (.scr ns)), some (.cel 0), none, none, none] [.lst [.int a, .int b]] = .nx [some (.val (.scr ns)), some (.cel 0), some (.val sale_), none, none] [.lst [.int a, .int b]] := rfl
  have s4 : (sIf (tNot (tB (eFn F__law_sales_right (zVal (eVar 3) zNil)))) (sRet (eC (.bl false))) sNil) [some (.val (.scr ns)), some (.cel 0), some (.val sale_), some (.val x), none] [.lst [.int a', .int b']] = .nx [some (.val (.scr ns)), some (.cel 0), some (.val sale_), some (.val x), none] [.lst [.int a', .int b']] := by
    have e5 := sr_ k hk x hx a' b'
    simp [sIf, tNot, Ev.tB, eFn, zVal, zNil, eVar, sNil, e5, Res.bind, Res.st]
  have s6 : ((sRet (eAnd (eFn F__law_prices_right (zVal (eVar 2) zNil)) (eAnd (eFn F__law_bidders_right (zVal (eVar 2) zNil)) (eFn F__law_rows_right (zVal (eVar 2) zNil)))))) [some (.val (.scr ns)), some (.cel 0), some (.val sale_), some (.val x), none] [.lst [.int a', .int b']] = .rt (.bl true) [.lst [.int a', .int b']] := by
    have e5 := p_ a' b'
    have e6 := q_ a' b'
    have e7 := w_ a' b'
    simp [sRet, eAnd, eFn, zVal, zNil, eVar, e5, e6, e7, Res.bind, Res.st]
  have s7 : m_law [some (.val (.scr ns)), none, none, none, none] [] = .rt (.bl true) [.lst [.int a', .int b']] := by
    rw [m_law_eq, sSeq_nx s1, sSeq_nx s2, sSeq_nx s3]
    unfold r_law
    rw [sSeq_nx s4, sSeq_nx (t5_ ns x a' b')]
    exact s6
  rw [s7]
  rfl
end K54

set_option Elab.async false
theorem PySem.Challenge.cw_soleholder_k54_errors_of_sales_holds : PySem.Challenge.rw_soleholder_k54_errors_of_sales.Holds := K54.holds_ fun ns h _ => K54.law_ ns h

