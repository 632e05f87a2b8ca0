import PyProof.Rows.All
import Wide.All
import OpenK.AllK
import Wide.FinOn
import HandS.ForMost
import HandS.ForExc
import HandS.Wide
import HandS.IsInst
import HandS.Style
import HandS.Conv
import HandS.Codes
import HandS.Small
import HandS.CallRecv
import HandS.HeadWalk
import HandS.HeadHook4
import HandS.Lambda
import HandS.ExcIs
import HandS.TupMul
import HandS.TupAny
import HandS.RaiseMore
import HandS.Head0
import HandS.Head1
import HandS.Head2
import HandS.HeadEnd
import KE.KStateDown
import Lean
import PySem.Challenge.RW_widthrules_k08_whole_refused
set_option Elab.async false
set_option linter.all false
set_option maxRecDepth 100000
set_option maxHeartbeats 2000000
namespace Dz
open PySem PySem.Spec PyProof.Rows
inductive Cst where | non | bl (b : Bool) | int (i : Int) | str (x : Str)
inductive Bop where | add | sub | mul | fdiv | mod | pow | shl
inductive Cop where | eq | ne | lt | le | gt | ge | isin | notin | is | isnot
inductive Blt where | len | abs | min | max | int | list | tuple | sorted | all | str
inductive Txo where | split | part | join
inductive Lmo where | index | count
inductive Ty where | int | bool | str | tuple | list
deriving DecidableEq
/-! ### expressions -/
mutual
inductive E where
  | var (i : Nat) | cst (d : Cst) | glo (i : Nat)
  | bin (o : Bop) (a b : E) | neg (a : E)
  | cmp (o : Cop) (a b : E) | chn (o o' : Cop) (a b c : E)
  | not (a : E) | and (a b : E) | or (a b : E) | ite (c a b : E)
  | tup (es : Es) | lst (es : Es) | dct (ks : List Str) (es : Es)
  | sub (a b : E) | slf (a lo : E) | slt (a hi : E) | rev (a : E)
  | fld (a : E) (f : Str)
  | call (id : Nat) (es : Es) | mk (id c : Nat) (es : Es) | mth (id c : Nat) (m : Str) (a : E) (es : Es)
  | lr2 (a b : E) | dget (a k d : E)
  | lam (e : E) | wrg (id : Nat) (a : E) | ise (a : E) (c : Nat) | txt (t : Txo) (a b : E) | lms (t : Lmo) (a b : E)
  | blt (b : Blt) (es : Es) | isi (a : E) (t : Ty) | isi2 (a : E) (t u : Ty)
  | app (a e : E) | pop (a : E)
  | lc (elt : E) (i : Nat) (it : It) | lcc (elt : E) (i : Nat) (it : It) (c : E)
inductive Es where
  | nil | cons (e : E) (es : Es)
inductive It where
  | rg1 (a : E) | rg2 (a b : E) | rg3 (a b c : E) | of (e : E)
end
end Dz

set_option Elab.async false
set_option linter.all false
set_option maxRecDepth 100000
set_option maxHeartbeats 2000000
namespace Dz
open PySem PySem.Spec PyProof.Rows L2

/-! ### data -/
inductive D where
  | non | bl (b : Bool) | int (i : Int) | str (x : Str)
  | tup (l : List D) | lst (l : List D) | scr (l : List Int)
  | ob (c : Nat) (ns : List Str) (l : List D)
  | dct (ks : List Str) (l : List D)
  | mr (i : Nat) | exv (c : Nat) | clo (e : E)
def cstD : Cst → D
  | .non => .non | .bl b => .bl b | .int i => .int i | .str x => .str x
inductive MO where
  | lst (l : List D) | dct (ks : List Str) (l : List D) | ins (c : Nat) (ns : List Str) (l : List D) | tab
abbrev Sto := List MO
abbrev Env := List (Option D)
abbrev SV := L2.St
inductive R (α : Type) where
  | ok (a : α) (S : Sto) | exc (c : Nat) (S : Sto) | bad
def R.bind {α β : Type} : R α → (α → Sto → R β) → R β
  | .ok a S, f => f a S
  | .exc c S, _ => .exc c S
  | .bad, _ => .bad

structure Tb where
  K : PySem.W.Frag
  sp : Nat → Sp
  gv : Nat → V
  Cs : Nat → Addr
  ec : Nat → Addr
  /-- in the def that makes lambdas: what stands where one is made; the name of their code; -/
  ho : Option (E → Addr → Addr → Option Addr → HO) := none
  qn : Str := Str.empty
  tP : Addr := 0
  /-- in an except suite: the error and its class; the readings of a lambda and of a call with one -/
  hot : Option (Addr × Nat) := none
  rl : E → TE := fun _ _ _ _ => False
  rw : Nat → XK → V → L2.St → Hp → VK → Prop := fun _ _ _ _ _ _ => False

/-- a tuple of the written part -/
def KT (K : PySem.W.Frag) (a : Addr) (vs : List V) : Prop := SqT K (fun _ => none) a vs
theorem KT.sq {K : PySem.W.Frag} {a : Addr} {vs : List V} (h : KT K a vs) (H : Hp) : SqT K H a vs := by
  rcases h with (h | ⟨_, h⟩) | h
  · cases h
  · cases h
  · exact .inr h
/-- a list of the written part -/
def KL (K : PySem.W.Frag) (a : Addr) (vs : List V) : Prop := SqL K (fun _ => none) a vs
theorem KL.sq {K : PySem.W.Frag} {a : Addr} {vs : List V} (h : KL K a vs) (H : Hp) : SqL K H a vs := by
  rcases h with (h | ⟨_, h⟩) | h
  · cases h
  · cases h
  · exact .inr h

mutual
def Rep (Y : Tb) (A : Addr → Prop) (ml : List Addr) (H : Hp) : D → V → Prop
  | .non, v => v = .non
  | .bl b, v => v = .bl b
  | .int i, v => v = .int i
  | .str x, v => v = .str x
  | .tup l, v => ∃ a vs, v = .ref a ∧ ((Rd H a (.tup vs) ∧ ¬ A a) ∨ KT Y.K a vs) ∧ Reps Y A ml H l vs
  | .lst l, v => ∃ a vs, v = .ref a ∧ H a = some (.lst vs) ∧ ¬ A a ∧ Reps Y A ml H l vs
  | .scr l, v => ∃ a, v = .ref a ∧ ((Rd H a (.lst (l.map V.int)) ∧ ¬ A a) ∨ KL Y.K a (l.map V.int))
  | .ob c ns l, v => ∃ a dx vs, v = .ref a ∧ H a = some (.ins (Y.Cs c) dx (ns.zip vs)) ∧ ¬ A a ∧ Reps Y A ml H l vs
  | .dct ks l, v => ∃ a vs, v = .ref a ∧ H a = some (.dK ((ks.map Sum.inr).zip vs)) ∧ ¬ A a ∧ ks.length = l.length ∧ Reps Y A ml H l vs
  | .mr i, v => ∃ a, ml[i]? = some a ∧ v = .ref a
  | .exv k, v => ∃ a, Y.hot = some (a, k) ∧ v = .ref a
  | .clo i, v => ∃ g f c t, Y.ho = some g ∧ v = .ref f ∧ H f = some (g i f c t) ∧ ¬ A f ∧ H c = some (LamX.CodeO c Y.qn) ∧ ¬ A c ∧ ∀ a, t = some a → H a = some (.tup [.int 0]) ∧ ¬ A a
def Reps (Y : Tb) (A : Addr → Prop) (ml : List Addr) (H : Hp) : List D → List V → Prop
  | [], vs => vs = []
  | d :: ds, vs => ∃ v ws, vs = v :: ws ∧ Rep Y A ml H d v ∧ Reps Y A ml H ds ws
end

/-- what is not in M stays -/
def Ext (M : List Addr) (H H' : Hp) : Prop := ∀ a o, a ∉ M → H a = some o → H' a = some o
theorem Ext.refl (M : List Addr) (H : Hp) : Ext M H H := fun _ _ _ h => h
theorem Ext.trans {M : List Addr} {H H1 H2 : Hp} (a : Ext M H H1) (b : Ext M H1 H2) : Ext M H H2 := fun x o n h => b x o n (a x o n h)
theorem Ext.new {M : List Addr} {H : Hp} {p : Addr} {o : HO} (h : H p = none) : Ext M H (upd H p o) := fun a u _ e => by
  rw [upd_ne (ne_of_none e h)]
  exact e
theorem Ext.mut {M : List Addr} {H : Hp} {p : Addr} {o : HO} (h : p ∈ M) : Ext M H (upd H p o) := fun a u n e => by
  rw [upd_ne (fun z => n (by rw [z]; exact h))]
  exact e

section
variable {Y : Tb} {A A' : Addr → Prop} {ml ml' : List Addr} {H H' : Hp}
theorem rd_stay {a : Addr} {u : HO} (k : ∀ a o, ¬ A a → H a = some o → H' a = some o) (n : ¬ A a) (h : Rd H a u) : Rd H' a u := by
  rcases h with h | ⟨o, h⟩
  · exact .inl (k _ _ n h)
  · exact .inr ⟨o, k _ _ n h⟩
mutual
theorem Rep.move (hm : ∀ (i : Nat) a, ml[i]? = some a → ml'[i]? = some a) (k : ∀ a o, ¬ A a → H a = some o → H' a = some o ∧ ¬ A' a) : ∀ (d : D) (v : V), Rep Y A ml H d v → Rep Y A' ml' H' d v
  | .non, v, h => by simp only [Rep] at h ⊢; exact h
  | .bl _, v, h => by simp only [Rep] at h ⊢; exact h
  | .int _, v, h => by simp only [Rep] at h ⊢; exact h
  | .str _, v, h => by simp only [Rep] at h ⊢; exact h
  | .tup l, v, h => by
    simp only [Rep] at h ⊢
    obtain ⟨a, vs, e, h1, h2⟩ := h
    refine ⟨a, vs, e, ?_, Reps.move hm k l vs h2⟩
    rcases h1 with ⟨h1, n⟩ | h1
    · rcases h1 with h1 | ⟨o, h1⟩
      · exact .inl ⟨.inl (k _ _ n h1).1, (k _ _ n h1).2⟩
      · exact .inl ⟨.inr ⟨o, (k _ _ n h1).1⟩, (k _ _ n h1).2⟩
    · exact .inr h1
  | .lst l, v, h => by
    simp only [Rep] at h ⊢
    obtain ⟨a, vs, e, h1, n, h2⟩ := h
    exact ⟨a, vs, e, (k _ _ n h1).1, (k _ _ n h1).2, Reps.move hm k l vs h2⟩
  | .scr l, v, h => by
    simp only [Rep] at h ⊢
    obtain ⟨a, e, h1⟩ := h
    rcases h1 with ⟨h1 | ⟨o, h1⟩, n⟩ | h1
    · exact ⟨a, e, .inl ⟨.inl (k _ _ n h1).1, (k _ _ n h1).2⟩⟩
    · exact ⟨a, e, .inl ⟨.inr ⟨o, (k _ _ n h1).1⟩, (k _ _ n h1).2⟩⟩
    · exact ⟨a, e, .inr h1⟩
  | .ob c ns l, v, h => by
    simp only [Rep] at h ⊢
    obtain ⟨a, dx, vs, e, h1, n, h2⟩ := h
    exact ⟨a, dx, vs, e, (k _ _ n h1).1, (k _ _ n h1).2, Reps.move hm k l vs h2⟩
  | .dct ks l, v, h => by
    simp only [Rep] at h ⊢
    obtain ⟨a, vs, e, h1, n, hl, h2⟩ := h
    exact ⟨a, vs, e, (k _ _ n h1).1, (k _ _ n h1).2, hl, Reps.move hm k l vs h2⟩
  | .mr i, v, h => by
    simp only [Rep] at h ⊢
    obtain ⟨a, h1, e⟩ := h
    exact ⟨a, hm _ _ h1, e⟩
  | .exv _, v, h => by simp only [Rep] at h ⊢; exact h
  | .clo _, v, h => by
    simp only [Rep] at h ⊢
    obtain ⟨g, f, c, t, e0, e, h1, n1, h2, n2, h3⟩ := h
    exact ⟨g, f, c, t, e0, e, (k _ _ n1 h1).1, (k _ _ n1 h1).2, (k _ _ n2 h2).1, (k _ _ n2 h2).2, fun a ea => k _ _ (h3 a ea).2 (h3 a ea).1⟩
theorem Reps.move (hm : ∀ (i : Nat) a, ml[i]? = some a → ml'[i]? = some a) (k : ∀ a o, ¬ A a → H a = some o → H' a = some o ∧ ¬ A' a) : ∀ (ds : List D) (vs : List V), Reps Y A ml H ds vs → Reps Y A' ml' H' ds vs
  | [], vs, h => by simp only [Reps] at h ⊢; exact h
  | d :: ds, vs, h => by
    simp only [Reps] at h ⊢
    obtain ⟨v, ws, e, h1, h2⟩ := h
    exact ⟨v, ws, e, Rep.move hm k d v h1, Reps.move hm k ds ws h2⟩
end
theorem Reps.nil : Reps Y A ml H [] [] := by simp only [Reps]
theorem Reps.cons {d : D} {v : V} {ds : List D} {vs : List V} (h : Rep Y A ml H d v) (t : Reps Y A ml H ds vs) : Reps Y A ml H (d :: ds) (v :: vs) := by
  simp only [Reps]; exact ⟨v, vs, rfl, h, t⟩
theorem Reps.uncons {d : D} {ds : List D} {vs : List V} (h : Reps Y A ml H (d :: ds) vs) : ∃ v ws, vs = v :: ws ∧ Rep Y A ml H d v ∧ Reps Y A ml H ds ws := by
  simpa only [Reps] using h
theorem Reps.unnil {vs : List V} (h : Reps Y A ml H [] vs) : vs = [] := by simpa only [Reps] using h
theorem Reps.length : ∀ {ds : List D} {vs : List V}, Reps Y A ml H ds vs → ds.length = vs.length
  | [], vs, h => by rw [h.unnil]; rfl
  | d :: ds, vs, h => by
    obtain ⟨v, ws, rfl, _, h2⟩ := h.uncons
    rw [List.length_cons, List.length_cons, Reps.length h2]
theorem Reps.get : ∀ {ds : List D} {vs : List V} {i : Nat} {d : D}, Reps Y A ml H ds vs → ds[i]? = some d → ∃ v, vs[i]? = some v ∧ Rep Y A ml H d v
  | [], _, _, _, _, e => by simp at e
  | d :: ds, vs, 0, d', h, e => by
    obtain ⟨v, ws, rfl, h1, h2⟩ := h.uncons
    simp at e; subst e
    exact ⟨v, rfl, h1⟩
  | d :: ds, vs, i + 1, d', h, e => by
    obtain ⟨v, ws, rfl, h1, h2⟩ := h.uncons
    obtain ⟨v', q1, q2⟩ := Reps.get (i := i) h2 (by simpa using e)
    exact ⟨v', by simpa using q1, q2⟩
theorem Reps.append : ∀ {ds es : List D} {vs ws : List V}, Reps Y A ml H ds vs → Reps Y A ml H es ws → Reps Y A ml H (ds ++ es) (vs ++ ws)
  | [], es, vs, ws, h, g => by rw [h.unnil]; exact g
  | d :: ds, es, vs, ws, h, g => by
    obtain ⟨v, us, rfl, h1, h2⟩ := h.uncons
    exact Reps.cons h1 (Reps.append h2 g)
theorem Reps.set : ∀ {ds : List D} {vs : List V} {d : D} {v : V} (i : Nat), Reps Y A ml H ds vs → Rep Y A ml H d v → Reps Y A ml H (ds.set i d) (vs.set i v)
  | [], vs, d, v, i, h, g => by rw [h.unnil]; exact Reps.nil
  | e :: ds, vs, d, v, 0, h, g => by
    obtain ⟨u, us, rfl, h1, h2⟩ := h.uncons
    exact Reps.cons g h2
  | e :: ds, vs, d, v, i + 1, h, g => by
    obtain ⟨u, us, rfl, h1, h2⟩ := h.uncons
    exact Reps.cons h1 (Reps.set i h2 g)
theorem Reps.drop : ∀ {ds : List D} {vs : List V} (n : Nat), Reps Y A ml H ds vs → Reps Y A ml H (ds.drop n) (vs.drop n)
  | _, _, 0, h => h
  | [], vs, n + 1, h => by rw [h.unnil]; exact Reps.nil
  | d :: ds, vs, n + 1, h => by
    obtain ⟨u, us, rfl, h1, h2⟩ := h.uncons
    exact Reps.drop n h2
theorem Reps.take : ∀ {ds : List D} {vs : List V} (n : Nat), Reps Y A ml H ds vs → Reps Y A ml H (ds.take n) (vs.take n)
  | _, _, 0, h => Reps.nil
  | [], vs, n + 1, h => by rw [h.unnil]; exact Reps.nil
  | d :: ds, vs, n + 1, h => by
    obtain ⟨u, us, rfl, h1, h2⟩ := h.uncons
    exact Reps.cons h1 (Reps.take n h2)
theorem Reps.reverse : ∀ {ds : List D} {vs : List V}, Reps Y A ml H ds vs → Reps Y A ml H ds.reverse vs.reverse
  | [], vs, h => by rw [h.unnil]; exact Reps.nil
  | d :: ds, vs, h => by
    obtain ⟨u, us, rfl, h1, h2⟩ := h.uncons
    rw [List.reverse_cons, List.reverse_cons]
    exact Reps.append (Reps.reverse h2) (Reps.cons h1 Reps.nil)
theorem Reps.dropLast {ds : List D} {vs : List V} (h : Reps Y A ml H ds vs) : Reps Y A ml H ds.dropLast vs.dropLast := by
  rw [List.dropLast_eq_take, List.dropLast_eq_take, ← h.length]
  exact h.take _
theorem Reps.ints : ∀ {ns : List Int} {vs : List V}, Reps Y A ml H (ns.map D.int) vs → vs = ns.map V.int
  | [], vs, h => h.unnil
  | n :: ns, vs, h => by
    obtain ⟨v, ws, rfl, h1, h2⟩ := h.uncons
    simp only [Rep] at h1
    rw [h1, Reps.ints h2]
    rfl
theorem Reps.ofInts : ∀ (ns : List Int), Reps Y A ml H (ns.map D.int) (ns.map V.int)
  | [] => Reps.nil
  | n :: ns => Reps.cons (by simp only [Rep]) (Reps.ofInts ns)
theorem Reps.strs : ∀ {ns : List Str} {vs : List V}, Reps Y A ml H (ns.map D.str) vs → vs = ns.map V.str
  | [], vs, h => h.unnil
  | n :: ns, vs, h => by
    obtain ⟨v, ws, rfl, h1, h2⟩ := h.uncons
    simp only [Rep] at h1
    rw [h1, Reps.strs h2]
    rfl
theorem Reps.ofStrs : ∀ (ns : List Str), Reps Y A ml H (ns.map D.str) (ns.map V.str)
  | [] => Reps.nil
  | n :: ns => Reps.cons (by simp only [Rep]) (Reps.ofStrs ns)
end

/-! ### the mutable cells -/
def Avd (A : Addr → Prop) (M : List Addr) : Addr → Prop := fun a => A a ∨ a ∈ M
def RepM (Y : Tb) (A : Addr → Prop) (ml : List Addr) (H : Hp) : MO → Addr → Prop
  | .lst l, a => ∃ vs, H a = some (.lst vs) ∧ Reps Y A ml H l vs
  | .dct ks l, a => ∃ vs, H a = some (.dK ((ks.map Sum.inr).zip vs)) ∧ ks.length = l.length ∧ Reps Y A ml H l vs
  | .ins c ns l, a => ∃ dx vs, H a = some (.ins (Y.Cs c) dx (ns.zip vs)) ∧ ns.length = l.length ∧ Reps Y A ml H l vs
  | .tab, a => a = Y.tP ∧ ∃ ps : Array Value, H a = some (.tbl ps) ∧ TriplesOk ps.toList ∧ ∀ (pos : Pos) (cv : Value), codeAmong pos ps.toList = some cv → ∃ c, cv = .ref c ∧ H c = some (LamX.CodeO c Y.qn) ∧ ¬ A c
structure Wf (Y : Tb) (A : Addr → Prop) (M : List Addr) (S : Sto) (H : Hp) : Prop where
  len : M.length = S.length
  nd : M.Nodup
  tr : ∀ a, A a → H a ≠ none
  dj : ∀ a ∈ M, ¬ A a
  cell : ∀ (i : Nat) a c, M[i]? = some a → S[i]? = some c → RepM Y (Avd A M) (M.take i) H c a
section
variable {Y : Tb} {A A' : Addr → Prop} {M : List Addr} {S : Sto} {H H' : Hp}
theorem RepM.there {B : Addr → Prop} {ml : List Addr} {c : MO} {a : Addr} (h : RepM Y B ml H c a) : H a ≠ none := by
  cases c with
  | lst l => obtain ⟨vs, h, _⟩ := h; rw [h]; simp
  | dct ks l => obtain ⟨vs, h, _⟩ := h; rw [h]; simp
  | ins c ns l => obtain ⟨dx, vs, h, _⟩ := h; rw [h]; simp
  | tab => obtain ⟨_, ps, h, _⟩ := h; rw [h]; simp
theorem Wf.trM (w : Wf Y A M S H) {a : Addr} (h : a ∈ M) : H a ≠ none := by
  obtain ⟨i, hi, e⟩ := List.mem_iff_getElem.mp h
  have hS : i < S.length := by rw [← w.len]; exact hi
  exact (w.cell i a S[i] (by rw [List.getElem?_eq_getElem hi, e]) (List.getElem?_eq_getElem hS)).there
theorem Wf.trAll (w : Wf Y A M S H) {a : Addr} (h : Avd A M a) : H a ≠ none := by
  rcases h with h | h
  · exact w.tr a h
  · exact w.trM h
theorem Wf.fresh (w : Wf Y A M S H) {p : Addr} (h : H p = none) : ¬ Avd A M p := fun z => w.trAll z h
theorem Wf.sub (w : Wf Y A M S H) {p : Addr} (h : H p = none) : p ∉ M := fun z => w.trM z h
theorem RepM.move {B B' : Addr → Prop} {ml : List Addr} {c : MO} {a : Addr} (h : RepM Y B ml H c a) (ha : ∀ o, H a = some o → H' a = some o) (k : ∀ a o, ¬ B a → H a = some o → H' a = some o ∧ ¬ B' a) : RepM Y B' ml H' c a := by
  cases c with
  | lst l => obtain ⟨vs, h, r⟩ := h; exact ⟨vs, ha _ h, Reps.move (fun _ _ z => z) k _ _ r⟩
  | dct ks l => obtain ⟨vs, h, e, r⟩ := h; exact ⟨vs, ha _ h, e, Reps.move (fun _ _ z => z) k _ _ r⟩
  | ins c ns l => obtain ⟨dx, vs, h, e, r⟩ := h; exact ⟨dx, vs, ha _ h, e, Reps.move (fun _ _ z => z) k _ _ r⟩
  | tab =>
    obtain ⟨e0, ps, h, t, r⟩ := h
    refine ⟨e0, ps, ha _ h, t, fun pos cv e => ?_⟩
    obtain ⟨c, e1, e2, n⟩ := r pos cv e
    exact ⟨c, e1, (k _ _ n e2).1, (k _ _ n e2).2⟩
/-- a new object that is no cell -/
theorem Wf.new (w : Wf Y A M S H) {p : Addr} {o : HO} (h : H p = none) : Wf Y A M S (upd H p o) := by
  have kp : ∀ a u, H a = some u → upd H p o a = some u := fun a u e => by rw [upd_ne (ne_of_none e h)]; exact e
  refine ⟨w.len, w.nd, fun a ha z => ?_, w.dj, fun i a c e1 e2 => (w.cell i a c e1 e2).move (fun u e => kp a u e) fun b u n e => ⟨kp b u e, n⟩⟩
  cases q : H a with
  | none => exact w.tr a ha q
  | some u => rw [kp a u q] at z; cases z
theorem Rep.ext {d : D} {v : V} {ml : List Addr} (h : Rep Y (Avd A M) ml H d v) (e : Ext M H H') : Rep Y (Avd A M) ml H' d v :=
  Rep.move (fun _ _ z => z) (fun a o n x => ⟨e a o (fun z => n (.inr z)) x, n⟩) d v h
theorem Reps.ext {d : List D} {v : List V} {ml : List Addr} (h : Reps Y (Avd A M) ml H d v) (e : Ext M H H') : Reps Y (Avd A M) ml H' d v :=
  Reps.move (fun _ _ z => z) (fun a o n x => ⟨e a o (fun z => n (.inr z)) x, n⟩) d v h
end

/-! ### environments -/
def RepE (Y : Tb) (A : Addr → Prop) (M : List Addr) (H : Hp) (ρ : Env) (σ : SV) : Prop :=
  ρ.length = σ.length ∧ ∀ (i : Nat) d, ρ[i]? = some (some d) → ∃ v, σ[i]? = some (some v) ∧ Rep Y (Avd A M) M H d v
section
variable {Y : Tb} {A A' : Addr → Prop} {M : List Addr} {S : Sto} {H H' : Hp} {ρ : Env} {σ : SV}
theorem RepE.ext (h : RepE Y A M H ρ σ) (e : Ext M H H') : RepE Y A M H' ρ σ := ⟨h.1, fun i d x => by
  obtain ⟨v, h1, h2⟩ := h.2 i d x
  exact ⟨v, h1, h2.ext e⟩⟩
theorem RepE.set (h : RepE Y A M H ρ σ) {i : Nat} {d : D} {v : V} (r : Rep Y (Avd A M) M H d v) : RepE Y A M H (ρ.set i (some d)) (σ.set i (some v)) := by
  refine ⟨by rw [List.length_set, List.length_set, h.1], fun j d' x => ?_⟩
  by_cases e : i = j
  · subst e
    by_cases hi : i < ρ.length
    · rw [List.getElem?_set_self hi] at x
      cases x
      exact ⟨v, List.getElem?_set_self (by rw [← h.1]; exact hi), r⟩
    · rw [List.getElem?_eq_none (by rw [List.length_set]; omega)] at x
      cases x
  · rw [List.getElem?_set_ne e] at x
    obtain ⟨v', h1, h2⟩ := h.2 j d' x
    exact ⟨v', by rw [List.getElem?_set_ne e]; exact h1, h2⟩
theorem RepE.unset (h : RepE Y A M H ρ σ) (i : Nat) : RepE Y A M H (ρ.set i none) (σ.set i none) := by
  refine ⟨by rw [List.length_set, List.length_set, h.1], fun j d' x => ?_⟩
  by_cases e : i = j
  · subst e
    by_cases hi : i < ρ.length
    · rw [List.getElem?_set_self hi] at x
      cases x
    · rw [List.getElem?_eq_none (by rw [List.length_set]; omega)] at x
      cases x
  · rw [List.getElem?_set_ne e] at x
    obtain ⟨v', h1, h2⟩ := h.2 j d' x
    exact ⟨v', by rw [List.getElem?_set_ne e]; exact h1, h2⟩
/-- more is to be avoided: what is new -/
theorem RepE.more (h : RepE Y A M H ρ σ) (k : ∀ a, H a ≠ none → A' a → A a ∨ a ∈ M) : RepE Y A' M H ρ σ := ⟨h.1, fun i d x => by
  obtain ⟨v, h1, h2⟩ := h.2 i d x
  refine ⟨v, h1, Rep.move (fun _ _ z => z) (fun a o n e => ⟨e, fun z => ?_⟩) d v h2⟩
  rcases z with z | z
  · exact n (k a (by rw [e]; simp) z)
  · exact n (.inr z)⟩
end

/-! ### what is wanted of a result -/
section
variable (Y : Tb) (EX : XK) (A : Addr → Prop) (M : List Addr)
def P {α : Type} (H : Hp) (r : R α) (F : α → Sto → Hp → Prop) : Prop := match r with
  | .ok d S' => ∀ H', Ext M H H' → Wf Y A M S' H' → F d S' H'
  | .exc c S' => ∀ H', Ext M H H' → Wf Y A M S' H' → EX (.ref (Y.ec c)) none H'
  | .bad => False
end
section
variable {Y : Tb} {EX : XK} {A : Addr → Prop} {M : List Addr} {H H' : Hp} {S : Sto}
theorem P.mono {α : Type} {r : R α} {F : α → Sto → Hp → Prop} (h : P Y EX A M H r F) (e : Ext M H H') : P Y EX A M H' r F := by
  cases r with
  | ok d S' => exact fun H2 e2 w => h H2 (e.trans e2) w
  | exc c S' => exact fun H2 e2 w => h H2 (e.trans e2) w
  | bad => exact h
theorem P.bind {α β : Type} {r : R α} {f : α → Sto → R β} {F : β → Sto → Hp → Prop} (h : P Y EX A M H (r.bind f) F) : P Y EX A M H r (fun d S1 H1 => P Y EX A M H1 (f d S1) F) := by
  cases r with
  | ok d S' => exact fun H2 e2 w => P.mono (r := f d S') h e2
  | exc c S' => exact h
  | bad => exact h
theorem P.imp {α : Type} {r : R α} {F G : α → Sto → Hp → Prop} (h : P Y EX A M H r F) (k : ∀ d S' H', Ext M H H' → Wf Y A M S' H' → F d S' H' → G d S' H') : P Y EX A M H r G := by
  cases r with
  | ok d S' => exact fun H2 e2 w => k d S' H2 e2 w (h H2 e2 w)
  | exc c S' => exact h
  | bad => exact h
theorem P.at {α : Type} {d : α} {S' : Sto} {F : α → Sto → Hp → Prop} (h : P Y EX A M H (.ok d S') F) (w : Wf Y A M S' H) : F d S' H := h H (Ext.refl M H) w
end
/-- the reading of an expression gives this result -/
def GE (Y : Tb) (EX : XK) (t : TE) (ρ : Env) (S : Sto) (r : R D) : Prop :=
  ∀ (A : Addr → Prop) (M : List Addr) (σ : SV) (H : Hp), RepE Y A M H ρ σ → Wf Y A M S H → ∀ Q : VK, P Y EX A M H r (fun d _ H' => ∀ v, Rep Y (Avd A M) M H' d v → Q v H') → t σ H Q
def GA (Y : Tb) (EX : XK) (t : TA) (ρ : Env) (S : Sto) (r : R (List D)) : Prop :=
  ∀ (A : Addr → Prop) (M : List Addr) (σ : SV) (H : Hp), RepE Y A M H ρ σ → Wf Y A M S H → ∀ Q : List V → Hp → Prop, P Y EX A M H r (fun d _ H' => ∀ v, Reps Y (Avd A M) M H' d v → Q v H') → t σ H Q
def asB : R D → R Bool
  | .ok (.bl b) S => .ok b S
  | .exc c S => .exc c S
  | _ => .bad
def GT (Y : Tb) (EX : XK) (t : TT) (ρ : Env) (S : Sto) (r : R Bool) : Prop :=
  ∀ (A : Addr → Prop) (M : List Addr) (σ : SV) (H : Hp), RepE Y A M H ρ σ → Wf Y A M S H → ∀ Q : Bool → Hp → Prop, P Y EX A M H r (fun b _ H' => Q b H') → t σ H Q
end Dz

set_option Elab.async false
set_option linter.all false
set_option maxRecDepth 100000
set_option maxHeartbeats 2000000
namespace Dz
open PySem PySem.Spec PyProof.Rows L2

/-! ### operations on data -/

mutual
def toPy : D → Option PyData
  | .non => some .none
  | .bl b => some (.bool b)
  | .int i => some (.int i)
  | .str x => some (.str x)
  | .tup l => match toPys l with | some q => some (.tuple q) | none => none
  | .lst l => match toPys l with | some q => some (.list q) | none => none
  | .scr _ => none
  | .ob _ _ _ => none
  | .dct _ _ => none
  | .mr _ => none
  | .exv _ => none
  | .clo _ => none
def toPys : List D → Option (List PyData)
  | [] => some []
  | d :: ds => match toPy d, toPys ds with | some x, some xs => some (x :: xs) | _, _ => none
end
def eqPy (d e : D) : Option Bool := match toPy d, toPy e with
  | some x, some y => if SeqAt.shaped x && SeqAt.shaped y then some (PyData.eqv x y) else none
  | _, _ => none
/-- == -/
def eqD : D → D → Option Bool
  | .int i, .int j => some (decide (i = j))
  | .str i, .str j => some (decide (i = j))
  | .bl i, .bl j => some (decide (i = j))
  | .non, .non => some true
  | .non, .int _ => some false
  | .non, .str _ => some false
  | .non, .bl _ => some false
  | .int _, .non => some false
  | .str _, .non => some false
  | .bl _, .non => some false
  | .int _, .str _ => some false
  | .str _, .int _ => some false
  | .bl _, .str _ => some false
  | .str _, .bl _ => some false
  | d, e => eqPy d e
def flat : D → Option V
  | .non => some .non
  | .bl b => some (.bl b)
  | .int i => some (.int i)
  | .str x => some (.str x)
  | _ => none
def flats : List D → Option (List V)
  | [] => some []
  | d :: ds => match flat d, flats ds with | some x, some xs => some (x :: xs) | _, _ => none
def inD (d : D) : D → Option Bool
  | .tup l => match flat d, flats l with | some x, some xs => some (inV x xs) | _, _ => none
  | .lst l => match flat d, flats l with | some x, some xs => some (inV x xs) | _, _ => none
  | .str z => match d with
    | .str x => (match x.cps.toList with
      | [c] => some (decide (c ∈ z.cps.toList))
      | _ => none)
    | _ => none
  | _ => none
def isD : D → D → Option Bool
  | .bl a, .bl b => some (decide (a = b))
  | d, .non => match d with
    | .non => some true
    | .bl _ => some false
    | .int _ => some false
    | .str _ => some false
    | .tup _ => some false
    | .lst _ => some false
    | _ => none
  | _, _ => none
def optB (o : Option Bool) (f : Bool → Bool) (S : Sto) : R D := match o with
  | some b => .ok (.bl (f b)) S
  | none => .bad
def cmpD (o : Cop) (x y : D) (S : Sto) : R D := match o with
  | .eq => optB (eqD x y) id S
  | .ne => optB (eqD x y) not S
  | .isin => optB (inD x y) id S
  | .notin => optB (inD x y) not S
  | .is => optB (isD x y) id S
  | .isnot => optB (isD x y) not S
  | .lt => match x, y with | .int i, .int j => .ok (.bl (decide (i < j))) S | _, _ => .bad
  | .le => match x, y with | .int i, .int j => .ok (.bl (decide (i ≤ j))) S | _, _ => .bad
  | .gt => match x, y with | .int i, .int j => .ok (.bl (decide (j < i))) S | _, _ => .bad
  | .ge => match x, y with | .int i, .int j => .ok (.bl (decide (j ≤ i))) S | _, _ => .bad
def mulC (i j : Int) : Bool := decide (i.natAbs.log2 + j.natAbs.log2 < 1000000)
def divC (j : Int) : Bool := decide (j ≠ 0) && decide (j.natAbs.log2 < 9000)
def powC (i j : Int) : Bool := decide (0 ≤ j) && decide (j ≤ 1000000) && decide (i.natAbs < 2 ^ 64)
def whenR {α : Type} (b : Bool) (r : R α) : R α := match b with
  | true => r
  | false => .bad
def binD : Bop → D → D → Sto → R D
  | .add, .int i, .int j, S => .ok (.int (i + j)) S
  | .add, .str i, .str j, S => whenR (decide (i.length + j.length ≤ 100000)) (.ok (.str (i ++ j)) S)
  | .add, .lst i, .lst j, S => whenR (decide (i.length + j.length ≤ 100000)) (.ok (.lst (i ++ j)) S)
  | .add, .tup i, .tup j, S => whenR (decide (i.length + j.length ≤ 100000)) (.ok (.tup (i ++ j)) S)
  | .sub, .int i, .int j, S => .ok (.int (i - j)) S
  | .mul, .int i, .int j, S => whenR (mulC i j) (.ok (.int (i * j)) S)
  | .mul, .str i, .int j, S => whenR (decide (i.length = 1) && decide (2 ≤ j) && decide (j ≤ 1000)) (.ok (.str ⟨(List.replicate j.toNat i.cps).foldl (· ++ ·) #[]⟩) S)
  | .mul, .tup l, .int j, S => whenR (!l.isEmpty && decide (1 ≤ j) && decide (j ≤ 1000) && decide (l.length ≤ 1000)) (.ok (.tup (List.replicate j.toNat l).flatten) S)
  | .fdiv, .int i, .int j, S => whenR (divC j) (.ok (.int (i.fdiv j)) S)
  | .mod, .int i, .int j, S => whenR (decide (j ≠ 0)) (.ok (.int (i.fmod j)) S)
  | .pow, .int i, .int j, S => whenR (powC i j) (.ok (.int (i ^ j.toNat)) S)
  | .shl, .int i, .int j, S => whenR (powC i j) (.ok (.int (i * 2 ^ j.toNat)) S)
  | _, _, _, _ => .bad
def getI (l : List D) (i : Int) (S : Sto) : R D := match atI l i with
  | some d => .ok d S
  | none => .bad
def getK : List Str → List D → Str → Option D
  | k :: ks, d :: ds, x => if k = x then some d else getK ks ds x
  | _, _, _ => none
def subD (x y : D) (S : Sto) : R D := match x, y with
  | .tup l, .int i => getI l i S
  | .lst l, .int i => getI l i S
  | .scr l, .int i => (match atI l i with | some n => .ok (.int n) S | none => .bad)
  | .str z, .int i => whenR (decide (z.length ≤ 100000)) (match atI z.cps.toList i with | some c => .ok (.str ⟨#[c]⟩) S | none => .bad)
  | .dct ks l, .str k => (match getK ks l k with | some d => .ok d S | none => .bad)
  | .mr m, .int i => (match S[m]? with | some (.lst l) => getI l i S | _ => .bad)
  | .mr m, .str k => (match S[m]? with | some (.dct ks l) => (match getK ks l k with | some d => .ok d S | none => .bad) | _ => .bad)
  | _, _ => .bad
def cutD (l : List D) (lo hi : Option Int) : List D := (l.drop (HT.sIx l.length 0 lo)).take (HT.sIx l.length l.length hi - HT.sIx l.length 0 lo)
def slcD (x : D) (lo hi : Option Int) (S : Sto) : R D := match x with
  | .tup l => .ok (.tup (cutD l lo hi)) S
  | .lst l => .ok (.lst (cutD l lo hi)) S
  | .str z => whenR (decide (z.length ≤ 100000)) (.ok (.str (Txt.slice z lo hi)) S)
  | _ => .bad
def fldD (fo : Nat → Str → Bool) (x : D) (f : Str) (S : Sto) : R D := match x with
  | .ob c ns l => whenR (fo c f) (match getK ns l f with | some d => .ok d S | none => .bad)
  | .mr m => (match S[m]? with | some (.ins c ns l) => whenR (fo c f) (match getK ns l f with | some d => .ok d S | none => .bad) | _ => .bad)
  | _ => .bad
def tyD : D → Option (List Ty)
  | .non => some []
  | .bl _ => some [.int, .bool]
  | .int _ => some [.int]
  | .str _ => some [.str]
  | .tup _ => some [.tuple]
  | .lst _ => some [.list]
  | .scr _ => some [.list]
  | _ => none
def isiD (x : D) (ts : List Ty) (S : Sto) : R D := match tyD x with
  | some us => .ok (.bl (ts.any fun t => us.contains t)) S
  | none => .bad
def insI (n : Int) : List Int → List Int
  | [] => [n]
  | m :: l => if n ≤ m then n :: m :: l else m :: insI n l
def sortI : List Int → List Int
  | [] => []
  | n :: l => insI n (sortI l)
def intsD : List D → Option (List Int)
  | [] => some []
  | .int i :: l => (match intsD l with | some r => some (i :: r) | none => none)
  | _ :: _ => none
def bools : List D → Option (List Bool)
  | [] => some []
  | .bl i :: l => (match bools l with | some r => some (i :: r) | none => none)
  | _ :: _ => none
def strsD : List D → Option (List Str)
  | [] => some []
  | .str i :: l => (match strsD l with | some r => some (i :: r) | none => none)
  | _ :: _ => none
def txtD (t : Txo) (a : Str) (y : D) (S : Sto) : R D := match t, y with
  | .split, .str b => whenR (!(b.length == 0) && decide (a.length ≤ 100000)) (.ok (.lst ((Txt.split a b).map D.str)) S)
  | .part, .str b => whenR (!(b.length == 0) && decide (a.length ≤ 100000)) (.ok (.tup [.str (Txt.partition a b).1, .str (Txt.partition a b).2.1, .str (Txt.partition a b).2.2]) S)
  | .join, .lst l => (match strsD l with
    | some ys => whenR (decide ((ys.map (·.length)).sum + ys.length * a.length ≤ 16777216)) (.ok (.str (Txt.join a ys)) S)
    | none => .bad)
  | _, _ => .bad
def lmsD (t : Lmo) (l : List D) (y : D) (S : Sto) : R D := match flats l, flat y with
  | some xs, some v => (match t with
    | .index => (match xs.findIdx? (fun z => eqV z v) with | some j => .ok (.int (j : Nat)) S | none => .bad)
    | .count => .ok (.int (xs.countP (fun z => eqV z v) : Nat)) S)
  | _, _ => .bad
def bltD : Blt → List D → Sto → R D
  | .len, [.tup l], S => .ok (.int l.length) S
  | .len, [.lst l], S => .ok (.int l.length) S
  | .len, [.scr l], S => .ok (.int l.length) S
  | .len, [.mr m], S => (match S[m]? with | some (.lst l) => .ok (.int l.length) S | _ => .bad)
  | .len, [.str z], S => whenR (decide (z.length ≤ 100000)) (.ok (.int z.length) S)
  | .abs, [.int i], S => .ok (.int (if i < 0 then -i else i)) S
  | .min, [.int i, .int j], S => .ok (.int (if j < i then j else i)) S
  | .max, [.int i, .int j], S => .ok (.int (if j > i then j else i)) S
  | .int, [.int i], S => .ok (.int i) S
  | .int, [.bl b], S => .ok (.int (if b then 1 else 0)) S
  | .int, [.str x], S => whenR (decide (x.length ≤ 640)) (match PySem.intText? x with | some n => .ok (.int n) S | none => .bad)
  | .list, [.tup l], S => .ok (.lst l) S
  | .list, [.lst l], S => .ok (.lst l) S
  | .tuple, [.tup l], S => .ok (.tup l) S
  | .tuple, [.lst l], S => .ok (.tup l) S
  | .tuple, [.mr m], S => (match S[m]? with | some (.lst l) => .ok (.tup l) S | _ => .bad)
  | .sorted, [.lst l], S => (match intsD l with | some ns => whenR (decide (ns.length < 64)) (.ok (.lst ((sortI ns).map D.int)) S) | none => .bad)
  | .all, [.lst l], S => (match bools l with | some bs => .ok (.bl (bs.all id)) S | none => .bad)
  | .str, [.int i], S => whenR (decide (i.natAbs.log2 < 1920)) (.ok (.str (toString i)) S)
  | .str, [.str x], S => .ok (.str x) S
  | _, _, _ => .bad

mutual
/-- the cells that it names are below n -/
def low (n : Nat) : D → Bool
  | .mr i => decide (i < n)
  | .tup l => lows n l
  | .lst l => lows n l
  | .ob _ _ l => lows n l
  | .dct _ l => lows n l
  | .non => true
  | .bl _ => true
  | .int _ => true
  | .str _ => true
  | .scr _ => true
  | .exv _ => true
  | .clo _ => true
def lows (n : Nat) : List D → Bool
  | [] => true
  | d :: ds => low n d && lows n ds
end
structure Tc where
  φ : Nat → List D → Sto → R D
  ar : Nat → Nat
  gd : Nat → D
  fo : Nat → Str → Bool
  lam : E → Sto → R D := fun _ _ => .bad
  wrg : Nat → D → Env → Sto → R D := fun _ _ _ _ => .bad
  sub : Nat → Nat → Option Bool := fun _ _ => none

def itemsD : D → Option (List D)
  | .tup l => some l
  | .lst l => some l
  | .scr l => some (l.map D.int)
  | .str z => some (z.cps.toList.map fun c => D.str ⟨#[c]⟩)
  | _ => none
def rngD (i j : Int) : List D := (List.range (j - i).toNat).map fun k => D.int (i + (k : Nat))
def rng3 (i j c : Int) : List D := (List.range (Builtin.Range.rangeSize i j c).toNat).map fun k => D.int (i + (k : Nat) * c)
def ok3 (i j c : Int) : Bool := decide (1 ≤ c) && decide (c.natAbs < 1073741824) && Builtin.Range.small i j c
def okI (i : Int) : Bool := decide (-100000000 ≤ i) && decide (i ≤ 100000000)
/-- a comprehension's turns -/
def lcL (elt cond : Env → Sto → R D) (i : Nat) (ρ : Env) : List D → Sto → R (List D)
  | [], S => .ok [] S
  | d :: ds, S => match asB (cond (ρ.set i (some d)) S) with
    | .ok true S1 => (match elt (ρ.set i (some d)) S1 with
      | .ok x S2 => (match lcL elt cond i ρ ds S2 with
        | .ok xs S3 => .ok (x :: xs) S3
        | _ => .bad)
      | _ => .bad)
    | .ok false S1 => lcL elt cond i ρ ds S1
    | _ => .bad

mutual
def ev (C : Tc) : E → Env → Sto → R D
  | .var i, ρ, S => (match ρ[i]? with | some (some d) => .ok d S | _ => .bad)
  | .cst d, _, S => .ok (cstD d) S
  | .glo i, _, S => .ok (C.gd i) S
  | .bin o a b, ρ, S => (ev C a ρ S).bind fun x S1 => (ev C b ρ S1).bind fun y S2 => binD o x y S2
  | .neg a, ρ, S => (ev C a ρ S).bind fun x S1 => (match x with | .int i => .ok (.int (-i)) S1 | _ => .bad)
  | .cmp o a b, ρ, S => (ev C a ρ S).bind fun x S1 => (ev C b ρ S1).bind fun y S2 => cmpD o x y S2
  | .chn o o' a b c, ρ, S => (ev C a ρ S).bind fun x S1 => (ev C b ρ S1).bind fun y S2 => (asB (cmpD o x y S2)).bind fun k S3 =>
    (match k with | true => (ev C c ρ S3).bind fun z S4 => cmpD o' y z S4 | false => .ok (.bl false) S3)
  | .not a, ρ, S => (asB (ev C a ρ S)).bind fun k S1 => .ok (.bl (!k)) S1
  | .and a b, ρ, S => (asB (ev C a ρ S)).bind fun k S1 => (match k with | true => ev C b ρ S1 | false => .ok (.bl false) S1)
  | .or a b, ρ, S => (asB (ev C a ρ S)).bind fun k S1 => (match k with | true => .ok (.bl true) S1 | false => ev C b ρ S1)
  | .ite c a b, ρ, S => (asB (ev C c ρ S)).bind fun k S1 => (match k with | true => ev C a ρ S1 | false => ev C b ρ S1)
  | .tup es, ρ, S => (evs C es ρ S).bind fun l S1 => whenR (decide (l.length ≤ 100000)) (.ok (.tup l) S1)
  | .lst es, ρ, S => (evs C es ρ S).bind fun l S1 => whenR (decide (l.length ≤ 100000)) (.ok (.lst l) S1)
  | .dct ks es, ρ, S => (evs C es ρ S).bind fun l S1 => whenR (decide (ks.length = l.length) && decide (ks.length ≤ 15) && decide ks.Nodup && !ks.isEmpty) (.ok (.dct ks l) S1)
  | .sub a b, ρ, S => (ev C a ρ S).bind fun x S1 => (ev C b ρ S1).bind fun y S2 => subD x y S2
  | .slf a b, ρ, S => (ev C a ρ S).bind fun x S1 => (ev C b ρ S1).bind fun y S2 => (match y with | .int i => slcD x (some i) none S2 | _ => .bad)
  | .slt a b, ρ, S => (ev C a ρ S).bind fun x S1 => (ev C b ρ S1).bind fun y S2 => (match y with | .int i => slcD x none (some i) S2 | _ => .bad)
  | .rev a, ρ, S => (ev C a ρ S).bind fun x S1 => (match x with | .lst l => .ok (.lst l.reverse) S1 | _ => .bad)
  | .fld a f, ρ, S => (ev C a ρ S).bind fun x S1 => fldD C.fo x f S1
  | .call id es, ρ, S => (evs C es ρ S).bind fun l S1 => whenR (decide (l.length = C.ar id)) (C.φ id l S1)
  | .mk id c es, ρ, S => (evs C es ρ S).bind fun l S1 => whenR (decide (l.length = C.ar id)) (match C.φ id l S1 with
      | .ok (.ob c' ns l') S2 => whenR (decide (c' = c)) (.ok (.ob c ns l') S2)
      | .exc k S2 => .exc k S2
      | _ => .bad)
  | .mth id c m a es, ρ, S => (ev C a ρ S).bind fun x S1 => (match x with
      | .ob c' ns l' => whenR (decide (c' = c) && decide (m ∉ ns)) ((evs C es ρ S1).bind fun l S2 => whenR (decide (l.length + 1 = C.ar id)) (C.φ id (x :: l) S2))
      | .mr j => (match S1[j]? with
        | some (.ins c' ns l') => whenR (decide (c' = c) && decide (m ∉ ns)) ((evs C es ρ S1).bind fun l S2 => whenR (decide (l.length + 1 = C.ar id)) (C.φ id (x :: l) S2))
        | _ => .bad)
      | _ => .bad)
  | .lr2 a b, ρ, S => (ev C a ρ S).bind fun x S1 => (ev C b ρ S1).bind fun y S2 => (match x, y with | .int i, .int j => whenR (okI i && okI j && decide ((j - i).toNat ≤ 100000)) (.ok (.lst (rngD i j)) S2) | _, _ => .bad)
  | .dget a b c, ρ, S => (ev C a ρ S).bind fun x S1 => (match x with
      | .dct ks l => (ev C b ρ S1).bind fun y S2 => (ev C c ρ S2).bind fun z S3 => (match y with
        | .str k => .ok ((getK ks l k).getD z) S3
        | _ => .bad)
      | _ => .bad)
  | .lam e, _, S => C.lam e S
  | .wrg id a, ρ, S => (ev C a ρ S).bind fun x S1 => C.wrg id x ρ S1
  | .ise a c, ρ, S => (ev C a ρ S).bind fun x S1 => (match x with
      | .exv k => (match C.sub k c with | some b => .ok (.bl b) S1 | none => .bad)
      | _ => .bad)
  | .txt t a b, ρ, S => (ev C a ρ S).bind fun x S1 => (match x with
      | .str z => (ev C b ρ S1).bind fun y S2 => txtD t z y S2
      | _ => .bad)
  | .lms t a b, ρ, S => (ev C a ρ S).bind fun x S1 => (match x with
      | .lst l => (ev C b ρ S1).bind fun y S2 => lmsD t l y S2
      | _ => .bad)
  | .blt b es, ρ, S => (evs C es ρ S).bind fun l S1 => bltD b l S1
  | .isi a t, ρ, S => (ev C a ρ S).bind fun x S1 => isiD x [t] S1
  | .isi2 a t u, ρ, S => (ev C a ρ S).bind fun x S1 => isiD x [t, u] S1
  | .app a e, ρ, S => (ev C a ρ S).bind fun x S1 => (match x with
      | .mr j => (match S1[j]? with
        | some (.lst _) => (ev C e ρ S1).bind fun d S2 => (match S2[j]?, low j d with
          | some (.lst l), true => whenR (decide (l.length < 100000)) (.ok .non (S2.set j (.lst (l ++ [d]))))
          | _, _ => .bad)
        | _ => .bad)
      | _ => .bad)
  | .pop a, ρ, S => (ev C a ρ S).bind fun x S1 => (match x with
      | .mr j => (match S1[j]? with
        | some (.lst l) => (match l[l.length - 1]? with
          | some d => .ok d (S1.set j (.lst l.dropLast))
          | none => .bad)
        | _ => .bad)
      | _ => .bad)
  | .lc elt i it, ρ, S => (evI C it ρ S).bind fun ds S1 => whenR (decide (ds.length ≤ 100000)) (match lcL (ev C elt) (fun _ S => .ok (.bl true) S) i (ρ.set i none) ds S1 with
      | .ok l S2 => .ok (.lst l) S2
      | _ => .bad)
  | .lcc elt i it c, ρ, S => (evI C it ρ S).bind fun ds S1 => whenR (decide (ds.length ≤ 100000)) (match lcL (ev C elt) (ev C c) i (ρ.set i none) ds S1 with
      | .ok l S2 => .ok (.lst l) S2
      | _ => .bad)
def evs (C : Tc) : Es → Env → Sto → R (List D)
  | .nil, _, S => .ok [] S
  | .cons e es, ρ, S => (ev C e ρ S).bind fun d S1 => (evs C es ρ S1).bind fun ds S2 => .ok (d :: ds) S2
def evI (C : Tc) : It → Env → Sto → R (List D)
  | .rg1 a, ρ, S => (ev C a ρ S).bind fun x S1 => (match x with | .int i => whenR (okI i) (.ok (rngD 0 i) S1) | _ => .bad)
  | .rg2 a b, ρ, S => (ev C a ρ S).bind fun x S1 => (ev C b ρ S1).bind fun y S2 => (match x, y with | .int i, .int j => whenR (okI i && okI j) (.ok (rngD i j) S2) | _, _ => .bad)
  | .rg3 a b c, ρ, S => (ev C a ρ S).bind fun x S1 => (ev C b ρ S1).bind fun y S2 => (ev C c ρ S2).bind fun z S3 => (match x, y, z with | .int i, .int j, .int k => whenR (ok3 i j k) (.ok (rng3 i j k) S3) | _, _, _ => .bad)
  | .of e, ρ, S => (ev C e ρ S).bind fun x S1 => (match itemsD x with | some l => .ok l S1 | none => .bad)
end
end Dz

set_option Elab.async false
set_option linter.all false
set_option maxRecDepth 100000
set_option maxHeartbeats 4000000
namespace Dz
open PySem PySem.Spec PyProof.Rows L2

theorem tuple_mul1 (l : Addr) (items : Array Value) (n : Nat) (dd : Option Addr) (sl : Array (Option Value)) (u : Tok) :
    Meets (Builtin.«tuple.__mul__» ⟨[.ref l, .int 1 u], []⟩) (fun _ R s => s.heap.get? l = some { cls := .type "tuple", dict := dd, data := .seq items n, slots := sl } ∧
      R (.ok (.ret (Value.ref l))) s) :=
  .of_wp fun prog w A R s h => by
    obtain ⟨hp, g, d, tk, os⟩ := s
    obtain ⟨hl, h⟩ := h
    have f1 := AutoSeq1.idx_int
    wp_walk using wpAny_loadPart' hl
    repeat (first
      | (refine wpAny_ite_false (by decide) ?_; wp_walk using wpAny_loadPart' hl)
      | (refine wpAny_ite_true (by simp) ?_; wp_walk using wpAny_loadPart' hl))
    exact ⟨_, rfl, h⟩
/-- t * k, k from 1 on -/
def rRepA (K : PySem.W.Frag) : R2 := fun x y H Q => ∃ l k xs, x = .ref l ∧ y = .int k ∧ SqT K H l xs ∧ xs ≠ [] ∧ 1 ≤ k ∧ k ≤ 1000 ∧ xs.length ≤ 1000 ∧ (k = 1 → Q (.ref l) H) ∧ (k ≠ 1 → ∀ p, H p = none → Q (.ref p) (upd H p (.tup (List.replicate k.toNat xs).flatten)))
theorem op_repA {X : Cx} : OpR X (binaryOp .Mult) (rRepA X.K) := by
  intro pins s σ H x y v u Q I rx ry h
  obtain ⟨l, k, xs, rfl, rfl, hT, hne, h1, h2, hz, q1, q2⟩ := h
  by_cases hk : k = 1
  · subst hk
    cases rx
    obtain ⟨t, rfl⟩ := ry
    obtain ⟨its, r, ⟨⟨cls, dd, data, sl⟩, ho, hc, n, hd⟩, hs⟩ := I.tuple hT
    simp only at hc hd
    subst hc hd
    refine wpAny_binaryOp_repeat_ref (T := "tuple") (U := "int") (by decide) ⟨_, ho, rfl⟩ (fun s' => typeIs_int s' 1 t) noFill_tuple_mul F.fills_int_mul F.slot_int_rmul repeat_tuple F.slot_int_index.lookup
      (call_meets F.slot_int_rmul (typeIs_int s 1 t) F.entry_int_rmul (F.args_int_rmul_2 _ _) (int_rmul_tuple 1 t l its.toArray n dd sl)
        ⟨ho, rfl, ⟨_, ho, rfl⟩, call_meets F.slot_tuple_mul ⟨_, ho, rfl⟩ F.entry_tuple_mul (F.args_tuple_mul_2 _ _) (tuple_mul1 l its.toArray n dd sl t) ⟨ho, ?_⟩⟩)
    exact ⟨.ref l, H, I, rfl, q1 rfl⟩
  · exact op_repT pins s σ H _ _ v u Q I rx ry ⟨l, k, xs, rfl, rfl, hT, hne, by omega, h2, hz, q2 hk⟩
end Dz

set_option Elab.async false
set_option linter.all false
set_option maxRecDepth 100000
set_option maxHeartbeats 2000000
namespace Dz
open PySem PySem.Spec PyProof.Rows L2

/-! ### readings of operations -/
def or2 (r r' : R2) : R2 := fun x y H Q => r x y H Q ∨ r' x y H Q
def rStrCat : R2 := fun x y H Q => ∃ i j, x = .str i ∧ y = .str j ∧ i.length + j.length ≤ sizeLine ∧ Q (.str (i ++ j)) H
def rStrRep : R2 := fun x y H Q => ∃ (i : Str) (j : Int), x = .str i ∧ y = .int j ∧ i.length = 1 ∧ 2 ≤ j ∧ j ≤ 1000 ∧ Q (.str ⟨(List.replicate j.toNat i.cps).foldl (· ++ ·) #[]⟩) H
def CDivX (_ j : Int) : Prop := j ≠ 0 ∧ j.natAbs.log2 < 9000
def binR (K : PySem.W.Frag) : Bop → R2
  | .add => or2 (rI0 fun i j => .int (i + j)) (or2 rStrCat (or2 rCat (rCatA K)))
  | .sub => rI0 fun i j => .int (i - j)
  | .mul => or2 (rI CMulW fun i j => .int (i * j)) (or2 rStrRep (rRepA K))
  | .fdiv => rI CDivX fun i j => .int (i.fdiv j)
  | .mod => rI (fun _ j => j ≠ 0) fun i j => .int (i.fmod j)
  | .pow => rI CPow fun i j => .int (i ^ j.toNat)
  | .shl => rI CPow fun i j => .int (i * 2 ^ j.toNat)
def rIsNn : R2 := fun x y H Q => y = .non ∧ Q (.bl (decide (x = .non))) H
def rNotNn : R2 := fun x y H Q => y = .non ∧ Q (.bl (!decide (x = .non))) H
def rInSg : R2 := fun x y H Q => ∃ (c : Nat) (z : Str), x = .str ⟨#[c]⟩ ∧ y = .str z ∧ Q (.bl (decide (c ∈ z.cps.toList))) H
def rNotInSg : R2 := fun x y H Q => ∃ (c : Nat) (z : Str), x = .str ⟨#[c]⟩ ∧ y = .str z ∧ Q (.bl (!decide (c ∈ z.cps.toList))) H
def cmpR (K : PySem.W.Frag) : Cop → R2
  | .eq => or2 rEq (rEqD K)
  | .ne => or2 rNe (rNeD K)
  | .lt => rI0 fun i j => .bl (decide (i < j))
  | .le => rI0 fun i j => .bl (decide (i ≤ j))
  | .gt => rI0 fun i j => .bl (decide (j < i))
  | .ge => rI0 fun i j => .bl (decide (j ≤ i))
  | .isin => or2 (rIn K false) rInSg
  | .notin => or2 (rIn K true) rNotInSg
  | .is => or2 rIsNn rIsB
  | .isnot => or2 rNotNn rNotB
def rIxD : R2 := fun x y H Q => ∃ a v, x = .ref a ∧ DGet H a y (some v) ∧ Q v H
def subR (K : PySem.W.Frag) : R2 := or2 (rIx K) rIxD
def slcR (K : PySem.W.Frag) : V → Option Int → Option Int → Hp → VK → Prop := fun x lo hi H Q => rSlA K x lo hi H Q ∨ rSlL K x lo hi H Q ∨ C8.rSlX x lo hi H Q
def tyN : Ty → String
  | .int => "int" | .bool => "bool" | .str => "str" | .tuple => "tuple" | .list => "list"
def rLenAny (K : PySem.W.Frag) : List V → Hp → VK → Prop := fun xs H Q => (∃ p ys, xs = [.ref p] ∧ (SqL K H p ys ∨ SqT K H p ys) ∧ Q (.int ys.length) H) ∨ (∃ z, xs = [.str z] ∧ z.length ≤ sizeLine ∧ Q (.int z.length) H)
def rAbs : List V → Hp → VK → Prop := fun xs H Q => ∃ i, xs = [.int i] ∧ Q (.int (if i < 0 then -i else i)) H
def rMax2 : List V → Hp → VK → Prop := fun xs H Q => ∃ i j, xs = [.int i, .int j] ∧ Q (.int (if j > i then j else i)) H
def rMin2 : List V → Hp → VK → Prop := fun xs H Q => ∃ i j, xs = [.int i, .int j] ∧ Q (.int (if j < i then j else i)) H
def rInt1 : List V → Hp → VK → Prop := fun xs H Q => ((∃ i, xs = [.int i] ∧ Q (.int i) H) ∨ ∃ k, xs = [.bl k] ∧ Q (.int (if k then 1 else 0)) H) ∨ ∃ a n, xs = [.str a] ∧ PySem.intText? a = some n ∧ a.length ≤ 640 ∧ Q (.int n) H
def rListOf (K : PySem.W.Frag) : List V → Hp → VK → Prop := fun xs H Q => ∃ p ys, xs = [.ref p] ∧ (SqL K H p ys ∨ SqT K H p ys) ∧ ∀ l, H l = none → Q (.ref l) (upd H l (.lst ys))
def rTupleOf (K : PySem.W.Frag) : List V → Hp → VK → Prop := fun xs H Q => ∃ p ys, xs = [.ref p] ∧ ((SqL K H p ys ∧ ∀ l, H l = none → Q (.ref l) (upd H l (.tup ys))) ∨ (SqT K H p ys ∧ Q (.ref p) H))
def rStrI : List V → Hp → VK → Prop := fun xs H Q => (∃ i, xs = [.int i] ∧ i.natAbs.log2 < 1920 ∧ Q (.str (toString i)) H) ∨ ∃ a, xs = [.str a] ∧ Q (.str a) H
def bltR (K : PySem.W.Frag) : Blt → List V → Hp → VK → Prop
  | .len => rLenAny K
  | .abs => rAbs
  | .min => rMin2
  | .max => rMax2
  | .int => rInt1
  | .list => rListOf K
  | .tuple => rTupleOf K
  | .sorted => rSorted K
  | .all => rAll K
  | .str => rStrI

/-! ### promises -/
def SpOf (Y : Tb) (C : Tc) (id : Nat) : Sp := fun vs H Q E => vs.length = C.ar id ∧ ∃ (A : Addr → Prop) (M : List Addr) (S : Sto) (ds : List D),
  Wf Y A M S H ∧ Reps Y (Avd A M) M H ds vs ∧ P Y E A M H (C.φ id ds S) (fun d _ H' => ∀ v, Rep Y (Avd A M) M H' d v → Q v H')
def PIn (Y : Tb) (E : XK) (A : Addr → Prop) (M : List Addr) (H : Hp) (x : Addr) (c : Nat) (r : R D) (Q : VK) : Prop := match r with
  | .ok (.ob c' ns l) S' => c' = c ∧ ∀ H' dx fvs, Ext (x :: M) H H' → Wf Y A M S' H' → H' x = some (.ins (Y.Cs c) dx (ns.zip fvs)) → Reps Y (Avd A M) M H' l fvs → Q .non H'
  | .exc k S' => ∀ H', Ext (x :: M) H H' → Wf Y A M S' H' → E (.ref (Y.ec k)) none H'
  | _ => False
def SpI (Y : Tb) (C : Tc) (id c : Nat) : Sp := fun ws H Q E => ws.length = C.ar id + 1 ∧ ∃ (x : Addr) (vs : List V), ws = .ref x :: vs ∧ ∃ (A : Addr → Prop) (M : List Addr) (S : Sto) (ds : List D),
  Wf Y A (M ++ [x]) (S ++ [.ins c [] []]) H ∧ Reps Y (Avd A (M ++ [x])) (M ++ [x]) H ds vs ∧ PIn Y E A M H x c (C.φ id ds S) Q

def cstV : Cst → V
  | .non => .non | .bl b => .bl b | .int i => .int i | .str x => .str x
/-! ### readings of expressions -/
def iSeq (K : PySem.W.Frag) (te : TE) : TI := fun σ H R => te σ H fun x H1 => ((∃ a, x = .ref a ∧ (∃ xs, SqL K H1 a xs) ∧ R (Itl K a) H1) ∨ (∃ a, x = .ref a ∧ (∃ xs, SqT K H1 a xs) ∧ R (Itt K a) H1)) ∨ ∃ z, x = .str z ∧ R (Its z) H1
/-- isinstance(e, X) of the error that the suite holds -/
def rIseY (Y : Tb) (c : Nat) : List V → Hp → VK → Prop := fun xs H Q => ∃ a k b, Y.hot = some (a, k) ∧ xs = [.ref a, .ref (Y.ec c)] ∧ PySem.W.kitOne Y.K (.ref (Y.ec k)) (.ref (Y.ec c)) = some b ∧ Q (.bl b) H
def tIse (Y : Tb) (c : Nat) (ta : TE) : TE := tCB (rIseY Y c) (tCons ta (tCons (tC (.ref (Y.ec c))) tNil))
def rTx (K : PySem.W.Frag) : Txo → V → List V → Hp → VK → Prop
  | .split => fun x xs H Q => ∃ a b, x = .str a ∧ xs = [.str b] ∧ (b.length == 0) = false ∧ a.length + 2 ≤ sizeLine ∧ rNewStrs (Txt.split a b) H Q
  | .part => fun x xs H Q => ∃ a b, x = .str a ∧ xs = [.str b] ∧ (b.length == 0) = false ∧ a.length ≤ sizeLine ∧ ∀ p, H p = none → Q (.ref p) (upd H p (.tup [.str (Txt.partition a b).1, .str (Txt.partition a b).2.1, .str (Txt.partition a b).2.2]))
  | .join => fun x xs H Q => ∃ a p, ∃ ys : List Str, x = .str a ∧ xs = [.ref p] ∧ (SqL K H p (ys.map V.str) ∨ SqT K H p (ys.map V.str)) ∧ (ys.map (·.length)).sum + ys.length * a.length ≤ 16777216 ∧ Q (.str (Txt.join a ys)) H
def rCntV (K : PySem.W.Frag) : V → List V → Hp → VK → Prop := fun x xs H Q => ∃ (p : Addr) (ys : List V) (y : V), x = .ref p ∧ xs = [y] ∧ SqL K H p ys ∧ flatV y = true ∧ ys.all flatV = true ∧ Q (.int (ys.countP (fun z => eqV z y) : Nat)) H
def rLm (K : PySem.W.Frag) : Lmo → V → List V → Hp → VK → Prop
  | .index => rIndex K
  | .count => rCntV K
mutual
def rdE (Y : Tb) (C : Tc) (EX : XK) : E → TE
  | .var i => tVar i
  | .cst d => tC (cstV d)
  | .glo i => tC (Y.gv i)
  | .bin o a b => tOp (binR Y.K o) (rdE Y C EX a) (rdE Y C EX b)
  | .neg a => tUn (rU fun i => .int (-i)) (rdE Y C EX a)
  | .cmp o a b => tOp (cmpR Y.K o) (rdE Y C EX a) (rdE Y C EX b)
  | .chn o o' a b c => tChain (cmpR Y.K o) (cmpR Y.K o') (rdE Y C EX a) (rdE Y C EX b) (rdE Y C EX c)
  | .not a => tNotV (rdE Y C EX a)
  | .and a b => tAndV (rdE Y C EX a) (rdE Y C EX b)
  | .or a b => tOrV (rdE Y C EX a) (rdE Y C EX b)
  | .ite c a b => tIf (rdT Y C EX c) (rdE Y C EX a) (rdE Y C EX b)
  | .tup es => tTup (rdA Y C EX es)
  | .lst es => tLst (rdA Y C EX es)
  | .dct ks es => tDisp (rdP Y C EX ks es)
  | .sub a b => tOp (subR Y.K) (rdE Y C EX a) (rdE Y C EX b)
  | .slf a b => tSl (slcR Y.K) (rdE Y C EX a) (tPart (rdE Y C EX b)) tNoPart
  | .slt a b => tSl (slcR Y.K) (rdE Y C EX a) tNoPart (tPart (rdE Y C EX b))
  | .rev a => tRevL Y.K (rdE Y C EX a)
  | .fld a f => tFld Y.K (rdE Y C EX a) f
  | .call id es => tCall (SpOf Y C id) [] EX (rdA Y C EX es)
  | .mk id c es => tMake (Y.Cs c) (SpI Y C id c) [] EX (rdA Y C EX es)
  | .mth id c m a es => tMeth (Y.Cs c) m (SpOf Y C id) [] EX (rdE Y C EX a) (rdA Y C EX es)
  | .blt b es => tCB (bltR Y.K b) (rdA Y C EX es)
  | .lr2 a b => tLstRg (tRg2 (rdE Y C EX a) (rdE Y C EX b))
  | .dget a b c => tDGet2 (rdE Y C EX a) (rdE Y C EX b) (rdE Y C EX c)
  | .lam j => Y.rl j
  | .wrg id a => fun σ H Q => rdE Y C EX a σ H fun v H1 => Y.rw id EX v σ H1 Q
  | .ise a c => tIse Y c (rdE Y C EX a)
  | .txt t a b => tM1 (rTx Y.K t) (rdE Y C EX a) (rdE Y C EX b)
  | .lms t a b => tBM Y.K "list" (rLm Y.K t) (rdE Y C EX a) (tCons (rdE Y C EX b) tNil)
  | .isi a t => tCB (rIsi Y.K) (tCons (rdE Y C EX a) (tCons (tC (.ty (tyN t))) tNil))
  | .isi2 a t u => tCB (rIsiT Y.K) (tCons (rdE Y C EX a) (tCons (tTup (tCons (tC (.ty (tyN t))) (tCons (tC (.ty (tyN u))) tNil))) tNil))
  | .app a e => tBM Y.K "list" rAppend (rdE Y C EX a) (tCons (rdE Y C EX e) tNil)
  | .pop a => tBM0 Y.K "list" rPop (rdE Y C EX a)
  | .lc elt i it => tLc (rdI Y C EX it) (gName i) tYes (rdE Y C E0 elt) [i]
  | .lcc elt i it c => tLc (rdI Y C EX it) (gName i) (rdT Y C E0 c) (rdE Y C E0 elt) [i]
def rdA (Y : Tb) (C : Tc) (EX : XK) : Es → TA
  | .nil => tNil
  | .cons e es => tCons (rdE Y C EX e) (rdA Y C EX es)
def rdP (Y : Tb) (C : Tc) (EX : XK) (ks : List Str) : Es → List (TE × TE)
  | .nil => []
  | .cons e es => (tC (.str (ks.headD Str.empty)), rdE Y C EX e) :: rdP Y C EX ks.tail es
def rdI (Y : Tb) (C : Tc) (EX : XK) : It → TI
  | .rg1 a => iRng1 (tCons (rdE Y C EX a) tNil)
  | .rg2 a b => iRng2 (tCons (rdE Y C EX a) (tCons (rdE Y C EX b) tNil))
  | .rg3 a b c => iRng3 (tCons (rdE Y C EX a) (tCons (rdE Y C EX b) (tCons (rdE Y C EX c) tNil)))
  | .of e => iSeq Y.K (rdE Y C EX e)
def rdT (Y : Tb) (C : Tc) (EX : XK) : E → TT
  | .not a => tNot (rdT Y C EX a)
  | .and a b => tAnd (rdT Y C EX a) (rdT Y C EX b)
  | .or a b => tOr (rdT Y C EX a) (rdT Y C EX b)
  | .cmp o a b => tB (tOp (cmpR Y.K o) (rdE Y C EX a) (rdE Y C EX b))
  | .chn o o' a b c => tB (tChain (cmpR Y.K o) (cmpR Y.K o') (rdE Y C EX a) (rdE Y C EX b) (rdE Y C EX c))
  | .var i => tB (tVar i)
  | .cst d => tB (tC (cstV d))
  | .fld a f => tB (tFld Y.K (rdE Y C EX a) f)
  | .call id es => tB (tCall (SpOf Y C id) [] EX (rdA Y C EX es))
  | .mth id c m a es => tB (tMeth (Y.Cs c) m (SpOf Y C id) [] EX (rdE Y C EX a) (rdA Y C EX es))
  | .blt b es => tB (tCB (bltR Y.K b) (rdA Y C EX es))
  | .lr2 a b => tB (tLstRg (tRg2 (rdE Y C EX a) (rdE Y C EX b)))
  | .dget a b c => tB (tDGet2 (rdE Y C EX a) (rdE Y C EX b) (rdE Y C EX c))
  | .lam j => tB (Y.rl j)
  | .wrg id a => tB (fun σ H Q => rdE Y C EX a σ H fun v H1 => Y.rw id EX v σ H1 Q)
  | .ise a c => tB (tIse Y c (rdE Y C EX a))
  | .txt t a b => tB (tM1 (rTx Y.K t) (rdE Y C EX a) (rdE Y C EX b))
  | .lms t a b => tB (tBM Y.K "list" (rLm Y.K t) (rdE Y C EX a) (tCons (rdE Y C EX b) tNil))
  | .isi a t => tB (tCB (rIsi Y.K) (tCons (rdE Y C EX a) (tCons (tC (.ty (tyN t))) tNil)))
  | .isi2 a t u => tB (tCB (rIsiT Y.K) (tCons (rdE Y C EX a) (tCons (tTup (tCons (tC (.ty (tyN t))) (tCons (tC (.ty (tyN u))) tNil))) tNil)))
  | .glo i => tB (tC (Y.gv i))
  | .bin o a b => tB (tOp (binR Y.K o) (rdE Y C EX a) (rdE Y C EX b))
  | .neg a => tB (tUn (rU fun i => .int (-i)) (rdE Y C EX a))
  | .ite c a b => tB (tIf (rdT Y C EX c) (rdE Y C EX a) (rdE Y C EX b))
  | .tup es => tB (tTup (rdA Y C EX es))
  | .lst es => tB (tLst (rdA Y C EX es))
  | .dct ks es => tB (tDisp (rdP Y C EX ks es))
  | .sub a b => tB (tOp (subR Y.K) (rdE Y C EX a) (rdE Y C EX b))
  | .slf a b => tB (tSl (slcR Y.K) (rdE Y C EX a) (tPart (rdE Y C EX b)) tNoPart)
  | .slt a b => tB (tSl (slcR Y.K) (rdE Y C EX a) tNoPart (tPart (rdE Y C EX b)))
  | .rev a => tB (tRevL Y.K (rdE Y C EX a))
  | .mk id c es => tB (tMake (Y.Cs c) (SpI Y C id c) [] EX (rdA Y C EX es))
  | .app a e => tB (tBM Y.K "list" rAppend (rdE Y C EX a) (tCons (rdE Y C EX e) tNil))
  | .pop a => tB (tBM0 Y.K "list" rPop (rdE Y C EX a))
  | .lc elt i it => tB (tLc (rdI Y C EX it) (gName i) tYes (rdE Y C E0 elt) [i])
  | .lcc elt i it c => tB (tLc (rdI Y C EX it) (gName i) (rdT Y C E0 c) (rdE Y C E0 elt) [i])
end
end Dz

set_option Elab.async false
set_option linter.all false
set_option maxRecDepth 100000
set_option maxHeartbeats 2000000
namespace Dz
open PySem PySem.Spec PyProof.Rows L2

theorem sz_of {n : Nat} (h : n ≤ 100000) : n ≤ sizeLine := Nat.le_trans h (by decide)
theorem sz_lt {n : Nat} (h : n < 100000) : n < sizeLine := Nat.lt_of_lt_of_le h (by decide)
section
variable {Y : Tb} {EX : XK} {A : Addr → Prop} {M : List Addr} {S : Sto} {H : Hp}
theorem whenR_P {α : Type} {b : Bool} {r : R α} {F : α → Sto → Hp → Prop} (h : P Y EX A M H (whenR b r) F) : b = true ∧ P Y EX A M H r F := by
  cases b with
  | true => exact ⟨rfl, h⟩
  | false => exact h.elim
theorem rep_int {B : Addr → Prop} {ml : List Addr} {i : Int} {v : V} (h : Rep Y B ml H (.int i) v) : v = .int i := by simpa only [Rep] using h
theorem rep_bl {B : Addr → Prop} {ml : List Addr} {i : Bool} {v : V} (h : Rep Y B ml H (.bl i) v) : v = .bl i := by simpa only [Rep] using h
theorem rep_str {B : Addr → Prop} {ml : List Addr} {i : Str} {v : V} (h : Rep Y B ml H (.str i) v) : v = .str i := by simpa only [Rep] using h
theorem rep_non {B : Addr → Prop} {ml : List Addr} {v : V} (h : Rep Y B ml H .non v) : v = .non := by simpa only [Rep] using h
theorem r_int {B : Addr → Prop} {ml : List Addr} {i : Int} : Rep Y B ml H (.int i) (.int i) := by simp only [Rep]
theorem r_bl {B : Addr → Prop} {ml : List Addr} {i : Bool} : Rep Y B ml H (.bl i) (.bl i) := by simp only [Rep]
theorem r_str {B : Addr → Prop} {ml : List Addr} {i : Str} : Rep Y B ml H (.str i) (.str i) := by simp only [Rep]
theorem r_non {B : Addr → Prop} {ml : List Addr} : Rep Y B ml H .non .non := by simp only [Rep]
theorem flat_rep {B : Addr → Prop} {ml : List Addr} {d : D} {x v : V} (h : flat d = some x) (r : Rep Y B ml H d v) : v = x ∧ flatV x = true := by
  cases d <;> simp only [flat] at h <;> first | cases h | skip
  · exact ⟨rep_non r, rfl⟩
  · exact ⟨rep_bl r, rfl⟩
  · exact ⟨rep_int r, rfl⟩
  · exact ⟨rep_str r, rfl⟩
theorem flat_rep' {B : Addr → Prop} {ml : List Addr} {d : D} {x : V} (h : flat d = some x) : Rep Y B ml H d x := by
  cases d <;> simp only [flat] at h <;> first | cases h | skip
  · exact r_non
  · exact r_bl
  · exact r_int
  · exact r_str
theorem flats_rep {B : Addr → Prop} {ml : List Addr} : ∀ {l : List D} {xs vs : List V}, flats l = some xs → Reps Y B ml H l vs → vs = xs ∧ xs.all flatV = true
  | [], xs, vs, h, r => by
    simp only [flats] at h
    cases h
    exact ⟨r.unnil, rfl⟩
  | d :: l, xs, vs, h, r => by
    obtain ⟨v, ws, rfl, r1, r2⟩ := r.uncons
    simp only [flats] at h
    cases e1 : flat d with
    | none => simp [e1] at h
    | some x =>
      cases e2 : flats l with
      | none => simp [e1, e2] at h
      | some ys =>
        simp only [e1, e2] at h
        cases h
        obtain ⟨rfl, f1⟩ := flat_rep e1 r1
        obtain ⟨rfl, f2⟩ := flats_rep e2 r2
        exact ⟨rfl, by rw [List.all_cons, f1, f2]; rfl⟩
theorem tup_sq {B : Addr → Prop} {ml : List Addr} {l : List D} {v : V} (h : Rep Y B ml H (.tup l) v) : ∃ a vs, v = .ref a ∧ SqT Y.K H a vs ∧ Reps Y B ml H l vs := by
  simp only [Rep] at h
  obtain ⟨a, vs, e, h1, h2⟩ := h
  rcases h1 with ⟨h1, _⟩ | h1
  · exact ⟨a, vs, e, .inl h1, h2⟩
  · exact ⟨a, vs, e, h1.sq H, h2⟩
theorem lst_sq {B : Addr → Prop} {ml : List Addr} {l : List D} {v : V} (h : Rep Y B ml H (.lst l) v) : ∃ a vs, v = .ref a ∧ H a = some (.lst vs) ∧ ¬ B a ∧ Reps Y B ml H l vs := by
  simpa only [Rep] using h
/-- a new tuple, a new list, a new dict -/
theorem new_tup {l : List D} {vs : List V} (w : Wf Y A M S H) (r : Reps Y (Avd A M) M H l vs) {p : Addr} (hp : H p = none) : Rep Y (Avd A M) M (upd H p (.tup vs)) (.tup l) (.ref p) := by
  simp only [Rep]
  exact ⟨p, vs, rfl, .inl ⟨.inl upd_same, w.fresh hp⟩, r.ext (Ext.new hp)⟩
theorem new_lst {l : List D} {vs : List V} (w : Wf Y A M S H) (r : Reps Y (Avd A M) M H l vs) {p : Addr} (hp : H p = none) : Rep Y (Avd A M) M (upd H p (.lst vs)) (.lst l) (.ref p) := by
  simp only [Rep]
  exact ⟨p, vs, rfl, upd_same, w.fresh hp, r.ext (Ext.new hp)⟩
mutual
theorem toPy_dp {B : Addr → Prop} {ml : List Addr} : ∀ (d : D) (x : PyData) (v : V), toPy d = some x → Rep Y B ml H d v → Dp Y.K H v x
  | .non, x, v, h, r => by simp only [toPy] at h; cases h; rw [rep_non r]; exact .non
  | .bl b, x, v, h, r => by simp only [toPy] at h; cases h; rw [rep_bl r]; exact .bl b
  | .int b, x, v, h, r => by simp only [toPy] at h; cases h; rw [rep_int r]; exact .int b
  | .str b, x, v, h, r => by simp only [toPy] at h; cases h; rw [rep_str r]; exact .str b
  | .tup l, x, v, h, r => by
    simp only [toPy] at h
    cases e : toPys l with
    | none => simp [e] at h
    | some q =>
      simp only [e] at h
      cases h
      obtain ⟨a, vs, rfl, h1, h2⟩ := tup_sq r
      exact .tup h1 (toPys_dp l q vs e h2)
  | .lst l, x, v, h, r => by
    simp only [toPy] at h
    cases e : toPys l with
    | none => simp [e] at h
    | some q =>
      simp only [e] at h
      cases h
      obtain ⟨a, vs, rfl, h1, _, h2⟩ := lst_sq r
      exact .lst (SqL.of h1) (toPys_dp l q vs e h2)
  | .scr _, x, v, h, r => by simp only [toPy] at h; cases h
  | .ob _ _ _, x, v, h, r => by simp only [toPy] at h; cases h
  | .dct _ _, x, v, h, r => by simp only [toPy] at h; cases h
  | .mr _, x, v, h, r => by simp only [toPy] at h; cases h
  | .exv _, x, v, h, r => by simp only [toPy] at h; cases h
  | .clo _, x, v, h, r => by simp only [toPy] at h; cases h
theorem toPys_dp {B : Addr → Prop} {ml : List Addr} : ∀ (l : List D) (xs : List PyData) (vs : List V), toPys l = some xs → Reps Y B ml H l vs → DpAll Y.K H vs xs
  | [], xs, vs, h, r => by simp only [toPys] at h; cases h; rw [r.unnil]; exact .nil
  | d :: l, xs, vs, h, r => by
    obtain ⟨v, ws, rfl, r1, r2⟩ := r.uncons
    simp only [toPys] at h
    cases e1 : toPy d with
    | none => simp [e1] at h
    | some x =>
      cases e2 : toPys l with
      | none => simp [e1, e2] at h
      | some ys =>
        simp only [e1, e2] at h
        cases h
        exact .cons (toPy_dp d x v e1 r1) (toPys_dp l ys ws e2 r2)
end
theorem optB_P {o : Option Bool} {f : Bool → Bool} {F : D → Sto → Hp → Prop} (h : P Y EX A M H (optB o f S) F) : ∃ b, o = some b ∧ P Y EX A M H (.ok (.bl (f b)) S) F := by
  cases o with
  | none => exact h.elim
  | some b => exact ⟨b, rfl, h⟩
theorem eqPy_some {d e : D} {b : Bool} (h : eqPy d e = some b) : ∃ x y, toPy d = some x ∧ toPy e = some y ∧ SeqAt.shaped x = true ∧ SeqAt.shaped y = true ∧ PyData.eqv x y = b := by
  unfold eqPy at h
  cases h1 : toPy d with
  | none => simp [h1] at h
  | some x =>
    cases h2 : toPy e with
    | none => simp [h1, h2] at h
    | some y =>
      simp only [h1, h2] at h
      split at h
      · rename_i hs
        rw [Bool.and_eq_true] at hs
        exact ⟨x, y, rfl, rfl, hs.1, hs.2, Option.some.inj h⟩
      · cases h
theorem dec_iff {a b : Prop} [Decidable a] [Decidable b] (h : a ↔ b) : decide a = decide b := by
  by_cases x : a
  · rw [decide_eq_true x, decide_eq_true (h.mp x)]
  · rw [decide_eq_false x, decide_eq_false (fun z => x (h.mpr z))]
/-- the two readings of == -/
theorem eq_cases {B : Addr → Prop} {ml : List Addr} {x y : D} {v u : V} {b : Bool} (h : eqD x y = some b) (r1 : Rep Y B ml H x v) (r2 : Rep Y B ml H y u) :
    (scal v u = true ∧ decide (v = u) = b) ∨ ∃ d e, Dp Y.K H v d ∧ Dp Y.K H u e ∧ SeqAt.shaped d = true ∧ SeqAt.shaped e = true ∧ PyData.eqv d e = b := by
  have py : eqPy x y = some b → (scal v u = true ∧ decide (v = u) = b) ∨ ∃ d e, Dp Y.K H v d ∧ Dp Y.K H u e ∧ SeqAt.shaped d = true ∧ SeqAt.shaped e = true ∧ PyData.eqv d e = b := fun z => by
    obtain ⟨p, q, e1, e2, s1, s2, e⟩ := eqPy_some z
    exact .inr ⟨p, q, toPy_dp x p v e1 r1, toPy_dp y q u e2 r2, s1, s2, e⟩
  unfold eqD at h
  split at h
  case h_15 => exact py h
  all_goals first
    | (obtain rfl := rep_int r1) | (obtain rfl := rep_str r1) | (obtain rfl := rep_bl r1) | (obtain rfl := rep_non r1)
  all_goals first
    | (obtain rfl := rep_int r2) | (obtain rfl := rep_str r2) | (obtain rfl := rep_bl r2) | (obtain rfl := rep_non r2)
  all_goals (refine .inl ⟨rfl, ?_⟩; rw [← Option.some.inj h])
  all_goals first
    | (refine dec_iff ⟨fun z => ?_, fun z => by rw [z]⟩; injection z)
    | exact decide_eq_true rfl
    | exact decide_eq_false (fun z => by cases z)
theorem in_cases {B : Addr → Prop} {ml : List Addr} {x y : D} {v u : V} {b : Bool} (h : inD x y = some b) (r1 : Rep Y B ml H x v) (r2 : Rep Y B ml H y u) :
    (∃ p xs, u = .ref p ∧ (SqL Y.K H p xs ∨ SqT Y.K H p xs) ∧ flatV v = true ∧ xs.all flatV = true ∧ inV v xs = b) ∨ (∃ (c : Nat) (z : Str), v = .str ⟨#[c]⟩ ∧ u = .str z ∧ decide (c ∈ z.cps.toList) = b) := by
  cases y with
  | tup l =>
    simp only [inD] at h
    cases e1 : flat x with
    | none => simp [e1] at h
    | some p =>
      cases e2 : flats l with
      | none => simp [e1, e2] at h
      | some q =>
        simp only [e1, e2] at h
        obtain ⟨a, vs, rfl, h1, h2⟩ := tup_sq r2
        obtain ⟨rfl, f1⟩ := flat_rep e1 r1
        obtain ⟨rfl, f2⟩ := flats_rep e2 h2
        exact .inl ⟨a, _, rfl, .inr h1, f1, f2, Option.some.inj h⟩
  | lst l =>
    simp only [inD] at h
    cases e1 : flat x with
    | none => simp [e1] at h
    | some p =>
      cases e2 : flats l with
      | none => simp [e1, e2] at h
      | some q =>
        simp only [e1, e2] at h
        obtain ⟨a, vs, rfl, h1, _, h2⟩ := lst_sq r2
        obtain ⟨rfl, f1⟩ := flat_rep e1 r1
        obtain ⟨rfl, f2⟩ := flats_rep e2 h2
        exact .inl ⟨a, _, rfl, .inl (SqL.of h1), f1, f2, Option.some.inj h⟩
  | str z =>
    cases x with
    | str w =>
      simp only [inD] at h
      obtain ⟨cs⟩ := w
      split at h
      · rename_i c hc
        refine .inr ⟨c, z, ?_, rep_str r2, Option.some.inj h⟩
        rw [rep_str r1]
        have e : cs = #[c] := by
          apply Array.ext'
          exact hc
        rw [e]
      · cases h
    | _ => simp [inD] at h
  | _ => simp [inD] at h
theorem is_cases {B : Addr → Prop} {ml : List Addr} {x y : D} {v u : V} {b : Bool} (h : isD x y = some b) (r1 : Rep Y B ml H x v) (r2 : Rep Y B ml H y u) :
    (u = .non ∧ decide (v = .non) = b) ∨ (∃ i j : Bool, v = .bl i ∧ u = .bl j ∧ decide (i = j) = b) := by
  cases y with
  | bl j =>
    cases x with
    | bl i => exact .inr ⟨i, j, rep_bl r1, rep_bl r2, by simpa only [isD, Option.some.injEq] using h⟩
    | _ => simp [isD] at h
  | non =>
    refine .inl ⟨rep_non r2, ?_⟩
    cases x <;> simp only [isD, Option.some.injEq, reduceCtorEq] at h
    · rw [rep_non r1, ← h]; exact decide_eq_true rfl
    · rw [rep_bl r1, ← h]; exact decide_eq_false (fun z => by cases z)
    · rw [rep_int r1, ← h]; exact decide_eq_false (fun z => by cases z)
    · rw [rep_str r1, ← h]; exact decide_eq_false (fun z => by cases z)
    · obtain ⟨a, vs, rfl, _⟩ := tup_sq r1; rw [← h]; exact decide_eq_false (fun z => by cases z)
    · obtain ⟨a, vs, rfl, _⟩ := lst_sq r1; rw [← h]; exact decide_eq_false (fun z => by cases z)
  | _ => cases x <;> simp [isD] at h
abbrev FQ (Y : Tb) (A : Addr → Prop) (M : List Addr) (Q : VK) : D → Sto → Hp → Prop := fun d _ H' => ∀ v, Rep Y (Avd A M) M H' d v → Q v H'
theorem cmp_ok {o : Cop} {x y : D} {v u : V} {Q : VK} (w : Wf Y A M S H) (r1 : Rep Y (Avd A M) M H x v) (r2 : Rep Y (Avd A M) M H y u) (h : P Y EX A M H (cmpD o x y S) (FQ Y A M Q)) : cmpR Y.K o v u H Q := by
  cases o with
  | eq =>
    obtain ⟨b, e, h⟩ := optB_P h
    rcases eq_cases e r1 r2 with ⟨h1, h2⟩ | ⟨d, e, h1, h2, h3, h4, h5⟩
    · exact .inl ⟨h1, by rw [h2]; exact h.at w _ r_bl⟩
    · exact .inr ⟨d, e, h1, h2, h3, h4, by rw [h5]; exact h.at w _ r_bl⟩
  | ne =>
    obtain ⟨b, e, h⟩ := optB_P h
    rcases eq_cases e r1 r2 with ⟨h1, h2⟩ | ⟨d, e, h1, h2, h3, h4, h5⟩
    · exact .inl ⟨h1, by rw [h2]; exact h.at w _ r_bl⟩
    · exact .inr ⟨d, e, h1, h2, h3, h4, by rw [h5]; exact h.at w _ r_bl⟩
  | isin =>
    obtain ⟨b, e, h⟩ := optB_P h
    rcases in_cases e r1 r2 with ⟨p, xs, h1, h2, h3, h4, h5⟩ | ⟨c, z, h1, h2, h3⟩
    · exact .inl ⟨p, xs, h1, h2, h3, h4, by rw [h5]; exact h.at w _ r_bl⟩
    · exact .inr ⟨c, z, h1, h2, by rw [h3]; exact h.at w _ r_bl⟩
  | notin =>
    obtain ⟨b, e, h⟩ := optB_P h
    rcases in_cases e r1 r2 with ⟨p, xs, h1, h2, h3, h4, h5⟩ | ⟨c, z, h1, h2, h3⟩
    · exact .inl ⟨p, xs, h1, h2, h3, h4, by rw [h5]; exact h.at w _ r_bl⟩
    · exact .inr ⟨c, z, h1, h2, by rw [h3]; exact h.at w _ r_bl⟩
  | is =>
    obtain ⟨b, e, h⟩ := optB_P h
    rcases is_cases e r1 r2 with ⟨h1, h2⟩ | ⟨i, j, h1, h2, h3⟩
    · exact .inl ⟨h1, by rw [h2]; exact h.at w _ r_bl⟩
    · exact .inr ⟨i, j, h1, h2, by rw [h3]; exact h.at w _ r_bl⟩
  | isnot =>
    obtain ⟨b, e, h⟩ := optB_P h
    rcases is_cases e r1 r2 with ⟨h1, h2⟩ | ⟨i, j, h1, h2, h3⟩
    · exact .inl ⟨h1, by rw [h2]; exact h.at w _ r_bl⟩
    · exact .inr ⟨i, j, h1, h2, by rw [h3]; exact h.at w _ r_bl⟩
  | lt => cases x <;> cases y <;> first | exact h.elim | exact ⟨_, _, rep_int r1, rep_int r2, h.at w _ r_bl⟩
  | le => cases x <;> cases y <;> first | exact h.elim | exact ⟨_, _, rep_int r1, rep_int r2, h.at w _ r_bl⟩
  | gt => cases x <;> cases y <;> first | exact h.elim | exact ⟨_, _, rep_int r1, rep_int r2, h.at w _ r_bl⟩
  | ge => cases x <;> cases y <;> first | exact h.elim | exact ⟨_, _, rep_int r1, rep_int r2, h.at w _ r_bl⟩
theorem Reps.rep {B : Addr → Prop} {ml : List Addr} {l : List D} {vs : List V} (r : Reps Y B ml H l vs) : ∀ k : Nat, Reps Y B ml H (List.replicate k l).flatten (List.replicate k vs).flatten
  | 0 => Reps.nil
  | k + 1 => by
    rw [List.replicate_succ, List.replicate_succ, List.flatten_cons, List.flatten_cons]
    exact r.append (Reps.rep r k)
theorem bin_ok {o : Bop} {x y : D} {v u : V} {Q : VK} (w : Wf Y A M S H) (r1 : Rep Y (Avd A M) M H x v) (r2 : Rep Y (Avd A M) M H y u) (h : P Y EX A M H (binD o x y S) (FQ Y A M Q)) : binR Y.K o v u H Q := by
  cases o with
  | add =>
    cases x <;> cases y <;> first | exact h.elim | skip
    · exact .inl ⟨_, _, rep_int r1, rep_int r2, h.at w _ r_int⟩
    · obtain ⟨c, h⟩ := whenR_P h
      exact .inr (.inl ⟨_, _, rep_str r1, rep_str r2, sz_of (of_decide_eq_true c), h.at w _ r_str⟩)
    · obtain ⟨c, h⟩ := whenR_P h
      obtain ⟨a, vs, rfl, h1, h2⟩ := tup_sq r1
      obtain ⟨b, us, rfl, g1, g2⟩ := tup_sq r2
      have c2 := of_decide_eq_true c
      refine .inr (.inr (.inr ⟨a, b, vs, us, rfl, rfl, h1, g1, ?_, fun z => ?_, fun _ z => ?_, fun _ _ p hp => ?_⟩))
      · rw [← h2.length, ← g2.length]
        exact sz_of c2
      · subst z
        have l : _ = 0 := h2.length
        have e0 := List.eq_nil_of_length_eq_zero l
        subst e0
        rw [List.nil_append] at h
        exact h.at w _ r2
      · subst z
        have l := g2.length
        cases ‹List D› with
        | nil =>
          rw [List.append_nil] at h
          exact h.at w _ r1
        | cons _ _ => simp at l
      · exact h _ (Ext.new hp) (w.new hp) _ (new_tup w (h2.append g2) hp)
    · obtain ⟨c, h⟩ := whenR_P h
      obtain ⟨a, vs, rfl, h1, _, h2⟩ := lst_sq r1
      obtain ⟨b, us, rfl, g1, _, g2⟩ := lst_sq r2
      have c2 := of_decide_eq_true c
      refine .inr (.inr (.inl ⟨a, b, vs, us, rfl, rfl, h1, g1, ?_, fun p hp => ?_⟩))
      · rw [← h2.length, ← g2.length]
        exact sz_of c2
      · exact h _ (Ext.new hp) (w.new hp) _ (new_lst w (h2.append g2) hp)
  | sub => cases x <;> cases y <;> first | exact h.elim | exact ⟨_, _, rep_int r1, rep_int r2, h.at w _ r_int⟩
  | mul =>
    cases x <;> cases y <;> first | exact h.elim | skip
    · obtain ⟨c, h⟩ := whenR_P h
      unfold mulC at c
      exact .inl ⟨_, _, rep_int r1, rep_int r2, (by have c' := of_decide_eq_true c; exact c'), h.at w _ r_int⟩
    · obtain ⟨c, h⟩ := whenR_P h
      simp only [Bool.and_eq_true, decide_eq_true_eq] at c
      exact .inr (.inl ⟨_, _, rep_str r1, rep_int r2, c.1.1, c.1.2, c.2, h.at w _ r_str⟩)
    · obtain ⟨c, h⟩ := whenR_P h
      simp only [Bool.and_eq_true, Bool.not_eq_true', decide_eq_true_eq] at c
      obtain ⟨a, vs, rfl, h1, h2⟩ := tup_sq r1
      obtain ⟨⟨⟨c1, c2⟩, c3⟩, c4⟩ := c
      refine .inr (.inr ⟨a, _, vs, rfl, rep_int r2, h1, fun z => ?_, c2, c3, by rw [← h2.length]; exact c4, fun z => ?_, fun _ p hp => ?_⟩)
      · subst z
        have l : _ = 0 := h2.length
        have e0 := List.eq_nil_of_length_eq_zero l
        subst e0
        cases c1
      · subst z
        rw [show (1 : Int).toNat = 1 from rfl, List.replicate_one, List.flatten_singleton] at h
        exact h.at w _ r1
      · exact h _ (Ext.new hp) (w.new hp) _ (new_tup w (Reps.rep h2 _) hp)
  | fdiv =>
    cases x <;> cases y <;> first | exact h.elim | skip
    obtain ⟨c, h⟩ := whenR_P h
    unfold divC at c
    rw [Bool.and_eq_true] at c
    exact ⟨_, _, rep_int r1, rep_int r2, ⟨of_decide_eq_true c.1, of_decide_eq_true c.2⟩, h.at w _ r_int⟩
  | mod =>
    cases x <;> cases y <;> first | exact h.elim | skip
    obtain ⟨c, h⟩ := whenR_P h
    exact ⟨_, _, rep_int r1, rep_int r2, of_decide_eq_true c, h.at w _ r_int⟩
  | pow =>
    cases x <;> cases y <;> first | exact h.elim | skip
    obtain ⟨c, h⟩ := whenR_P h
    unfold powC at c
    rw [Bool.and_eq_true, Bool.and_eq_true] at c
    exact ⟨_, _, rep_int r1, rep_int r2, ⟨of_decide_eq_true c.1.1, of_decide_eq_true c.1.2, of_decide_eq_true c.2⟩, h.at w _ r_int⟩
  | shl =>
    cases x <;> cases y <;> first | exact h.elim | skip
    obtain ⟨c, h⟩ := whenR_P h
    unfold powC at c
    rw [Bool.and_eq_true, Bool.and_eq_true] at c
    exact ⟨_, _, rep_int r1, rep_int r2, ⟨of_decide_eq_true c.1.1, of_decide_eq_true c.1.2, of_decide_eq_true c.2⟩, h.at w _ r_int⟩
end
end Dz

set_option Elab.async false
set_option linter.all false
set_option maxRecDepth 100000
set_option maxHeartbeats 2000000
namespace Dz
open PySem PySem.Spec PyProof.Rows L2

section
variable {Y : Tb} {EX : XK} {A : Addr → Prop} {M : List Addr} {S : Sto} {H : Hp}
theorem atI_rep {B : Addr → Prop} {ml : List Addr} {l : List D} {vs : List V} {i : Int} {d : D} (r : Reps Y B ml H l vs) (h : atI l i = some d) : ∃ v, atI vs i = some v ∧ Rep Y B ml H d v := by
  unfold atI at h ⊢
  rw [← r.length]
  cases e : ixN l.length i with
  | none => simp [e] at h
  | some j =>
    simp only [e, Option.bind_some] at h ⊢
    exact r.get h
theorem getI_P {l : List D} {i : Int} {F : D → Sto → Hp → Prop} (h : P Y EX A M H (getI l i S) F) : ∃ d, atI l i = some d ∧ P Y EX A M H (.ok d S) F := by
  unfold getI at h
  cases e : atI l i with
  | none => rw [e] at h; exact h.elim
  | some d => rw [e] at h; exact ⟨d, rfl, h⟩
theorem getK_val {B : Addr → Prop} {ml : List Addr} : ∀ {ks : List Str} {l : List D} {vs : List V} {x : Str} {d : D}, Reps Y B ml H l vs → getK ks l x = some d →
    ∃ v, valV ((ks.map (Sum.inr : Str → Key)).zip vs) (Sum.inr x) = some v ∧ Rep Y B ml H d v
  | [], l, vs, x, d, r, h => by cases l <;> simp [getK] at h
  | k :: ks, [], vs, x, d, r, h => by simp [getK] at h
  | k :: ks, e :: l, vs, x, d, r, h => by
    obtain ⟨v, ws, rfl, r1, r2⟩ := r.uncons
    simp only [getK] at h
    simp only [List.map_cons, List.zip_cons_cons]
    split at h
    · rename_i hk
      cases h
      exact ⟨v, valV_pos (by rw [hk]), r1⟩
    · rename_i hk
      obtain ⟨u, h1, h2⟩ := getK_val r2 h
      exact ⟨u, by rw [valV_neg (fun z => hk (Sum.inr.inj z))]; exact h1, h2⟩
theorem getK_look {B : Addr → Prop} {ml : List Addr} : ∀ {ks : List Str} {l : List D} {vs : List V} {x : Str} {d : D}, Reps Y B ml H l vs → getK ks l x = some d →
    ∃ v, (ks.zip vs).lookup x = some v ∧ Rep Y B ml H d v
  | [], l, vs, x, d, r, h => by cases l <;> simp [getK] at h
  | k :: ks, [], vs, x, d, r, h => by simp [getK] at h
  | k :: ks, e :: l, vs, x, d, r, h => by
    obtain ⟨v, ws, rfl, r1, r2⟩ := r.uncons
    simp only [getK] at h
    simp only [List.zip_cons_cons]
    split at h
    · rename_i hk
      cases h
      subst hk
      exact ⟨v, by rw [List.lookup_cons]; simp, r1⟩
    · rename_i hk
      obtain ⟨u, h1, h2⟩ := getK_look r2 h
      have hb : (x == k) = false := by simpa using fun z => hk z.symm
      exact ⟨u, by rw [List.lookup_cons, hb]; exact h1, h2⟩
theorem look_none : ∀ {ns : List Str} {vs : List V} {m : Str}, m ∉ ns → (ns.zip vs).lookup m = none
  | [], vs, m, h => by rfl
  | n :: ns, [], m, h => by rfl
  | n :: ns, v :: vs, m, h => by
    have hb : (m == n) = false := by simpa using fun z => h (by rw [z]; exact List.mem_cons_self)
    rw [List.zip_cons_cons, List.lookup_cons, hb]
    exact look_none fun z => h (List.mem_cons_of_mem _ z)
/-- a cell by its number -/
theorem cell_of {m : Nat} {c : MO} {v : V} (w : Wf Y A M S H) (r : Rep Y (Avd A M) M H (.mr m) v) (e : S[m]? = some c) : ∃ a, v = .ref a ∧ M[m]? = some a ∧ RepM Y (Avd A M) M H c a := by
  simp only [Rep] at r
  obtain ⟨a, h1, rfl⟩ := r
  refine ⟨a, rfl, h1, ?_⟩
  have h := w.cell m a c h1 e
  have mv : ∀ (i : Nat) b, (M.take m)[i]? = some b → M[i]? = some b := fun i b z => by
    rw [List.getElem?_take] at z
    split at z
    · exact z
    · cases z
  cases c with
  | lst l => obtain ⟨vs, h, r⟩ := h; exact ⟨vs, h, Reps.move mv (fun a o n x => ⟨x, n⟩) _ _ r⟩
  | dct ks l => obtain ⟨vs, h, q, r⟩ := h; exact ⟨vs, h, q, Reps.move mv (fun a o n x => ⟨x, n⟩) _ _ r⟩
  | ins c ns l => obtain ⟨dx, vs, h, q, r⟩ := h; exact ⟨dx, vs, h, q, Reps.move mv (fun a o n x => ⟨x, n⟩) _ _ r⟩
  | tab => exact h
theorem scr_sq {l : List Int} {v : V} (r : Rep Y (Avd A M) M H (.scr l) v) : ∃ a, v = .ref a ∧ SqL Y.K H a (l.map V.int) := by
  simp only [Rep] at r
  obtain ⟨a, rfl, h1⟩ := r
  rcases h1 with ⟨h1, _⟩ | h1
  · exact ⟨a, rfl, .inl h1⟩
  · exact ⟨a, rfl, h1.sq H⟩
theorem sub_ok {x y : D} {v u : V} {Q : VK} (w : Wf Y A M S H) (r1 : Rep Y (Avd A M) M H x v) (r2 : Rep Y (Avd A M) M H y u) (h : P Y EX A M H (subD x y S) (FQ Y A M Q)) : subR Y.K v u H Q := by
  unfold subD at h
  split at h
  · rename_i l i
    obtain ⟨d, e, h⟩ := getI_P h
    obtain ⟨a, vs, rfl, h1, h2⟩ := tup_sq r1
    obtain ⟨z, q1, q2⟩ := atI_rep h2 e
    exact .inl (.inr (.inl ⟨a, vs, i, z, rfl, rep_int r2, h1, q1, h.at w _ q2⟩))
  · rename_i l i
    obtain ⟨d, e, h⟩ := getI_P h
    obtain ⟨a, vs, rfl, h1, _, h2⟩ := lst_sq r1
    obtain ⟨z, q1, q2⟩ := atI_rep h2 e
    exact .inl (.inl ⟨a, vs, i, z, rfl, rep_int r2, SqL.of h1, q1, h.at w _ q2⟩)
  · rename_i l i
    obtain ⟨a, rfl, h1⟩ := scr_sq r1
    cases e : atI l i with
    | none => rw [e] at h; exact h.elim
    | some n =>
      rw [e] at h
      refine .inl (.inl ⟨a, _, i, .int n, rfl, rep_int r2, h1, ?_, h.at w _ r_int⟩)
      unfold atI at e ⊢
      rw [List.length_map]
      cases e2 : ixN l.length i with
      | none => simp [e2] at e
      | some j =>
        simp only [e2, Option.bind_some] at e ⊢
        rw [List.getElem?_map, e]
        rfl
  · rename_i z i
    obtain ⟨c, h⟩ := whenR_P h
    cases e : atI z.cps.toList i with
    | none => rw [e] at h; exact h.elim
    | some n =>
      rw [e] at h
      exact .inl (.inr (.inr ⟨z, i, n, rep_str r1, rep_int r2, sz_of (of_decide_eq_true c), e, h.at w _ r_str⟩))
  · rename_i ks l k
    simp only [Rep] at r1
    obtain ⟨a, vs, rfl, h1, _, _, h2⟩ := r1
    cases e : getK ks l k with
    | none => rw [e] at h; exact h.elim
    | some d =>
      rw [e] at h
      obtain ⟨z, q1, q2⟩ := getK_val h2 e
      refine .inr ⟨a, z, rfl, ?_, h.at w _ q2⟩
      rw [rep_str r2, ← q1]
      exact DGet.k (k := Sum.inr k) h1
  · rename_i m i
    split at h
    · rename_i l e0
      obtain ⟨d, e, h⟩ := getI_P h
      obtain ⟨a, rfl, _, vs, h1, h2⟩ := cell_of w r1 e0
      obtain ⟨z, q1, q2⟩ := atI_rep h2 e
      exact .inl (.inl ⟨a, vs, i, z, rfl, rep_int r2, SqL.of h1, q1, h.at w _ q2⟩)
    · exact h.elim
  · rename_i m k
    split at h
    · rename_i ks l e0
      obtain ⟨a, rfl, _, vs, h1, _, h2⟩ := cell_of w r1 e0
      cases e : getK ks l k with
      | none => rw [e] at h; exact h.elim
      | some d =>
        rw [e] at h
        obtain ⟨z, q1, q2⟩ := getK_val h2 e
        refine .inr ⟨a, z, rfl, ?_, h.at w _ q2⟩
        rw [rep_str r2, ← q1]
        exact DGet.k (k := Sum.inr k) h1
    · exact h.elim
  · exact h.elim
theorem cut_rep {B : Addr → Prop} {ml : List Addr} {l : List D} {vs : List V} (r : Reps Y B ml H l vs) (lo hi : Option Int) : Reps Y B ml H (cutD l lo hi) (cutV vs lo hi) := by
  unfold cutD cutV
  rw [← r.length]
  exact (r.drop _).take _
theorem slc_ok {x : D} {v : V} {lo hi : Option Int} {Q : VK} (w : Wf Y A M S H) (r1 : Rep Y (Avd A M) M H x v) (h : P Y EX A M H (slcD x lo hi S) (FQ Y A M Q)) : slcR Y.K v lo hi H Q := by
  cases x with
  | tup l =>
    obtain ⟨a, vs, rfl, h1, h2⟩ := tup_sq r1
    refine .inl ⟨a, vs, rfl, h1, fun z => ?_, fun _ p hp => h _ (Ext.new hp) (w.new hp) _ (new_tup w (cut_rep h2 lo hi) hp)⟩
    rw [← h2.length] at z
    have e : cutD l lo hi = l := by
      unfold cutD
      rw [z.1, z.2]
      simp
    have h : P Y EX A M H (.ok (.tup (cutD l lo hi)) S) (FQ Y A M Q) := h
    rw [e] at h
    exact h.at w _ r1
  | lst l =>
    obtain ⟨a, vs, rfl, h1, _, h2⟩ := lst_sq r1
    exact .inr (.inl ⟨a, vs, rfl, SqL.of h1, fun p hp => h _ (Ext.new hp) (w.new hp) _ (new_lst w (cut_rep h2 lo hi) hp)⟩)
  | str z =>
    obtain ⟨c, h⟩ := whenR_P h
    exact .inr (.inr ⟨z, rep_str r1, sz_of (of_decide_eq_true c), h.at w _ r_str⟩)
  | _ => exact h.elim

/-! what the program's classes give -/
structure TbOk (Y : Tb) (C : Tc) : Prop where
  glo : ∀ i B ml H, Rep Y B ml H (C.gd i) (Y.gv i)
  fld : ∀ c f, C.fo c f = true → Cls Y.K (Y.Cs c) ∧ NoAttr Y.K (Y.Cs c) f
  lam : ∀ e EX ρ S, GE Y EX (Y.rl e) ρ S (C.lam e S)
  wrg : ∀ id EX ρ S d (A : Addr → Prop) (M : List Addr) (σ : SV) (H : Hp) v, RepE Y A M H ρ σ → Wf Y A M S H → Rep Y (Avd A M) M H d v → ∀ Q : VK, P Y EX A M H (C.wrg id d ρ S) (fun d _ H' => ∀ v, Rep Y (Avd A M) M H' d v → Q v H') → Y.rw id EX v σ H Q
  sub : ∀ k c b, C.sub k c = some b → PySem.W.kitOne Y.K (.ref (Y.ec k)) (.ref (Y.ec c)) = some b
theorem fld_ok {C : Tc} {x : D} {f : Str} {v : V} {Q : VK} (T : TbOk Y C) (w : Wf Y A M S H) (r1 : Rep Y (Avd A M) M H x v) (h : P Y EX A M H (fldD C.fo x f S) (FQ Y A M Q)) :
    ∃ a C dx fs u, v = .ref a ∧ H a = some (.ins C dx fs) ∧ Cls Y.K C ∧ NoAttr Y.K C f ∧ fs.lookup f = some u ∧ Q u H := by
  unfold fldD at h
  split at h
  · rename_i c ns l
    obtain ⟨hc, h⟩ := whenR_P h
    simp only [Rep] at r1
    obtain ⟨a, dx, vs, rfl, h1, _, h2⟩ := r1
    cases e : getK ns l f with
    | none => rw [e] at h; exact h.elim
    | some d =>
      rw [e] at h
      obtain ⟨u, q1, q2⟩ := getK_look h2 e
      exact ⟨a, _, dx, _, u, rfl, h1, (T.fld c f hc).1, (T.fld c f hc).2, q1, h.at w _ q2⟩
  · rename_i m
    split at h
    · rename_i c ns l e0
      obtain ⟨hc, h⟩ := whenR_P h
      obtain ⟨a, rfl, _, dx, vs, h1, _, h2⟩ := cell_of w r1 e0
      cases e : getK ns l f with
      | none => rw [e] at h; exact h.elim
      | some d =>
        rw [e] at h
        obtain ⟨u, q1, q2⟩ := getK_look h2 e
        exact ⟨a, _, dx, _, u, rfl, h1, (T.fld c f hc).1, (T.fld c f hc).2, q1, h.at w _ q2⟩
    · exact h.elim
  · exact h.elim
theorem intsD_eq : ∀ {l : List D} {ns : List Int}, intsD l = some ns → l = ns.map D.int
  | [], ns, h => by simp only [intsD] at h; cases h; rfl
  | d :: l, ns, h => by
    cases d <;> simp only [intsD, reduceCtorEq] at h
    cases e : intsD l with
    | none => simp [e] at h
    | some r =>
      simp only [e] at h
      cases h
      rw [List.map_cons, ← intsD_eq e]
theorem bools_eq : ∀ {l : List D} {ns : List Bool}, bools l = some ns → l = ns.map D.bl
  | [], ns, h => by simp only [bools] at h; cases h; rfl
  | d :: l, ns, h => by
    cases d <;> simp only [bools, reduceCtorEq] at h
    cases e : bools l with
    | none => simp [e] at h
    | some r =>
      simp only [e] at h
      cases h
      rw [List.map_cons, ← bools_eq e]
theorem Reps.bools {B : Addr → Prop} {ml : List Addr} : ∀ {ns : List Bool} {vs : List V}, Reps Y B ml H (ns.map D.bl) vs → vs = ns.map V.bl
  | [], vs, h => h.unnil
  | n :: ns, vs, h => by
    obtain ⟨v, ws, rfl, h1, h2⟩ := h.uncons
    rw [rep_bl h1, Reps.bools h2]
    rfl
theorem ins_perm (n : Int) : ∀ l : List Int, (insI n l).Perm (n :: l)
  | [] => .refl _
  | m :: l => by
    unfold insI
    split
    · exact .refl _
    · exact ((ins_perm n l).cons m).trans (.swap n m l)
theorem sort_perm : ∀ l : List Int, (sortI l).Perm l
  | [] => .refl _
  | n :: l => (ins_perm n (sortI l)).trans ((sort_perm l).cons n)
theorem ins_sorted (n : Int) : ∀ {l : List Int}, l.Pairwise (· ≤ ·) → (insI n l).Pairwise (· ≤ ·)
  | [], _ => by simp [insI]
  | m :: l, h => by
    unfold insI
    split
    · rename_i hn
      refine List.Pairwise.cons (fun x hx => ?_) h
      rcases List.mem_cons.mp hx with e | e
      · rw [e]; exact hn
      · exact Int.le_trans hn (List.rel_of_pairwise_cons h e)
    · rename_i hn
      refine List.Pairwise.cons (fun x hx => ?_) (ins_sorted n h.of_cons)
      rcases List.mem_cons.mp ((ins_perm n l).mem_iff.mp hx) with e | e
      · rw [e]; omega
      · exact List.rel_of_pairwise_cons h e
theorem sort_sorted : ∀ l : List Int, (sortI l).Pairwise (· ≤ ·)
  | [] => .nil
  | n :: l => ins_sorted n (sort_sorted l)
theorem sorted_one : ∀ {a b : List Int}, a.Perm b → a.Pairwise (· ≤ ·) → b.Pairwise (· ≤ ·) → a = b
  | [], b, p, _, _ => by rw [List.nil_perm.mp p]
  | x :: a, [], p, _, _ => by have := p.length_eq; simp at this
  | x :: a, y :: b, p, ha, hb => by
    have h1 : x ≤ y := by
      rcases List.mem_cons.mp (p.mem_iff.mpr (List.mem_cons_self : y ∈ y :: b)) with e | e
      · rw [e]; exact Int.le_refl _
      · exact List.rel_of_pairwise_cons ha e
    have h2 : y ≤ x := by
      rcases List.mem_cons.mp (p.mem_iff.mp (List.mem_cons_self : x ∈ x :: a)) with e | e
      · rw [e]; exact Int.le_refl _
      · exact List.rel_of_pairwise_cons hb e
    have e : x = y := Int.le_antisymm h1 h2
    subst e
    rw [sorted_one p.cons_inv ha.of_cons hb.of_cons]
theorem reps1 {B : Addr → Prop} {ml : List Addr} {d : D} {vs : List V} (r : Reps Y B ml H [d] vs) : ∃ v, vs = [v] ∧ Rep Y B ml H d v := by
  obtain ⟨v, ws, rfl, h1, h2⟩ := r.uncons
  exact ⟨v, by rw [h2.unnil], h1⟩
theorem reps2 {B : Addr → Prop} {ml : List Addr} {d e : D} {vs : List V} (r : Reps Y B ml H [d, e] vs) : ∃ v u, vs = [v, u] ∧ Rep Y B ml H d v ∧ Rep Y B ml H e u := by
  obtain ⟨v, ws, rfl, h1, h2⟩ := r.uncons
  obtain ⟨u, rfl, h3⟩ := reps1 h2
  exact ⟨v, u, rfl, h1, h3⟩
theorem blt_ok {b : Blt} {ds : List D} {vs : List V} {Q : VK} (w : Wf Y A M S H) (r : Reps Y (Avd A M) M H ds vs) (h : P Y EX A M H (bltD b ds S) (FQ Y A M Q)) : bltR Y.K b vs H Q := by
  unfold bltD at h
  split at h
  · obtain ⟨v, rfl, r1⟩ := reps1 r
    obtain ⟨a, us, rfl, h1, h2⟩ := tup_sq r1
    exact .inl ⟨a, us, rfl, .inr h1, by rw [← h2.length]; exact h.at w _ r_int⟩
  · obtain ⟨v, rfl, r1⟩ := reps1 r
    obtain ⟨a, us, rfl, h1, _, h2⟩ := lst_sq r1
    exact .inl ⟨a, us, rfl, .inl (SqL.of h1), by rw [← h2.length]; exact h.at w _ r_int⟩
  · obtain ⟨v, rfl, r1⟩ := reps1 r
    obtain ⟨a, rfl, h1⟩ := scr_sq r1
    exact .inl ⟨a, _, rfl, .inl h1, by rw [List.length_map]; exact h.at w _ r_int⟩
  · obtain ⟨v, rfl, r1⟩ := reps1 r
    split at h
    · rename_i e0
      obtain ⟨a, rfl, _, us, h1, h2⟩ := cell_of w r1 e0
      exact .inl ⟨a, us, rfl, .inl (SqL.of h1), by rw [← h2.length]; exact h.at w _ r_int⟩
    · exact h.elim
  · obtain ⟨v, rfl, r1⟩ := reps1 r
    obtain ⟨c, h⟩ := whenR_P h
    exact .inr ⟨_, by rw [rep_str r1], sz_of (of_decide_eq_true c), h.at w _ r_int⟩
  · obtain ⟨v, rfl, r1⟩ := reps1 r
    exact ⟨_, by rw [rep_int r1], h.at w _ r_int⟩
  · obtain ⟨v, u, rfl, r1, r2⟩ := reps2 r
    exact ⟨_, _, by rw [rep_int r1, rep_int r2], h.at w _ r_int⟩
  · obtain ⟨v, u, rfl, r1, r2⟩ := reps2 r
    exact ⟨_, _, by rw [rep_int r1, rep_int r2], h.at w _ r_int⟩
  · obtain ⟨v, rfl, r1⟩ := reps1 r
    exact .inl (.inl ⟨_, by rw [rep_int r1], h.at w _ r_int⟩)
  · obtain ⟨v, rfl, r1⟩ := reps1 r
    exact .inl (.inr ⟨_, by rw [rep_bl r1], h.at w _ r_int⟩)
  · obtain ⟨v, rfl, r1⟩ := reps1 r
    obtain ⟨c, h⟩ := whenR_P h
    split at h
    · rename_i n e0
      exact .inr ⟨_, _, by rw [rep_str r1], e0, of_decide_eq_true c, h.at w _ r_int⟩
    · exact h.elim
  · obtain ⟨v, rfl, r1⟩ := reps1 r
    obtain ⟨a, us, rfl, h1, h2⟩ := tup_sq r1
    exact ⟨a, us, rfl, .inr h1, fun p hp => h _ (Ext.new hp) (w.new hp) _ (new_lst w h2 hp)⟩
  · obtain ⟨v, rfl, r1⟩ := reps1 r
    obtain ⟨a, us, rfl, h1, _, h2⟩ := lst_sq r1
    exact ⟨a, us, rfl, .inl (SqL.of h1), fun p hp => h _ (Ext.new hp) (w.new hp) _ (new_lst w h2 hp)⟩
  · obtain ⟨v, rfl, r1⟩ := reps1 r
    obtain ⟨a, us, e, h1, h2⟩ := tup_sq r1
    subst e
    exact ⟨a, us, rfl, .inr ⟨h1, h.at w _ r1⟩⟩
  · obtain ⟨v, rfl, r1⟩ := reps1 r
    obtain ⟨a, us, rfl, h1, _, h2⟩ := lst_sq r1
    exact ⟨a, us, rfl, .inl ⟨SqL.of h1, fun p hp => h _ (Ext.new hp) (w.new hp) _ (new_tup w h2 hp)⟩⟩
  · obtain ⟨v, rfl, r1⟩ := reps1 r
    split at h
    · rename_i e0
      obtain ⟨a, rfl, _, us, h1, h2⟩ := cell_of w r1 e0
      exact ⟨a, us, rfl, .inl ⟨SqL.of h1, fun p hp => h _ (Ext.new hp) (w.new hp) _ (new_tup w h2 hp)⟩⟩
    · exact h.elim
  · obtain ⟨v, rfl, r1⟩ := reps1 r
    obtain ⟨a, us, rfl, h1, _, h2⟩ := lst_sq r1
    split at h
    · rename_i ns e0
      obtain ⟨c, h⟩ := whenR_P h
      have e := intsD_eq e0
      subst e
      have e2 := h2.ints
      subst e2
      refine ⟨a, ns, rfl, SqL.of h1, of_decide_eq_true c, fun ns' p pm ps hp => ?_⟩
      have e3 : ns' = sortI ns := sorted_one (pm.trans (sort_perm ns).symm) ps (sort_sorted ns)
      subst e3
      exact h _ (Ext.new hp) (w.new hp) _ (new_lst w (Reps.ofInts _) hp)
    · exact h.elim
  · obtain ⟨v, rfl, r1⟩ := reps1 r
    obtain ⟨a, us, rfl, h1, _, h2⟩ := lst_sq r1
    split at h
    · rename_i ns e0
      have e := bools_eq e0
      subst e
      have e2 := h2.bools
      subst e2
      exact ⟨a, ns, rfl, SqL.of h1, h.at w _ r_bl⟩
    · exact h.elim
  · obtain ⟨v, rfl, r1⟩ := reps1 r
    obtain ⟨c, h⟩ := whenR_P h
    exact .inl ⟨_, by rw [rep_int r1], of_decide_eq_true c, h.at w _ r_str⟩
  · obtain ⟨v, rfl, r1⟩ := reps1 r
    exact .inr ⟨_, by rw [rep_str r1], h.at w _ r_str⟩
  · exact h.elim
theorem ty_of {x : D} {us : List Ty} {B : Addr → Prop} {ml : List Addr} {v : V} (h : tyD x = some us) (r : Rep Y B ml H x v) : ∃ n, TyX Y.K H v (.type n) ∧ ∀ t : Ty, kitB n (tyN t) = some (us.contains t) := by
  cases x <;> simp only [tyD, Option.some.injEq, reduceCtorEq] at h <;> subst h
  · rw [rep_non r]; exact ⟨_, .base .non, fun t => by cases t <;> decide +kernel⟩
  · rw [rep_bl r]; exact ⟨_, .base (.bl _), fun t => by cases t <;> decide +kernel⟩
  · rw [rep_int r]; exact ⟨_, .base (.int _), fun t => by cases t <;> decide +kernel⟩
  · rw [rep_str r]; exact ⟨_, .base (.str _), fun t => by cases t <;> decide +kernel⟩
  · refine ⟨"tuple", ?_, fun t => by cases t <;> decide +kernel⟩
    simp only [Rep] at r
    obtain ⟨a, vs, rfl, h1, _⟩ := r
    rcases h1 with ⟨h1 | ⟨o, h1⟩, _⟩ | (h1 | ⟨_, h1⟩) | ⟨o, its, n, k, c, _⟩
    · exact .base (.tup h1)
    · exact .fTuple h1
    · cases h1
    · cases h1
    · exact .kTuple k c
  · refine ⟨"list", ?_, fun t => by cases t <;> decide +kernel⟩
    obtain ⟨a, vs, rfl, h1, _⟩ := lst_sq r
    exact .base (.lst h1)
  · refine ⟨"list", ?_, fun t => by cases t <;> decide +kernel⟩
    simp only [Rep] at r
    obtain ⟨a, rfl, h1⟩ := r
    rcases h1 with ⟨h1 | ⟨o, h1⟩, _⟩ | (h1 | ⟨_, h1⟩) | ⟨o, its, n, k, c, _⟩
    · exact .base (.lst h1)
    · exact .base (.frz h1)
    · cases h1
    · cases h1
    · exact .kList k c
end
end Dz

set_option Elab.async false
set_option linter.all false
set_option maxRecDepth 100000
set_option maxHeartbeats 2000000
namespace Dz
open PySem PySem.Spec PyProof.Rows L2

/-! ### what is walked -/
def ItOk (J : L2.It) (xs : List V) (M : List Addr) (H : Hp) : Prop := ∀ H2, Ext M H H2 → (∀ i, i < xs.length → J.go i H2) ∧ J.stop xs.length H2 ∧ ∀ i y H', i < xs.length → J.yld i H2 y H' → H' = H2 ∧ xs[i]? = some y
def GI (Y : Tb) (EX : XK) (t : TI) (ρ : Env) (S : Sto) (r : R (List D)) : Prop :=
  ∀ (A : Addr → Prop) (M : List Addr) (σ : SV) (H : Hp), RepE Y A M H ρ σ → Wf Y A M S H → ∀ Q : L2.It → Hp → Prop,
    P Y EX A M H r (fun ds _ H' => ∀ J xs, Reps Y (Avd A M) M H' ds xs → ItOk J xs M H' → Q J H') → t σ H Q
section
variable {Y : Tb} {EX : XK} {A : Addr → Prop} {M : List Addr} {S : Sto} {H : Hp}
theorem itl_ok {a : Addr} {xs : List V} (K : PySem.W.Frag) (h : Rd H a (.lst xs)) (n : a ∉ M) (hz : ∀ H2 ys, Ext M H H2 → SqL K H2 a ys → ys = xs) : ItOk (Itl K a) xs M H := fun H2 e => by
  have h2 : Rd H2 a (.lst xs) := by
    rcases h with h | ⟨o, h⟩
    · exact .inl (e a _ n h)
    · exact .inr ⟨o, e a _ n h⟩
  refine ⟨fun i hi => ⟨xs, xs[i], .inl h2, by simp [hi]⟩, ⟨xs, .inl h2, Nat.le_refl _⟩, fun i y H' hi q => ?_⟩
  obtain ⟨e1, q⟩ := q
  exact ⟨e1, q xs (.inl h2)⟩
theorem itr_ok (i j : Int) (h : okI i = true) (h' : okI j = true) : ItOk (Itr i (j - i).toNat) ((List.range (j - i).toNat).map fun k => V.int (i + (k : Nat))) M H := fun H2 e => by
  rw [List.length_map, List.length_range]
  refine ⟨fun k hk => hk, Nat.le_refl _, fun k y H' hk q => ?_⟩
  obtain ⟨e1, e2⟩ := q
  refine ⟨e1, ?_⟩
  rw [List.getElem?_map, List.getElem?_range hk, e2]
  rfl
theorem rng_reps {B : Addr → Prop} {ml : List Addr} (i j : Int) : Reps Y B ml H (rngD i j) ((List.range (j - i).toNat).map fun k => V.int (i + (k : Nat))) := by
  unfold rngD
  generalize List.range (j - i).toNat = l
  induction l with
  | nil => exact Reps.nil
  | cons k l ih => exact Reps.cons r_int ih
theorem str_reps {B : Addr → Prop} {ml : List Addr} {H : Hp} : ∀ l : List Nat, Reps Y B ml H (l.map fun c => D.str ⟨#[c]⟩) (l.map fun c => V.str ⟨#[c]⟩)
  | [] => Reps.nil
  | c :: l => Reps.cons r_str (str_reps l)
theorem items_rep {d : D} {l : List D} {v : V} (r : Rep Y (Avd A M) M H d v) (h : itemsD d = some l) {Q : L2.It → Hp → Prop} (q : ∀ J xs, Reps Y (Avd A M) M H l xs → ItOk J xs M H → Q J H) :
    ((∃ a, v = .ref a ∧ (∃ xs, SqL Y.K H a xs) ∧ Q (Itl Y.K a) H) ∨ (∃ a, v = .ref a ∧ (∃ xs, SqT Y.K H a xs) ∧ Q (Itt Y.K a) H)) ∨ ∃ z, v = .str z ∧ Q (Its z) H := by
  cases d <;> simp only [itemsD, Option.some.injEq, reduceCtorEq] at h <;> subst h
  · rename_i z
    refine .inr ⟨z, rep_str r, q _ (z.cps.toList.map fun c => V.str ⟨#[c]⟩) (str_reps z.cps.toList) fun H2 e => ?_⟩
    rw [List.length_map, Array.length_toList]
    refine ⟨fun i hi => hi, Nat.le_refl _, fun i y H' hi yl => ?_⟩
    obtain ⟨e1, c, h1, h2⟩ := yl
    refine ⟨e1, ?_⟩
    rw [List.getElem?_map, h2, Array.getElem?_toList, h1]
    rfl
  · simp only [Rep] at r
    obtain ⟨a, vs, rfl, h1, h2⟩ := r
    have st : ∀ H2, Ext M H H2 → SqT Y.K H2 a vs := fun H2 e => by
      rcases h1 with ⟨h1, n⟩ | h1
      · have n2 : a ∉ M := fun z => n (.inr z)
        rcases h1 with h1 | ⟨o, h1⟩
        · exact .inl (.inl (e a _ n2 h1))
        · exact .inl (.inr ⟨o, e a _ n2 h1⟩)
      · exact h1.sq H2
    refine .inl (.inr ⟨a, rfl, ⟨vs, st H (Ext.refl M H)⟩, q _ vs h2 fun H2 e => ⟨fun i hi => ⟨vs, vs[i], st H2 e, by simp [hi]⟩, ⟨vs, st H2 e, Nat.le_refl _⟩, fun i y H' hi z => ⟨z.1, z.2 vs (st H2 e)⟩⟩⟩)
  · obtain ⟨a, vs, rfl, h1, n, h2⟩ := lst_sq r
    have st : ∀ H2, Ext M H H2 → SqL Y.K H2 a vs := fun H2 e => .inl (.inl (e a _ (fun z => n (.inr z)) h1))
    refine .inl (.inl ⟨a, rfl, ⟨vs, st H (Ext.refl M H)⟩, q _ vs h2 fun H2 e => ⟨fun i hi => ⟨vs, vs[i], st H2 e, by simp [hi]⟩, ⟨vs, st H2 e, Nat.le_refl _⟩, fun i y H' hi z => ⟨z.1, z.2 vs (st H2 e)⟩⟩⟩)
  · simp only [Rep] at r
    obtain ⟨a, rfl, h1⟩ := r
    have st : ∀ H2, Ext M H H2 → SqL Y.K H2 a _ := fun H2 e => by
      rcases h1 with ⟨h1, n⟩ | h1
      · have n2 : a ∉ M := fun z => n (.inr z)
        rcases h1 with h1 | ⟨o, h1⟩
        · exact .inl (.inl (e a _ n2 h1))
        · exact .inl (.inr ⟨o, e a _ n2 h1⟩)
      · exact h1.sq H2
    refine .inl (.inl ⟨a, rfl, ⟨_, st H (Ext.refl M H)⟩, q _ _ (Reps.ofInts _) fun H2 e => ⟨fun i hi => ⟨_, _, st H2 e, by rw [List.getElem?_eq_getElem hi]⟩, ⟨_, st H2 e, Nat.le_refl _⟩, fun i y H' hi z => ⟨z.1, z.2 _ (st H2 e)⟩⟩⟩)
end
/-! ### loops by what is walked -/
theorem lc_it {J : L2.It} {xs : List V} {g : TG} {tt : TT} {te : TE} {vs : List Nat} {σ : SV} {H1 : Hp} {Dl : Addr} {Qd : Hp → Prop} (Pv : Nat → Hp → Prop) (h0 : Pv 0 (upd H1 Dl (.lst [])))
    (hj : ∀ i H, i ≤ xs.length → Pv i H → (i < xs.length → J.go i H) ∧ (i = xs.length → J.stop i H) ∧ ∀ y H', i < xs.length → J.yld i H y H' → H' = H ∧ xs[i]? = some y)
    (hs : ∀ i x H, xs[i]? = some x → Pv i H → g x (wipe σ vs) H fun σ2 H2 => wipe σ2 vs = wipe σ vs ∧ tt σ2 H2 fun b H3 =>
      if b = true then te σ2 H3 fun y H4 => ∃ acc, H4 Dl = some (.lst acc) ∧ acc.length < sizeLine ∧ Pv (i + 1) (upd H4 Dl (.lst (acc ++ [y]))) else Pv (i + 1) H3) (hd : ∀ H, Pv xs.length H → Qd H) :
    ∃ W : Nat → Nat → Hp → Prop, (∃ m, W 0 m (upd H1 Dl (.lst []))) ∧ ∀ i m H, W i m H →
      (J.stop i H ∧ Qd H) ∨ (J.go i H ∧ ∃ Nx : Hp → Prop, (∀ H', Nx H' → ∃ m', m' < m ∧ W (i + 1) m' H') ∧ ∀ x H', J.yld i H x H' → g x (wipe σ vs) H' fun σ2 H2 => wipe σ2 vs = wipe σ vs ∧ tt σ2 H2 fun b H3 =>
        if b = true then te σ2 H3 fun y H4 => ∃ acc, H4 Dl = some (.lst acc) ∧ acc.length < sizeLine ∧ Nx (upd H4 Dl (.lst (acc ++ [y]))) else Nx H3) := by
  refine ⟨fun i m H => m = xs.length - i ∧ i ≤ xs.length ∧ Pv i H, ⟨xs.length, by simp, Nat.zero_le _, h0⟩, ?_⟩
  rintro i m H ⟨rfl, hi, p⟩
  obtain ⟨j1, j2, j3⟩ := hj i H hi p
  by_cases hlt : i < xs.length
  · refine .inr ⟨j1 hlt, Pv (i + 1), fun H' p' => ⟨xs.length - (i + 1), by omega, rfl, hlt, p'⟩, fun x H' y => ?_⟩
    obtain ⟨e, y2⟩ := j3 x H' hlt y
    subst e
    exact hs i x _ y2 p
  · have e : i = xs.length := by omega
    subst e
    exact .inl ⟨j2 rfl, hd H p⟩
theorem for_it {J : L2.It} {xs : List V} {g : TG} {tb : TS} {Dn : Ends} {σ : SV} {H : Hp} (Pv : Nat → SV → Hp → Prop) (h0 : Pv 0 σ H)
    (hj : ∀ i σ H, i ≤ xs.length → Pv i σ H → (i < xs.length → J.go i H) ∧ (i = xs.length → J.stop i H) ∧ ∀ y H', i < xs.length → J.yld i H y H' → H' = H ∧ xs[i]? = some y)
    (hs : ∀ i x σ H, xs[i]? = some x → Pv i σ H → g x σ H fun σ2 H2 => tb { Dn with nx := Pv (i + 1), ct := Pv (i + 1), bk := Dn.nx } σ2 H2) (hd : ∀ σ H, Pv xs.length σ H → Dn.nx σ H) :
    ∃ W : Nat → Nat → SV → Hp → Prop, (∃ m, W 0 m σ H) ∧ ∀ i m σ H, W i m σ H →
      (J.stop i H ∧ Dn.nx σ H) ∨ (J.go i H ∧ ∃ N : SV → Hp → Prop, (∀ σ' H', N σ' H' → ∃ m', m' < m ∧ W (i + 1) m' σ' H') ∧ ∀ x H', J.yld i H x H' → g x σ H' fun σ2 H2 => tb { Dn with nx := N, ct := N, bk := Dn.nx } σ2 H2) := by
  refine ⟨fun i m σ H => m = xs.length - i ∧ i ≤ xs.length ∧ Pv i σ H, ⟨xs.length, by simp, Nat.zero_le _, h0⟩, ?_⟩
  rintro i m σ H ⟨rfl, hi, p⟩
  obtain ⟨j1, j2, j3⟩ := hj i σ H hi p
  by_cases hlt : i < xs.length
  · refine .inr ⟨j1 hlt, Pv (i + 1), fun σ' H' p' => ⟨xs.length - (i + 1), by omega, rfl, hlt, p'⟩, fun x H' y => ?_⟩
    obtain ⟨e, y2⟩ := j3 x H' hlt y
    subst e
    exact hs i x σ _ y2 p
  · have e : i = xs.length := by omega
    subst e
    exact .inl ⟨j2 rfl, hd σ H p⟩

/-! ### comprehensions -/
section
variable {Y : Tb} {EX : XK} {A : Addr → Prop} {M : List Addr} {S : Sto} {H : Hp}
def AddA (A : Addr → Prop) (p : Addr) : Addr → Prop := fun a => A a ∨ a = p
theorem Wf.addA {H' : Hp} {p : Addr} (w : Wf Y A M S H) (hp : H p = none) (h' : H' p ≠ none) (e : ∀ a o, a ≠ p → H a = some o → H' a = some o) : Wf Y (AddA A p) M S H' := by
  have kp : ∀ a o, H a = some o → H' a = some o := fun a o h => e a o (ne_of_none h hp) h
  refine ⟨w.len, w.nd, fun a ha z => ?_, fun a ha z => ?_, fun i a c e1 e2 => (w.cell i a c e1 e2).move (fun u h => kp a u h) fun b u n h => ⟨kp b u h, fun z => ?_⟩⟩
  · rcases ha with ha | ha
    · cases q : H a with
      | none => exact w.tr a ha q
      | some u => rw [kp a u q] at z; cases z
    · rw [ha] at z; exact h' z
  · rcases z with z | z
    · exact w.dj a ha z
    · exact w.trM ha (by rw [z]; exact hp)
  · rcases z with (z | z) | z
    · exact n (.inl z)
    · rw [z, hp] at h; cases h
    · exact n (.inr z)
theorem Wf.subA {p : Addr} (w : Wf Y (AddA A p) M S H) : Wf Y A M S H := by
  refine ⟨w.len, w.nd, fun a ha => w.tr a (.inl ha), fun a ha z => w.dj a ha (.inl z), fun i a c e1 e2 => (w.cell i a c e1 e2).move (fun _ h => h) fun b u n h => ⟨h, fun z => n ?_⟩⟩
  rcases z with z | z
  · exact .inl (.inl z)
  · exact .inr z
/-- the object at p, which is avoided, is changed -/
theorem Wf.updA {p : Addr} {o : HO} (w : Wf Y (AddA A p) M S H) : Wf Y (AddA A p) M S (upd H p o) := by
  have np : p ∉ M := fun z => w.dj p z (.inr rfl)
  refine ⟨w.len, w.nd, fun a ha z => ?_, w.dj, fun i a c e1 e2 => (w.cell i a c e1 e2).move (fun u h => ?_) fun b u n h => ⟨?_, n⟩⟩
  · by_cases e : a = p
    · rw [e, upd_same] at z; cases z
    · rw [upd_ne e] at z; exact w.tr a ha z
  · rw [upd_ne (fun z => np (by rw [← z]; exact List.mem_of_getElem? e1))]; exact h
  · rw [upd_ne (fun z => n (.inl (.inr z)))]; exact h
theorem lc_ok {elt cond : Env → Sto → R D} {te : TE} {tt : TT} {i : Nat} {ρ : Env} {σ : SV} {ds l : List D} {xs : List V} {J : L2.It} {S2 : Sto} {Qd : V → Hp → Prop}
    (ht : ∀ ρ S, GT Y E0 tt ρ S (asB (cond ρ S))) (he : ∀ ρ S, GE Y E0 te ρ S (elt ρ S)) (env : RepE Y A M H ρ σ) (w : Wf Y A M S H) (rx : Reps Y (Avd A M) M H ds xs) (jo : ItOk J xs M H)
    (hl : ds.length ≤ 100000) (h : lcL elt cond i (ρ.set i none) ds S = .ok l S2) (q : ∀ p H', Ext M H H' → Wf Y A M S2 H' → Rep Y (Avd A M) M H' (.lst l) (.ref p) → Qd (.ref p) H') :
    ∀ Dl, H Dl = none → ∃ W : Nat → Nat → Hp → Prop, (∃ m, W 0 m (upd H Dl (.lst []))) ∧ ∀ n m H, W n m H →
      (J.stop n H ∧ Qd (.ref Dl) H) ∨ (J.go n H ∧ ∃ Nx : Hp → Prop, (∀ H', Nx H' → ∃ m', m' < m ∧ W (n + 1) m' H') ∧ ∀ x H', J.yld n H x H' → gName i x (wipe σ [i]) H' fun σ2 H2 => wipe σ2 [i] = wipe σ [i] ∧ tt σ2 H2 fun b H3 =>
        if b = true then te σ2 H3 fun y H4 => ∃ acc, H4 Dl = some (.lst acc) ∧ acc.length < sizeLine ∧ Nx (upd H4 Dl (.lst (acc ++ [y]))) else Nx H3) := by
  intro Dl hD
  have nD : Dl ∉ M := w.sub hD
  refine lc_it (xs := xs) (fun n H' => ∃ (Sn : Sto) (don rest : List D) (acc : List V), H' Dl = some (.lst acc) ∧ Reps Y (Avd (AddA A Dl) M) M H' don acc ∧ don.length ≤ n ∧ Wf Y (AddA A Dl) M Sn H' ∧ Ext M H H' ∧
      lcL elt cond i (ρ.set i none) (ds.drop n) Sn = .ok rest S2 ∧ don ++ rest = l) ?_ ?_ ?_ ?_
  · refine ⟨S, [], l, [], upd_same, Reps.nil, Nat.le_refl _, w.addA hD (by rw [upd_same]; simp) (fun a o n h => by rw [upd_ne n]; exact h), Ext.new hD, h, rfl⟩
  · intro n H' hn p
    obtain ⟨Sn, don, rest, acc, h1, h2, h3, h4, h5, h6, h7⟩ := p
    obtain ⟨j1, j2, j3⟩ := jo H' h5
    exact ⟨fun z => j1 n z, fun z => by rw [z]; exact j2, fun y H2 z => j3 n y H2 z⟩
  · intro n x H' hx p
    obtain ⟨Sn, don, rest, acc, h1, h2, h3, h4, h5, h6, h7⟩ := p
    have hn : n < ds.length := by
      rw [rx.length]
      exact (List.getElem?_eq_some_iff.mp hx).1
    have rep : Rep Y (Avd (AddA A Dl) M) M H' ds[n] x := by
      obtain ⟨v, q1, q2⟩ := rx.get (i := n) (List.getElem?_eq_getElem hn)
      rw [hx] at q1
      cases q1
      refine Rep.move (fun _ _ z => z) (fun a o na ha => ⟨h5 a o (fun z => na (.inr z)) ha, fun z => ?_⟩) _ _ q2
      rcases z with (z | z) | z
      · exact na (.inl z)
      · rw [z, hD] at ha; cases ha
      · exact na (.inr z)
    have env' : RepE Y (AddA A Dl) M H' ((ρ.set i none).set i (some ds[n])) ((wipe σ [i]).set i (some x)) := by
      refine RepE.set (RepE.ext (H := H) (RepE.more (env.unset i) fun a ha z => ?_) h5) rep
      rcases z with z | z
      · exact .inl z
      · rw [z] at ha; exact absurd hD ha
    rw [List.drop_eq_getElem_cons hn] at h6
    simp only [lcL] at h6
    have wi : wipe ((wipe σ [i]).set i (some x)) [i] = wipe σ [i] := by
      show (((σ.set i none).set i (some x)).set i none) = σ.set i none
      rw [List.set_set, List.set_set]
    refine ⟨wi, ht _ _ _ _ _ _ env' h4 _ ?_⟩
    have keepD : ∀ H2, Ext M H' H2 → H2 Dl = some (.lst acc) := fun H2 e => e _ _ nD h1
    cases hc : asB (cond ((ρ.set i none).set i (some ds[n])) Sn) with
    | exc c S' => rw [hc] at h6; cases h6
    | bad => rw [hc] at h6; cases h6
    | ok b S1 =>
      rw [hc] at h6
      intro H3 e3 w3
      cases b with
      | false =>
        rw [if_neg Bool.false_ne_true]
        exact ⟨S1, don, rest, acc, keepD H3 e3, h2.ext e3, by omega, w3, h5.trans e3, h6, h7⟩
      | true =>
        rw [if_pos rfl]
        simp only at h6
        refine he _ _ _ _ _ _ (env'.ext e3) w3 _ ?_
        cases hx2 : elt ((ρ.set i none).set i (some ds[n])) S1 with
        | exc c S' => rw [hx2] at h6; cases h6
        | bad => rw [hx2] at h6; cases h6
        | ok d S3 =>
          rw [hx2] at h6
          simp only at h6
          cases hr : lcL elt cond i (ρ.set i none) (ds.drop (n + 1)) S3 with
          | exc c S' => rw [hr] at h6; cases h6
          | bad => rw [hr] at h6; cases h6
          | ok rest' S4 =>
            rw [hr] at h6
            simp only [R.ok.injEq] at h6
            obtain ⟨e5, e6⟩ := h6
            subst e6
            intro H4 e4 w4 y ry
            have k4 : H4 Dl = some (.lst acc) := keepD H4 (e3.trans e4)
            have up : Ext M H4 (upd H4 Dl (.lst (acc ++ [y]))) → True := fun _ => trivial
            have mv : ∀ a o, ¬ Avd (AddA A Dl) M a → H4 a = some o → upd H4 Dl (.lst (acc ++ [y])) a = some o ∧ ¬ Avd (AddA A Dl) M a := fun a o na ha => ⟨by rw [upd_ne (fun z => na (.inl (.inr z)))]; exact ha, na⟩
            refine ⟨acc, k4, ?_, S3, don ++ [d], rest', acc ++ [y], upd_same, ?_, ?_, w4.updA, ?_, hr, ?_⟩
            · rw [← h2.length]
              exact sz_lt (by omega)
            · exact (Reps.move (fun _ _ z => z) mv _ _ (h2.ext (e3.trans e4))).append (Reps.cons (Rep.move (fun _ _ z => z) mv _ _ ry) Reps.nil)
            · rw [List.length_append, List.length_singleton]; omega
            · intro a o na ha
              rw [upd_ne (ne_of_none ha hD)]
              exact ((h5.trans e3).trans e4) a o na ha
            · rw [← h7, ← e5, List.append_assoc]; rfl
  · intro H' p
    obtain ⟨Sn, don, rest, acc, h1, h2, h3, h4, h5, h6, h7⟩ := p
    rw [← rx.length, List.drop_length] at h6
    simp only [lcL, R.ok.injEq] at h6
    obtain ⟨e1, e2⟩ := h6
    subst e1 e2
    rw [List.append_nil] at h7
    subst h7
    refine q Dl H' h5 h4.subA ?_
    simp only [Rep]
    refine ⟨Dl, acc, rfl, h1, fun z => ?_, Reps.move (fun _ _ z => z) (fun a o na ha => ⟨ha, fun z => na ?_⟩) _ _ h2⟩
    · rcases z with z | z
      · exact w.tr Dl z hD
      · exact nD z
    · rcases z with z | z
      · exact .inl (.inl z)
      · exact .inr z
theorem Wf.grow {p : Addr} {o : HO} {c : MO} (w : Wf Y A M S H) (hp : H p = none) (hn : RepM Y (Avd A (M ++ [p])) M (upd H p o) c p) : Wf Y A (M ++ [p]) (S ++ [c]) (upd H p o) := by
  have np : p ∉ M := w.sub hp
  refine ⟨by rw [List.length_append, List.length_append, w.len]; rfl, ?_, (w.new hp).tr, fun a ha z => ?_, fun i a c' e1 e2 => ?_⟩
  · rw [List.nodup_append]
    exact ⟨w.nd, by simp, fun a ha b hb e => by rw [List.mem_singleton] at hb; exact np (by rw [← hb, ← e]; exact ha)⟩
  · rcases List.mem_append.mp ha with h | h
    · exact w.dj a h z
    · rw [List.mem_singleton] at h
      exact w.tr a z (by rw [h]; exact hp)
  · by_cases hi : i < M.length
    · rw [List.getElem?_append_left hi] at e1
      rw [List.getElem?_append_left (by rw [← w.len]; exact hi)] at e2
      rw [List.take_append_of_le_length (Nat.le_of_lt hi)]
      have na : a ≠ p := fun z => np (by rw [← z]; exact List.mem_of_getElem? e1)
      refine (w.cell i a c' e1 e2).move (fun u h => by rw [upd_ne na]; exact h) fun b u n h => ⟨by rw [upd_ne (ne_of_none h hp)]; exact h, fun z => ?_⟩
      rcases z with z | z
      · exact n (.inl z)
      · rcases List.mem_append.mp z with z | z
        · exact n (.inr z)
        · rw [List.mem_singleton] at z
          rw [z, hp] at h
          cases h
    · have e : i = M.length := by
        have := (List.getElem?_eq_some_iff.mp e1).1
        rw [List.length_append, List.length_singleton] at this
        omega
      subst e
      rw [List.getElem?_append_right (Nat.le_refl _), Nat.sub_self] at e1
      rw [List.getElem?_append_right (by rw [w.len]; exact Nat.le_refl _), w.len, Nat.sub_self] at e2
      cases e1
      cases e2
      rw [List.take_append_of_le_length (Nat.le_refl _), List.take_length]
      exact hn
theorem grow_rep {p : Addr} {o : HO} (hp : H p = none) {d : D} {v : V} (r : Rep Y (Avd A M) M H d v) : Rep Y (Avd A (M ++ [p])) (M ++ [p]) (upd H p o) d v := by
  refine Rep.move (fun i a h => ?_) (fun b u n h => ⟨by rw [upd_ne (ne_of_none h hp)]; exact h, fun z => ?_⟩) _ _ r
  · rw [List.getElem?_append_left (List.getElem?_eq_some_iff.mp h).1]; exact h
  · rcases z with z | z
    · exact n (.inl z)
    · rcases List.mem_append.mp z with z | z
      · exact n (.inr z)
      · rw [List.mem_singleton] at z
        rw [z, hp] at h
        cases h
theorem grow_reps {p : Addr} {o : HO} (hp : H p = none) {ml : List Addr} {l : List D} {vs : List V} (r : Reps Y (Avd A M) ml H l vs) : Reps Y (Avd A (M ++ [p])) ml (upd H p o) l vs :=
  Reps.move (fun _ _ h => h) (fun b u n h => ⟨by rw [upd_ne (ne_of_none h hp)]; exact h, fun z => by
    rcases z with z | z
    · exact n (.inl z)
    · rcases List.mem_append.mp z with z | z
      · exact n (.inr z)
      · rw [List.mem_singleton] at z
        rw [z, hp] at h
        cases h⟩) _ _ r
end
end Dz

set_option Elab.async false
set_option linter.all false
set_option maxRecDepth 100000
set_option maxHeartbeats 4000000
namespace Dz
open PySem PySem.Spec PyProof.Rows L2

section
variable {Y : Tb} {C : Tc} {EX : XK} {ρ : Env} {S : Sto} {ta tb tc : TE} {a b c : E} {es : Es} {tas : TA}
abbrev GEv (Y : Tb) (C : Tc) (EX : XK) (t : TE) (ρ : Env) (e : E) : Prop := ∀ S, GE Y EX t ρ S (ev C e ρ S)
abbrev GAv (Y : Tb) (C : Tc) (EX : XK) (t : TA) (ρ : Env) (e : Es) : Prop := ∀ S, GA Y EX t ρ S (evs C e ρ S)
abbrev GTv (Y : Tb) (C : Tc) (EX : XK) (t : TT) (ρ : Env) (e : E) : Prop := ∀ S, GT Y EX t ρ S (asB (ev C e ρ S))
theorem asB_P {A : Addr → Prop} {M : List Addr} {H : Hp} {r : R D} {F : Bool → Sto → Hp → Prop} (h : P Y EX A M H (asB r) F) : P Y EX A M H r (fun d S' H' => ∀ v, Rep Y (Avd A M) M H' d v → ∃ k, v = .bl k ∧ F k S' H') := by
  cases r with
  | ok d S' =>
    cases d <;> first | exact h.elim | skip
    exact fun H' e w v r => ⟨_, rep_bl r, h H' e w⟩
  | exc c S' => exact h
  | bad => exact h
theorem asB_bind {A : Addr → Prop} {M : List Addr} {H : Hp} {r : R D} {f : Bool → Sto → R D} {F : D → Sto → Hp → Prop} (h : P Y EX A M H ((asB r).bind f) F) :
    P Y EX A M H r (fun d S' H' => ∀ v, Rep Y (Avd A M) M H' d v → ∃ k, v = .bl k ∧ P Y EX A M H' (f k S') F) := asB_P h.bind
theorem gt_of {t : TE} {r : R D} (h : GE Y EX t ρ S r) : GT Y EX (tB t) ρ S (asB r) := fun A M σ H he w Q hp =>
  h A M σ H he w _ ((asB_P hp).imp fun d S' H' e w' z v rv => z v rv)
theorem g_var {i : Nat} : GEv Y C EX (tVar i) ρ (.var i) := fun S A M σ H he w Q hp => by
  simp only [ev] at hp
  split at hp
  · rename_i d e
    obtain ⟨v, h1, h2⟩ := he.2 i d e
    exact ⟨v, h1, hp.at w v h2⟩
  · exact hp.elim
theorem g_cst {d : Cst} : GEv Y C EX (tC (cstV d)) ρ (.cst d) := fun S A M σ H he w Q hp => by
  simp only [ev] at hp
  refine hp.at w _ ?_
  cases d
  · exact r_non
  · exact r_bl
  · exact r_int
  · exact r_str
theorem g_glo (T : TbOk Y C) {i : Nat} : GEv Y C EX (tC (Y.gv i)) ρ (.glo i) := fun S A M σ H he w Q hp => by
  simp only [ev] at hp
  exact hp.at w _ (T.glo i _ _ _)
theorem g_bin {o : Bop} (ha : GEv Y C EX ta ρ a) (hb : GEv Y C EX tb ρ b) : GEv Y C EX (tOp (binR Y.K o) ta tb) ρ (.bin o a b) := fun S A M σ H he w Q hp => by
  simp only [ev] at hp
  refine ha S A M σ H he w _ (hp.bind.imp fun x S1 H1 e1 w1 h1 v r1 => ?_)
  refine hb S1 A M σ H1 (he.ext e1) w1 _ (h1.bind.imp fun y S2 H2 e2 w2 h2 u r2 => ?_)
  exact bin_ok w2 (r1.ext e2) r2 h2
theorem g_neg (ha : GEv Y C EX ta ρ a) : GEv Y C EX (tUn (rU fun i => .int (-i)) ta) ρ (.neg a) := fun S A M σ H he w Q hp => by
  simp only [ev] at hp
  refine ha S A M σ H he w _ (hp.bind.imp fun x S1 H1 e1 w1 h1 v r1 => ?_)
  cases x <;> first | exact h1.elim | skip
  exact ⟨_, rep_int r1, h1.at w1 _ r_int⟩
theorem g_cmp {o : Cop} (ha : GEv Y C EX ta ρ a) (hb : GEv Y C EX tb ρ b) : GEv Y C EX (tOp (cmpR Y.K o) ta tb) ρ (.cmp o a b) := fun S A M σ H he w Q hp => by
  simp only [ev] at hp
  refine ha S A M σ H he w _ (hp.bind.imp fun x S1 H1 e1 w1 h1 v r1 => ?_)
  refine hb S1 A M σ H1 (he.ext e1) w1 _ (h1.bind.imp fun y S2 H2 e2 w2 h2 u r2 => ?_)
  exact cmp_ok w2 (r1.ext e2) r2 h2
theorem cmpD_bl {o : Cop} {x y d : D} {S S' : Sto} (h : cmpD o x y S = .ok d S') : ∃ k, d = .bl k ∧ S' = S := by
  have ob : ∀ {o : Option Bool} {f : Bool → Bool}, optB o f S = .ok d S' → ∃ k, d = .bl k ∧ S' = S := fun {o f} h => by
    cases o with
    | none => cases h
    | some b =>
      simp only [optB, R.ok.injEq] at h
      exact ⟨_, h.1.symm, h.2.symm⟩
  cases o <;> first
    | exact ob h
    | (simp only [cmpD] at h; split at h <;> first | (simp only [R.ok.injEq] at h; exact ⟨_, h.1.symm, h.2.symm⟩) | cases h)
theorem cmpD_noexc {o : Cop} {x y : D} {S S' : Sto} {c : Nat} (h : cmpD o x y S = .exc c S') : False := by
  have ob : ∀ {o : Option Bool} {f : Bool → Bool}, optB o f S = .exc c S' → False := fun {o f} h => by
    cases o <;> cases h
  cases o <;> first
    | exact ob h
    | (simp only [cmpD] at h; split at h <;> cases h)
theorem g_chn {o o' : Cop} (ha : GEv Y C EX ta ρ a) (hb : GEv Y C EX tb ρ b) (hc : GEv Y C EX tc ρ c) : GEv Y C EX (tChain (cmpR Y.K o) (cmpR Y.K o') ta tb tc) ρ (.chn o o' a b c) := fun S A M σ H he w Q hp => by
  simp only [ev] at hp
  refine ha S A M σ H he w _ (hp.bind.imp fun x S1 H1 e1 w1 h1 v r1 => ?_)
  refine hb S1 A M σ H1 (he.ext e1) w1 _ (h1.bind.imp fun y S2 H2 e2 w2 h2 u r2 => ?_)
  refine cmp_ok (EX := EX) w2 (r1.ext e2) r2 ((asB_bind h2).imp fun d S3 H3 e3 w3 h3 z rz => ?_)
  obtain ⟨k, rfl, h3⟩ := h3 z rz
  refine ⟨k, rfl, ?_⟩
  cases k with
  | true =>
    rw [if_pos rfl]
    refine hc S3 A M σ H3 (he.ext ((e1.trans e2).trans e3)) w3 _ (h3.bind.imp fun p S4 H4 e4 w4 h4 q rq => ?_)
    exact cmp_ok w4 (r2.ext (e3.trans e4)) rq h4
  | false =>
    rw [if_neg Bool.false_ne_true]
    exact h3.at w3 _ r_bl
theorem g_not (ha : GEv Y C EX ta ρ a) : GEv Y C EX (tNotV ta) ρ (.not a) := fun S A M σ H he w Q hp => by
  simp only [ev] at hp
  refine ha S A M σ H he w _ ((asB_bind hp).imp fun x S1 H1 e1 w1 h1 v r1 => ?_)
  obtain ⟨k, rfl, h1⟩ := h1 v r1
  exact ⟨k, rfl, h1.at w1 _ r_bl⟩
theorem g_and (ha : GEv Y C EX ta ρ a) (hb : GEv Y C EX tb ρ b) : GEv Y C EX (tAndV ta tb) ρ (.and a b) := fun S A M σ H he w Q hp => by
  simp only [ev] at hp
  refine ha S A M σ H he w _ ((asB_bind hp).imp fun x S1 H1 e1 w1 h1 v r1 => ?_)
  obtain ⟨k, rfl, h1⟩ := h1 v r1
  refine ⟨k, rfl, ?_⟩
  cases k with
  | true =>
    rw [if_pos rfl]
    exact hb S1 A M σ H1 (he.ext e1) w1 _ h1
  | false =>
    rw [if_neg Bool.false_ne_true]
    exact h1.at w1 _ r_bl
theorem g_or (ha : GEv Y C EX ta ρ a) (hb : GEv Y C EX tb ρ b) : GEv Y C EX (tOrV ta tb) ρ (.or a b) := fun S A M σ H he w Q hp => by
  simp only [ev] at hp
  refine ha S A M σ H he w _ ((asB_bind hp).imp fun x S1 H1 e1 w1 h1 v r1 => ?_)
  obtain ⟨k, rfl, h1⟩ := h1 v r1
  refine ⟨k, rfl, ?_⟩
  cases k with
  | false =>
    rw [if_neg Bool.false_ne_true]
    exact hb S1 A M σ H1 (he.ext e1) w1 _ h1
  | true =>
    rw [if_pos rfl]
    exact h1.at w1 _ r_bl
theorem t_not {t : TT} (ha : GTv Y C EX t ρ a) : GTv Y C EX (tNot t) ρ (.not a) := fun S A M σ H he w Q hp => by
  simp only [ev] at hp
  refine ha S A M σ H he w _ ?_
  revert hp
  cases asB (ev C a ρ S) with
  | ok k S1 => exact fun hp H1 e1 w1 => hp H1 e1 w1
  | exc k S1 => exact fun hp => hp
  | bad => exact fun hp => hp
theorem t_and {t u : TT} (ha : GTv Y C EX t ρ a) (hb : GTv Y C EX u ρ b) : GTv Y C EX (tAnd t u) ρ (.and a b) := fun S A M σ H he w Q hp => by
  simp only [ev] at hp
  refine ha S A M σ H he w _ ?_
  revert hp
  cases asB (ev C a ρ S) with
  | ok k S1 =>
    intro hp H1 e1 w1
    cases k with
    | true =>
      rw [if_pos rfl]
      exact hb S1 A M σ H1 (he.ext e1) w1 _ (P.mono (r := asB (ev C b ρ S1)) hp e1)
    | false =>
      rw [if_neg Bool.false_ne_true]
      exact hp H1 e1 w1
  | exc k S1 => exact fun hp => hp
  | bad => exact fun hp => hp
theorem t_or {t u : TT} (ha : GTv Y C EX t ρ a) (hb : GTv Y C EX u ρ b) : GTv Y C EX (tOr t u) ρ (.or a b) := fun S A M σ H he w Q hp => by
  simp only [ev] at hp
  refine ha S A M σ H he w _ ?_
  revert hp
  cases asB (ev C a ρ S) with
  | ok k S1 =>
    intro hp H1 e1 w1
    cases k with
    | false =>
      rw [if_neg Bool.false_ne_true]
      exact hb S1 A M σ H1 (he.ext e1) w1 _ (P.mono (r := asB (ev C b ρ S1)) hp e1)
    | true =>
      rw [if_pos rfl]
      exact hp H1 e1 w1
  | exc k S1 => exact fun hp => hp
  | bad => exact fun hp => hp
theorem g_ite {t : TT} (hc : GTv Y C EX t ρ c) (ha : GEv Y C EX ta ρ a) (hb : GEv Y C EX tb ρ b) : GEv Y C EX (tIf t ta tb) ρ (.ite c a b) := fun S A M σ H he w Q hp => by
  simp only [ev] at hp
  refine hc S A M σ H he w _ (hp.bind.imp fun k S1 H1 e1 w1 h1 => ?_)
  cases k with
  | true =>
    rw [if_pos rfl]
    exact ha S1 A M σ H1 (he.ext e1) w1 _ h1
  | false =>
    rw [if_neg Bool.false_ne_true]
    exact hb S1 A M σ H1 (he.ext e1) w1 _ h1
theorem g_tup (h : GAv Y C EX tas ρ es) : GEv Y C EX (tTup tas) ρ (.tup es) := fun S A M σ H he w Q hp => by
  simp only [ev] at hp
  refine h S A M σ H he w _ (hp.bind.imp fun l S1 H1 e1 w1 h1 vs rs => ?_)
  obtain ⟨k, h1⟩ := whenR_P h1
  refine ⟨?_, fun p np => h1 _ (Ext.new np) (w1.new np) _ (new_tup w1 rs np)⟩
  rw [← rs.length]
  exact sz_of (of_decide_eq_true k)
theorem g_lst (h : GAv Y C EX tas ρ es) : GEv Y C EX (tLst tas) ρ (.lst es) := fun S A M σ H he w Q hp => by
  simp only [ev] at hp
  refine h S A M σ H he w _ (hp.bind.imp fun l S1 H1 e1 w1 h1 vs rs => ?_)
  obtain ⟨k, h1⟩ := whenR_P h1
  refine ⟨?_, fun p np => h1 _ (Ext.new np) (w1.new np) _ (new_lst w1 rs np)⟩
  rw [← rs.length]
  exact sz_of (of_decide_eq_true k)
theorem g_sub (ha : GEv Y C EX ta ρ a) (hb : GEv Y C EX tb ρ b) : GEv Y C EX (tOp (subR Y.K) ta tb) ρ (.sub a b) := fun S A M σ H he w Q hp => by
  simp only [ev] at hp
  refine ha S A M σ H he w _ (hp.bind.imp fun x S1 H1 e1 w1 h1 v r1 => ?_)
  refine hb S1 A M σ H1 (he.ext e1) w1 _ (h1.bind.imp fun y S2 H2 e2 w2 h2 u r2 => ?_)
  exact sub_ok w2 (r1.ext e2) r2 h2
theorem g_slf (ha : GEv Y C EX ta ρ a) (hb : GEv Y C EX tb ρ b) : GEv Y C EX (tSl (slcR Y.K) ta (tPart tb) tNoPart) ρ (.slf a b) := fun S A M σ H he w Q hp => by
  simp only [ev] at hp
  refine ha S A M σ H he w _ (hp.bind.imp fun x S1 H1 e1 w1 h1 v r1 => ?_)
  refine hb S1 A M σ H1 (he.ext e1) w1 _ (h1.bind.imp fun y S2 H2 e2 w2 h2 u r2 => ?_)
  cases y <;> first | exact h2.elim | skip
  exact ⟨_, rep_int r2, slc_ok w2 (r1.ext e2) h2⟩
theorem g_slt (ha : GEv Y C EX ta ρ a) (hb : GEv Y C EX tb ρ b) : GEv Y C EX (tSl (slcR Y.K) ta tNoPart (tPart tb)) ρ (.slt a b) := fun S A M σ H he w Q hp => by
  simp only [ev] at hp
  refine ha S A M σ H he w _ (hp.bind.imp fun x S1 H1 e1 w1 h1 v r1 => ?_)
  refine hb S1 A M σ H1 (he.ext e1) w1 _ (h1.bind.imp fun y S2 H2 e2 w2 h2 u r2 => ?_)
  cases y <;> first | exact h2.elim | skip
  exact ⟨_, rep_int r2, slc_ok w2 (r1.ext e2) h2⟩
theorem g_rev (ha : GEv Y C EX ta ρ a) : GEv Y C EX (tRevL Y.K ta) ρ (.rev a) := fun S A M σ H he w Q hp => by
  simp only [ev] at hp
  refine ha S A M σ H he w _ (hp.bind.imp fun x S1 H1 e1 w1 h1 v r1 => ?_)
  cases x <;> first | exact h1.elim | skip
  obtain ⟨p, vs, rfl, q1, _, q2⟩ := lst_sq r1
  exact ⟨p, vs, rfl, SqL.of q1, fun q np => h1 _ (Ext.new np) (w1.new np) _ (new_lst w1 q2.reverse np)⟩
theorem g_fld {f : Str} (T : TbOk Y C) (ha : GEv Y C EX ta ρ a) : GEv Y C EX (tFld Y.K ta f) ρ (.fld a f) := fun S A M σ H he w Q hp => by
  simp only [ev] at hp
  refine ha S A M σ H he w _ (hp.bind.imp fun x S1 H1 e1 w1 h1 v r1 => ?_)
  exact fld_ok T w1 r1 h1
theorem g_call {id : Nat} (h : GAv Y C EX tas ρ es) : GEv Y C EX (tCall (SpOf Y C id) [] EX tas) ρ (.call id es) := fun S A M σ H he w Q hp => by
  simp only [ev] at hp
  refine h S A M σ H he w _ (hp.bind.imp fun l S1 H1 e1 w1 h1 vs rs => ?_)
  obtain ⟨k, h1⟩ := whenR_P h1
  rw [List.append_nil]
  exact ⟨by rw [← rs.length]; exact of_decide_eq_true k, A, M, S1, l, w1, rs, h1⟩
theorem g_mk {id c : Nat} (h : GAv Y C EX tas ρ es) : GEv Y C EX (tMake (Y.Cs c) (SpI Y C id c) [] EX tas) ρ (.mk id c es) := fun S A M σ H he w Q hp => by
  simp only [ev] at hp
  refine h S A M σ H he w _ (hp.bind.imp fun l S1 H1 e1 w1 h1 vs rs => ?_)
  obtain ⟨k, h1⟩ := whenR_P h1
  intro x dx nx ndx nex
  have s1 : ∀ a o, H1 a = some o → (upd (upd H1 dx (.own x)) x (.ins (Y.Cs c) dx [])) a = some o := fun a o h => by
    rw [upd_ne (ne_of_none h nx), upd_ne (ne_of_none h ndx)]
    exact h
  have nx' : upd H1 dx (.own x) x = none := by rw [upd_ne (fun z => nex z.symm)]; exact nx
  have w2 : Wf Y A (M ++ [x]) (S1 ++ [.ins c [] []]) (upd (upd H1 dx (.own x)) x (.ins (Y.Cs c) dx [])) := (w1.new ndx).grow nx' ⟨dx, [], by rw [upd_same]; rfl, rfl, Reps.nil⟩
  have rs2 : Reps Y (Avd A (M ++ [x])) (M ++ [x]) (upd (upd H1 dx (.own x)) x (.ins (Y.Cs c) dx [])) l vs :=
    Reps.move (fun i a h => by rw [List.getElem?_append_left (List.getElem?_eq_some_iff.mp h).1]; exact h) (fun b u n h => ⟨s1 b u h, fun z => by
      rcases z with z | z
      · exact n (.inl z)
      · rcases List.mem_append.mp z with z | z
        · exact n (.inr z)
        · rw [List.mem_singleton] at z
          rw [z, nx] at h
          cases h⟩) _ _ rs
  rw [List.append_nil]
  refine ⟨by rw [List.length_cons, ← rs.length, of_decide_eq_true k], x, vs, rfl, A, M, S1, l, w2, rs2, ?_⟩
  have back : ∀ H', Ext (x :: M) (upd (upd H1 dx (.own x)) x (.ins (Y.Cs c) dx [])) H' → Ext M H1 H' := fun H' e a o na ha =>
    e a o (fun z => by
      rcases List.mem_cons.mp z with z | z
      · rw [z, nx] at ha; cases ha
      · exact na z) (s1 a o ha)
  revert h1
  unfold PIn
  cases C.φ id l S1 with
  | bad => exact fun h1 => h1
  | exc c' S2 => exact fun h1 H' e w' => h1 H' (back H' e) w'
  | ok d S2 =>
    cases d <;> first | exact fun h1 => h1.elim | skip
    intro h1
    obtain ⟨k2, h1⟩ := whenR_P h1
    refine ⟨of_decide_eq_true k2, fun H' dx' fvs e w' hx rf => ⟨rfl, h1 H' (back H' e) w' _ ?_⟩⟩
    simp only [Rep]
    exact ⟨x, dx', fvs, rfl, hx, w1.fresh nx, rf⟩
theorem g_mth {id c : Nat} {m : Str} (ha : GEv Y C EX ta ρ a) (h : GAv Y C EX tas ρ es) : GEv Y C EX (tMeth (Y.Cs c) m (SpOf Y C id) [] EX ta tas) ρ (.mth id c m a es) := fun S A M σ H he w Q hp => by
  simp only [ev] at hp
  refine ha S A M σ H he w _ (hp.bind.imp fun x S1 H1 e1 w1 h1 v r1 => ?_)
  have fin : ∀ {ns : List Str} {p dx : Addr} {us : List V}, v = .ref p → H1 p = some (.ins (Y.Cs c) dx (ns.zip us)) → m ∉ ns →
      P Y EX A M H1 ((evs C es ρ S1).bind fun l S2 => whenR (decide (l.length + 1 = C.ar id)) (C.φ id (x :: l) S2)) (FQ Y A M Q) →
      ∃ a dx fs, v = .ref a ∧ H1 a = some (.ins (Y.Cs c) dx fs) ∧ fs.lookup m = none ∧ tas σ H1 fun vs H2 => SpOf Y C id (v :: (vs ++ [])) H2 Q EX := fun {ns p dx us} e0 q1 q2 h1 => by
    refine ⟨p, dx, _, e0, q1, look_none q2, h S1 A M σ H1 (he.ext e1) w1 _ (h1.bind.imp fun l S2 H2 e2 w2 h2 vs rs => ?_)⟩
    obtain ⟨k, h2⟩ := whenR_P h2
    rw [List.append_nil]
    exact ⟨by rw [List.length_cons, ← rs.length]; exact of_decide_eq_true k, A, M, S2, x :: l, w2, Reps.cons (r1.ext e2) rs, h2⟩
  split at h1
  · rename_i c' ns l'
    obtain ⟨k, h9⟩ := whenR_P h1
    rw [Bool.and_eq_true] at k
    have k1 := of_decide_eq_true k.1
    subst k1
    have r1' := r1
    simp only [Rep] at r1'
    obtain ⟨p, dx, us, e0, q1, _, _⟩ := r1'
    exact fin e0 q1 (of_decide_eq_true k.2) h9
  · rename_i j
    split at h1
    · rename_i c' ns l' e0
      obtain ⟨k, h9⟩ := whenR_P h1
      rw [Bool.and_eq_true] at k
      have k1 := of_decide_eq_true k.1
      subst k1
      obtain ⟨p, e2, _, dx, us, q1, _⟩ := cell_of w1 r1 e0
      exact fin e2 q1 (of_decide_eq_true k.2) h9
    · exact h1.elim
  · exact h1.elim
theorem g_blt {b : Blt} (h : GAv Y C EX tas ρ es) : GEv Y C EX (tCB (bltR Y.K b) tas) ρ (.blt b es) := fun S A M σ H he w Q hp => by
  simp only [ev] at hp
  refine h S A M σ H he w _ (hp.bind.imp fun l S1 H1 e1 w1 h1 vs rs => ?_)
  exact blt_ok w1 rs h1
theorem g_isi {t : Ty} (ha : GEv Y C EX ta ρ a) : GEv Y C EX (tCB (rIsi Y.K) (tCons ta (tCons (tC (.ty (tyN t))) tNil))) ρ (.isi a t) := fun S A M σ H he w Q hp => by
  simp only [ev] at hp
  refine ha S A M σ H he w _ (hp.bind.imp fun x S1 H1 e1 w1 h1 v r1 => ?_)
  unfold isiD at h1
  split at h1
  · rename_i us e0
    obtain ⟨n, t1, t2⟩ := ty_of e0 r1
    refine ⟨v, .ty (tyN t), .type n, .type (tyN t), us.contains t, rfl, .ty _, t1, kit_ty (t2 t), ?_⟩
    have e : ([t].any fun t => us.contains t) = us.contains t := by simp
    rw [e] at h1
    exact h1.at w1 _ r_bl
  · exact h1.elim
theorem g_isi2 {t u : Ty} (ha : GEv Y C EX ta ρ a) : GEv Y C EX (tCB (rIsiT Y.K) (tCons ta (tCons (tTup (tCons (tC (.ty (tyN t))) (tCons (tC (.ty (tyN u))) tNil))) tNil))) ρ (.isi2 a t u) := fun S A M σ H he w Q hp => by
  simp only [ev] at hp
  refine ha S A M σ H he w _ (hp.bind.imp fun x S1 H1 e1 w1 h1 v r1 => ?_)
  unfold isiD at h1
  split at h1
  · rename_i us e0
    refine ⟨by show 2 ≤ sizeLine; decide, fun p np => ?_⟩
    have r2 := r1.ext (Ext.new (o := .tup [V.ty (tyN t), V.ty (tyN u)]) np)
    obtain ⟨n, t1, t2⟩ := ty_of e0 r2
    refine ⟨v, p, [V.ty (tyN t), V.ty (tyN u)], .type n, [.type (tyN t), .type (tyN u)], us.contains t || us.contains u, rfl, upd_same, .cons (.ty _) (.cons (.ty _) .nil), t1, ?_, ?_⟩
    · refine kitAny_cons (kit_ty (t2 t)) (fun z => ?_) (fun z => by rw [z]; rfl)
      rw [z, Bool.false_or]
      exact kitAny_cons (kit_ty (t2 u)) (fun z => by rw [z]; exact kitAny_nil) (fun z => z)
    · have e : ([t, u].any fun t => us.contains t) = (us.contains t || us.contains u) := by simp
      rw [e] at h1
      exact h1 _ (Ext.new np) (w1.new np) _ r_bl
  · exact h1.elim
end
end Dz

set_option Elab.async false
set_option linter.all false
set_option maxRecDepth 100000
set_option maxHeartbeats 4000000
namespace Dz
open PySem PySem.Spec PyProof.Rows L2

section
variable {Y : Tb} {C : Tc} {EX : XK} {ρ : Env} {S : Sto} {ta tb tc : TE} {a b c : E} {es : Es} {tas : TA}
def pairsOf : List Str → List V → List (V × V)
  | _, [] => []
  | ks, v :: vs => (.str (ks.headD Str.empty), v) :: pairsOf ks.tail vs
theorem pairsOf_eq : ∀ {ks : List Str} {vs : List V}, ks.length = vs.length → pairsOf ks vs = ((ks.map (Sum.inr : Str → Key)).zip vs).map fun kv => (kV kv.1, kv.2)
  | [], [], _ => rfl
  | [], v :: vs, h => by simp at h
  | k :: ks, [], h => by simp at h
  | k :: ks, v :: vs, h => by
    simp only [pairsOf, List.headD_cons, List.tail_cons, List.map_cons, List.zip_cons_cons]
    rw [pairsOf_eq (by simpa using h)]
    rfl
theorem valV_zip_none : ∀ {ks : List Str} {vs : List V} {k : Str}, k ∉ ks → valV ((ks.map (Sum.inr : Str → Key)).zip vs) (Sum.inr k) = none
  | [], vs, k, _ => rfl
  | _ :: _, [], k, _ => rfl
  | j :: ks, v :: vs, k, h => by
    simp only [List.map_cons, List.zip_cons_cons]
    rw [valV_neg (fun z => h (by rw [Sum.inr.inj z]; exact List.mem_cons_self))]
    exact valV_zip_none fun z => h (List.mem_cons_of_mem _ z)
theorem merge_fold : ∀ {ks : List Str} {vs : List V} {acc : List (Key × V)}, ks.Nodup → (∀ k ∈ ks, valV acc (Sum.inr k) = none) → mergeK acc ((ks.map (Sum.inr : Str → Key)).zip vs) = acc ++ (ks.map (Sum.inr : Str → Key)).zip vs
  | [], vs, acc, _, _ => by simp [mergeK]
  | _ :: _, [], acc, _, _ => by simp [mergeK]
  | k :: ks, v :: vs, acc, nd, h => by
    have e : mergeK acc (((k :: ks).map (Sum.inr : Str → Key)).zip (v :: vs)) = mergeK (putK acc (Sum.inr k) v) ((ks.map (Sum.inr : Str → Key)).zip vs) := rfl
    rw [e, putK_new _ (h k List.mem_cons_self), merge_fold (List.nodup_cons.mp nd).2 (fun j hj => ?_), List.append_assoc]
    · rfl
    · rw [valV_snoc _ _ _ _ (h k List.mem_cons_self), if_neg (fun z => (List.nodup_cons.mp nd).1 (by rw [← Sum.inr.inj z]; exact hj))]
      exact h j (List.mem_cons_of_mem _ hj)
def GP (Y : Tb) (EX : XK) (t : List (TE × TE)) (ks : List Str) (ρ : Env) (S : Sto) (r : R (List D)) : Prop :=
  ∀ (A : Addr → Prop) (M : List Addr) (σ : SV) (H : Hp), RepE Y A M H ρ σ → Wf Y A M S H → ∀ Q : List (V × V) → Hp → Prop,
    P Y EX A M H r (fun ds _ H' => ∀ vs, Reps Y (Avd A M) M H' ds vs → Q (pairsOf ks vs) H') → tPairs t σ H Q
theorem env_addA {A : Addr → Prop} {M : List Addr} {H H' : Hp} {σ : SV} {p : Addr} (he : RepE Y A M H ρ σ) (hp : H p = none) (e : Ext M H H') : RepE Y (AddA A p) M H' ρ σ :=
  RepE.ext (H := H) (RepE.more he fun a ha z => by
    rcases z with z | z
    · exact .inl z
    · rw [z] at ha; exact absurd hp ha) e
theorem g_dct {ks : List Str} {t : List (TE × TE)} (h : ∀ S, GP Y EX t ks ρ S (evs C es ρ S)) : GEv Y C EX (tDisp t) ρ (.dct ks es) := fun S A M σ H he w Q hp => by
  simp only [ev] at hp
  intro p np
  have nM : p ∉ M := w.sub np
  refine h S (AddA A p) M σ _ (env_addA he np (Ext.new np)) (w.addA np (by rw [upd_same]; simp) (fun a o n h => by rw [upd_ne n]; exact h)) _ ?_
  revert hp
  cases evs C es ρ S with
  | bad => exact fun hp => hp
  | exc k S1 =>
    exact fun hp H1 e1 w1 => hp H1 (fun a o na ha => e1 a o na (by rw [upd_ne (ne_of_none ha np)]; exact ha)) w1.subA
  | ok l S1 =>
    intro hp H1 e1 w1 vs rs
    obtain ⟨k, hp⟩ := whenR_P hp
    simp only [Bool.and_eq_true, decide_eq_true_eq] at k
    obtain ⟨⟨⟨k1, k2⟩, k3⟩, k4⟩ := k
    have hd : H1 p = some (.dK []) := e1 p _ nM upd_same
    have lv : ks.length = vs.length := k1.trans rs.length
    refine ⟨hd, (ks.map Sum.inr).zip vs, pairsOf_eq lv, ?_, ?_⟩
    · rw [List.length_zip, List.length_map]
      omega
    · rw [merge_fold k3 (fun _ _ => rfl), List.nil_append]
      refine hp _ (fun a o na ha => ?_) w1.updA.subA _ ?_
      · rw [upd_ne (ne_of_none ha np)]
        exact e1 a o na (by rw [upd_ne (ne_of_none ha np)]; exact ha)
      · simp only [Rep]
        refine ⟨p, vs, rfl, upd_same, w.fresh np, k1, Reps.move (fun _ _ z => z) (fun a o na ha => ⟨?_, fun z => na ?_⟩) _ _ rs⟩
        · rw [upd_ne (fun z => na (.inl (.inr z)))]
          exact ha
        · rcases z with z | z
          · exact .inl (.inl z)
          · exact .inr z
/-! changes of a cell -/
theorem low_rep {A : Addr → Prop} {M : List Addr} {H : Hp} {j : Nat} : ∀ (d : D) (v : V), low j d = true → Rep Y A M H d v → Rep Y A (M.take j) H d v := by
  intro d
  apply D.rec (motive_1 := fun d => ∀ v, low j d = true → Rep Y A M H d v → Rep Y A (M.take j) H d v)
    (motive_2 := fun l => ∀ vs, lows j l = true → Reps Y A M H l vs → Reps Y A (M.take j) H l vs)
  · intro v _ h; simp only [Rep] at h ⊢; exact h
  · intro _ v _ h; simp only [Rep] at h ⊢; exact h
  · intro _ v _ h; simp only [Rep] at h ⊢; exact h
  · intro _ v _ h; simp only [Rep] at h ⊢; exact h
  · intro l ih v k h
    simp only [Rep] at h ⊢
    obtain ⟨a, vs, e, h1, h2⟩ := h
    exact ⟨a, vs, e, h1, ih vs (by simpa only [low] using k) h2⟩
  · intro l ih v k h
    simp only [Rep] at h ⊢
    obtain ⟨a, vs, e, h1, n, h2⟩ := h
    exact ⟨a, vs, e, h1, n, ih vs (by simpa only [low] using k) h2⟩
  · intro _ v _ h; simp only [Rep] at h ⊢; exact h
  · intro c ns l ih v k h
    simp only [Rep] at h ⊢
    obtain ⟨a, dx, vs, e, h1, n, h2⟩ := h
    exact ⟨a, dx, vs, e, h1, n, ih vs (by simpa only [low] using k) h2⟩
  · intro ks l ih v k h
    simp only [Rep] at h ⊢
    obtain ⟨a, vs, e, h1, n, hl, h2⟩ := h
    exact ⟨a, vs, e, h1, n, hl, ih vs (by simpa only [low] using k) h2⟩
  · intro i v k h
    simp only [Rep, low, decide_eq_true_eq] at h k ⊢
    obtain ⟨a, h1, e⟩ := h
    exact ⟨a, by rw [List.getElem?_take, if_pos k]; exact h1, e⟩
  · intro _ v _ h; simp only [Rep] at h ⊢; exact h
  · intro _ v _ h; simp only [Rep] at h ⊢; exact h
  · intro vs _ h; simp only [Reps] at h ⊢; exact h
  · intro d l ih1 ih2 vs k h
    simp only [lows, Bool.and_eq_true] at k
    simp only [Reps] at h ⊢
    obtain ⟨v, ws, e, h1, h2⟩ := h
    exact ⟨v, ws, e, ih1 v k.1 h1, ih2 ws k.2 h2⟩
theorem Wf.cellL {A : Addr → Prop} {M : List Addr} {H : Hp} {j : Nat} {p : Addr} {o : HO} {l : MO} (w : Wf Y A M S H) (hj : M[j]? = some p)
    (hn : RepM Y (Avd A M) (M.take j) (upd H p o) l p) : Wf Y A M (S.set j l) (upd H p o) := by
  have pm : p ∈ M := List.mem_of_getElem? hj
  refine ⟨by rw [List.length_set]; exact w.len, w.nd, fun a ha z => ?_, w.dj, fun i a c e1 e2 => ?_⟩
  · by_cases e : a = p
    · rw [e] at ha; exact w.dj p pm ha
    · rw [upd_ne e] at z; exact w.tr a ha z
  · by_cases e : j = i
    · subst e
      rw [hj] at e1
      cases e1
      by_cases hl : j < S.length
      · rw [List.getElem?_set_self hl] at e2
        cases e2
        exact hn
      · rw [List.getElem?_eq_none (by rw [List.length_set]; omega)] at e2
        cases e2
    · rw [List.getElem?_set_ne e] at e2
      have na : a ≠ p := fun z => e (nd_ix w.nd (hj) (by rw [← z]; exact e1))
      exact (w.cell i a c e1 e2).move (fun u h => by rw [upd_ne na]; exact h) fun b u n h => ⟨by rw [upd_ne (fun z => n (.inr (by rw [z]; exact pm)))]; exact h, n⟩
theorem cell_low {A : Addr → Prop} {M : List Addr} {H : Hp} {m : Nat} {c : MO} {v : V} (w : Wf Y A M S H) (r : Rep Y (Avd A M) M H (.mr m) v) (e : S[m]? = some c) : ∃ a, v = .ref a ∧ M[m]? = some a ∧ RepM Y (Avd A M) (M.take m) H c a := by
  simp only [Rep] at r
  obtain ⟨a, h1, rfl⟩ := r
  exact ⟨a, rfl, h1, w.cell m a c h1 e⟩
theorem upd_move {A : Addr → Prop} {M ml : List Addr} {H : Hp} {p : Addr} {o : HO} (pm : p ∈ M) {l : List D} {vs : List V} (r : Reps Y (Avd A M) ml H l vs) : Reps Y (Avd A M) ml (upd H p o) l vs :=
  Reps.move (fun _ _ z => z) (fun b u n h => ⟨by rw [upd_ne (fun z => n (.inr (by rw [z]; exact pm)))]; exact h, n⟩) _ _ r
theorem upd_move1 {A : Addr → Prop} {M ml : List Addr} {H : Hp} {p : Addr} {o : HO} (pm : p ∈ M) {d : D} {v : V} (r : Rep Y (Avd A M) ml H d v) : Rep Y (Avd A M) ml (upd H p o) d v :=
  Rep.move (fun _ _ z => z) (fun b u n h => ⟨by rw [upd_ne (fun z => n (.inr (by rw [z]; exact pm)))]; exact h, n⟩) _ _ r
theorem g_app (ha : GEv Y C EX ta ρ a) (hb : GEv Y C EX tb ρ b) : GEv Y C EX (tBM Y.K "list" rAppend ta (tCons tb tNil)) ρ (.app a b) := fun S A M σ H he w Q hp => by
  simp only [ev] at hp
  refine ha S A M σ H he w _ (hp.bind.imp fun x S1 H1 e1 w1 h1 v r1 => ?_)
  split at h1
  · rename_i j
    split at h1
    · rename_i l0 e0
      obtain ⟨p, rfl, hj, us, q1, _⟩ := cell_of w1 r1 e0
      refine ⟨.inl ⟨rfl, us, SqL.of q1⟩, hb S1 A M σ H1 (he.ext e1) w1 _ (h1.bind.imp fun d S2 H2 e2 w2 h2 u r2 => ?_)⟩
      split at h2
      · rename_i l e3 lw
        obtain ⟨k, h2⟩ := whenR_P h2
        have pm : p ∈ M := List.mem_of_getElem? hj
        have r1' : Rep Y (Avd A M) M H2 (.mr j) (.ref p) := by simp only [Rep]; exact ⟨p, hj, rfl⟩
        obtain ⟨p2, ep, _, vs, q2, q3⟩ := cell_low w2 r1' e3
        cases ep
        refine ⟨p, vs, u, rfl, rfl, q2, ?_, ?_⟩
        · rw [← q3.length]
          exact sz_lt (of_decide_eq_true k)
        · exact h2 _ (Ext.mut pm) (w2.cellL hj ⟨_, upd_same, (upd_move pm q3).append (Reps.cons (upd_move1 pm (low_rep d u lw r2)) Reps.nil)⟩) _ r_non
      · exact h2.elim
    · exact h1.elim
  · exact h1.elim
theorem Reps.last {B : Addr → Prop} {ml : List Addr} {H : Hp} {l : List D} {vs : List V} {d : D} (r : Reps Y B ml H l vs) (h : l[l.length - 1]? = some d) : ∃ v, vs[vs.length - 1]? = some v ∧ Rep Y B ml H d v := by
  rw [← r.length]
  exact r.get h
theorem g_pop (ha : GEv Y C EX ta ρ a) : GEv Y C EX (tBM0 Y.K "list" rPop ta) ρ (.pop a) := fun S A M σ H he w Q hp => by
  simp only [ev] at hp
  refine ha S A M σ H he w _ (hp.bind.imp fun x S1 H1 e1 w1 h1 v r1 => ?_)
  split at h1
  · rename_i j
    split at h1
    · rename_i l e0
      split at h1
      · rename_i d e3
        obtain ⟨p, rfl, hj, us, q1, q4⟩ := cell_of w1 r1 e0
        have pm : p ∈ M := List.mem_of_getElem? hj
        obtain ⟨p2, ep, _, vs, q2, q3⟩ := cell_low w1 r1 e0
        cases ep
        rw [q1] at q2
        cases q2
        obtain ⟨u, q5, q6⟩ := q4.last e3
        exact ⟨.inl ⟨rfl, us, SqL.of q1⟩, p, us, u, rfl, rfl, q1, q5, h1 _ (Ext.mut pm) (w1.cellL hj ⟨_, upd_same, upd_move pm q3.dropLast⟩) _ (upd_move1 pm q6)⟩
      · exact h1.elim
    · exact h1.elim
  · exact h1.elim
theorem g_lc {elt : E} {i : Nat} {it : It} {wi : TI} {te : TE} (hi : ∀ S, GI Y EX wi ρ S (evI C it ρ S)) (he : ∀ ρ, GEv Y C E0 te ρ elt) : GEv Y C EX (tLc wi (gName i) tYes te [i]) ρ (.lc elt i it) := fun S A M σ H env w Q hp => by
  simp only [ev] at hp
  refine hi S A M σ H env w _ (hp.bind.imp fun ds S1 H1 e1 w1 h1 J xs rx jo => ?_)
  obtain ⟨k, h1⟩ := whenR_P h1
  split at h1
  · rename_i l S2 e2
    exact lc_ok (elt := ev C elt) (cond := fun _ S => .ok (.bl true) S) (tt := tYes) (te := te) (Qd := Q) (fun ρ S A M σ H he w Q hp => hp.at w) (fun ρ S => he ρ S) (env.ext e1) w1 rx jo (of_decide_eq_true k) e2 fun p H' e w' r => h1 H' e w' _ r
  · exact h1.elim
theorem g_lcc {elt cd : E} {i : Nat} {it : It} {wi : TI} {te : TE} {tt : TT} (hi : ∀ S, GI Y EX wi ρ S (evI C it ρ S)) (ht : ∀ ρ, GTv Y C E0 tt ρ cd) (he : ∀ ρ, GEv Y C E0 te ρ elt) : GEv Y C EX (tLc wi (gName i) tt te [i]) ρ (.lcc elt i it cd) := fun S A M σ H env w Q hp => by
  simp only [ev] at hp
  refine hi S A M σ H env w _ (hp.bind.imp fun ds S1 H1 e1 w1 h1 J xs rx jo => ?_)
  obtain ⟨k, h1⟩ := whenR_P h1
  split at h1
  · rename_i l S2 e2
    exact lc_ok (elt := ev C elt) (cond := ev C cd) (tt := tt) (te := te) (Qd := Q) (fun ρ S => ht ρ S) (fun ρ S => he ρ S) (env.ext e1) w1 rx jo (of_decide_eq_true k) e2 fun p H' e w' r => h1 H' e w' _ r
  · exact h1.elim
theorem g_nil : GAv Y C EX tNil ρ .nil := fun S A M σ H he w Q hp => by
  simp only [evs] at hp
  exact hp.at w _ Reps.nil
theorem g_cons (ha : GEv Y C EX ta ρ a) (hb : GAv Y C EX tas ρ es) : GAv Y C EX (tCons ta tas) ρ (.cons a es) := fun S A M σ H he w Q hp => by
  simp only [evs] at hp
  refine ha S A M σ H he w _ (hp.bind.imp fun x S1 H1 e1 w1 h1 v r1 => ?_)
  refine hb S1 A M σ H1 (he.ext e1) w1 _ (h1.bind.imp fun l S2 H2 e2 w2 h2 vs rs => ?_)
  exact h2.at w2 _ (Reps.cons (r1.ext e2) rs)
theorem g_pnil {ks : List Str} : ∀ S, GP Y EX [] ks ρ S (evs C .nil ρ S) := fun S A M σ H he w Q hp => by
  simp only [evs] at hp
  exact hp.at w _ Reps.nil
theorem g_pcons {ks : List Str} {t : List (TE × TE)} (ha : GEv Y C EX ta ρ a) (hb : ∀ S, GP Y EX t ks.tail ρ S (evs C es ρ S)) : ∀ S, GP Y EX ((tC (.str (ks.headD Str.empty)), ta) :: t) ks ρ S (evs C (.cons a es) ρ S) := fun S A M σ H he w Q hp => by
  simp only [evs] at hp
  refine ha S A M σ H he w _ (hp.bind.imp fun x S1 H1 e1 w1 h1 v r1 => ?_)
  refine hb S1 A M σ H1 (he.ext e1) w1 _ (h1.bind.imp fun l S2 H2 e2 w2 h2 vs rs => ?_)
  exact h2.at w2 _ (Reps.cons (r1.ext e2) rs)
theorem g_rg1 (ha : GEv Y C EX ta ρ a) : ∀ S, GI Y EX (iRng1 (tCons ta tNil)) ρ S (evI C (.rg1 a) ρ S) := fun S A M σ H he w Q hp => by
  simp only [evI] at hp
  refine ha S A M σ H he w _ (hp.bind.imp fun x S1 H1 e1 w1 h1 v r1 => ?_)
  cases x <;> first | exact h1.elim | skip
  rename_i i
  obtain ⟨k, h1⟩ := whenR_P h1
  have k' := k
  unfold okI at k'
  simp only [Bool.and_eq_true, decide_eq_true_eq] at k'
  have z := rng_reps (Y := Y) (B := Avd A M) (ml := M) (H := H1) 0 i
  have z2 := itr_ok (M := M) (H := H1) 0 i (by decide) k
  rw [Int.sub_zero] at z z2
  exact ⟨i, by rw [rep_int r1], by omega, by omega, h1.at w1 _ _ (by
    have e : rngD 0 i = (List.range i.toNat).map fun k => D.int (0 + (k : Nat)) := by unfold rngD; rw [Int.sub_zero]
    rw [e] at z ⊢
    exact z) z2⟩
theorem g_rg2 (ha : GEv Y C EX ta ρ a) (hb : GEv Y C EX tb ρ b) : ∀ S, GI Y EX (iRng2 (tCons ta (tCons tb tNil))) ρ S (evI C (.rg2 a b) ρ S) := fun S A M σ H he w Q hp => by
  simp only [evI] at hp
  refine ha S A M σ H he w _ (hp.bind.imp fun x S1 H1 e1 w1 h1 v r1 => ?_)
  refine hb S1 A M σ H1 (he.ext e1) w1 _ (h1.bind.imp fun y S2 H2 e2 w2 h2 u r2 => ?_)
  cases x <;> cases y <;> first | exact h2.elim | skip
  rename_i i j
  obtain ⟨k, h2⟩ := whenR_P h2
  rw [Bool.and_eq_true] at k
  have k1 := k.1
  have k2 := k.2
  unfold okI at k1 k2
  simp only [Bool.and_eq_true, decide_eq_true_eq] at k1 k2
  exact ⟨i, j, by rw [rep_int r1, rep_int r2], ⟨by omega, by omega, by omega, by omega⟩, h2.at w2 _ _ (rng_reps i j) (itr_ok i j k.1 k.2)⟩
theorem rgV_reps {B : Addr → Prop} {ml : List Addr} {H : Hp} (i j : Int) : Reps Y B ml H (rngD i j) (rgV i j) := by
  unfold rngD rgV
  generalize List.range (j - i).toNat = l
  induction l with
  | nil => exact Reps.nil
  | cons k l ih => exact Reps.cons r_int ih
theorem dget_val {B : Addr → Prop} {ml : List Addr} {H : Hp} {ks : List Str} {k : Str} {z : D} {w : V} (rz : Rep Y B ml H z w) {l : List D} {vs : List V} (r : Reps Y B ml H l vs) : Rep Y B ml H ((getK ks l k).getD z) ((valV ((ks.map (Sum.inr : Str → Key)).zip vs) (Sum.inr k)).getD w) := by
  induction ks generalizing l vs with
  | nil => exact rz
  | cons j ks ih =>
    cases l with
    | nil => rw [r.unnil]; exact rz
    | cons e l =>
      obtain ⟨u, us, rfl, r1, r2⟩ := r.uncons
      simp only [getK, List.map_cons, List.zip_cons_cons]
      by_cases hj : j = k
      · rw [if_pos hj, hj, valV_pos rfl]
        exact r1
      · rw [if_neg hj, valV_neg (fun q => hj (Sum.inr.inj q))]
        exact ih r2
theorem g_dget (ha : GEv Y C EX ta ρ a) (hb : GEv Y C EX tb ρ b) (hc : GEv Y C EX tc ρ c) : GEv Y C EX (tDGet2 ta tb tc) ρ (.dget a b c) := fun S A M σ H he w Q hp => by
  simp only [ev] at hp
  refine ha S A M σ H he w _ (hp.bind.imp fun x S1 H1 e1 w1 h1 v r1 => ?_)
  cases x <;> first | exact h1.elim | skip
  rename_i ks l
  have r1' := r1
  simp only [Rep] at r1'
  obtain ⟨p, us, rfl, q1, _, _, _⟩ := r1'
  refine ⟨p, rfl, .inl ⟨_, .inl q1⟩, hb S1 A M σ H1 (he.ext e1) w1 _ (h1.bind.imp fun y S2 H2 e2 w2 h2 u r2 => ?_)⟩
  refine hc S2 A M σ H2 (he.ext (e1.trans e2)) w2 _ (h2.bind.imp fun z S3 H3 e3 w3 h3 t r3 => ?_)
  cases y <;> first | exact h3.elim | skip
  rename_i k
  have r1'' := r1.ext (e2.trans e3)
  simp only [Rep] at r1''
  obtain ⟨p2, us2, ep, q2, _, _, q4⟩ := r1''
  cases ep
  refine ⟨_, ?_, h3.at w3 _ (dget_val r3 q4)⟩
  rw [rep_str r2]
  exact DGet.k (k := Sum.inr k) q2
theorem g_lam {j : E} (T : TbOk Y C) : GEv Y C EX (Y.rl j) ρ (.lam j) := fun S A M σ H he w Q hp => by
  simp only [ev] at hp
  exact T.lam j EX ρ S A M σ H he w Q hp
theorem g_wrg {id : Nat} (T : TbOk Y C) (ha : GEv Y C EX ta ρ a) : GEv Y C EX (fun σ H Q => ta σ H fun v H1 => Y.rw id EX v σ H1 Q) ρ (.wrg id a) := fun S A M σ H he w Q hp => by
  simp only [ev] at hp
  refine ha S A M σ H he w _ (hp.bind.imp fun x S1 H1 e1 w1 h1 v r1 => ?_)
  exact T.wrg id EX ρ S1 x A M σ H1 v (he.ext e1) w1 r1 Q h1
theorem g_ise {c : Nat} (T : TbOk Y C) (ha : GEv Y C EX ta ρ a) : GEv Y C EX (tIse Y c ta) ρ (.ise a c) := fun S A M σ H he w Q hp => by
  simp only [ev] at hp
  refine ha S A M σ H he w _ (hp.bind.imp fun x S1 H1 e1 w1 h1 v r1 => ?_)
  cases x <;> first | exact h1.elim | skip
  rename_i k
  simp only at h1
  split at h1
  · rename_i b e0
    simp only [Rep] at r1
    obtain ⟨p, e2, rfl⟩ := r1
    exact ⟨p, k, b, e2, rfl, T.sub k c b e0, h1.at w1 _ r_bl⟩
  · exact h1.elim
theorem strsD_eq : ∀ {l : List D} {ns : List Str}, strsD l = some ns → l = ns.map D.str
  | [], ns, h => by simp only [strsD] at h; cases h; rfl
  | d :: l, ns, h => by
    cases d <;> simp only [strsD, reduceCtorEq] at h
    cases e : strsD l with
    | none => simp [e] at h
    | some r =>
      simp only [e] at h
      cases h
      rw [List.map_cons, ← strsD_eq e]
theorem g_txt {t : Txo} (ha : GEv Y C EX ta ρ a) (hb : GEv Y C EX tb ρ b) : GEv Y C EX (tM1 (rTx Y.K t) ta tb) ρ (.txt t a b) := fun S A M σ H he w Q hp => by
  simp only [ev] at hp
  refine ha S A M σ H he w _ (hp.bind.imp fun x S1 H1 e1 w1 h1 v r1 => ?_)
  cases x <;> first | exact h1.elim | skip
  rename_i z
  have hv := rep_str r1
  subst hv
  refine ⟨⟨z, rfl⟩, hb S1 A M σ H1 (he.ext e1) w1 _ (h1.bind.imp fun y S2 H2 e2 w2 h2 u r2 => ?_)⟩
  unfold txtD at h2
  split at h2
  · obtain ⟨k, h2⟩ := whenR_P h2
    simp only [Bool.and_eq_true, Bool.not_eq_true', decide_eq_true_eq] at k
    refine ⟨z, _, rfl, by rw [rep_str r2], k.1, ?_, fun p hp => h2 _ (Ext.new hp) (w2.new hp) _ (new_lst w2 (Reps.ofStrs _) hp)⟩
    have := sz_of k.2
    have e : sizeLine = 16777216 := by decide
    omega
  · obtain ⟨k, h2⟩ := whenR_P h2
    simp only [Bool.and_eq_true, Bool.not_eq_true', decide_eq_true_eq] at k
    exact ⟨z, _, rfl, by rw [rep_str r2], k.1, sz_of k.2, fun p hp => h2 _ (Ext.new hp) (w2.new hp) _ (new_tup w2 (Reps.cons r_str (Reps.cons r_str (Reps.cons r_str Reps.nil))) hp)⟩
  · split at h2
    · rename_i l ys e0
      obtain ⟨k, h2⟩ := whenR_P h2
      have e := strsD_eq e0
      subst e
      obtain ⟨p, us, rfl, q1, _, q2⟩ := lst_sq r2
      have e2 := q2.strs
      subst e2
      exact ⟨z, p, ys, rfl, rfl, .inl (SqL.of q1), of_decide_eq_true k, h2.at w2 _ r_str⟩
    · exact h2.elim
  · exact h2.elim
theorem g_lms {t : Lmo} (ha : GEv Y C EX ta ρ a) (hb : GEv Y C EX tb ρ b) : GEv Y C EX (tBM Y.K "list" (rLm Y.K t) ta (tCons tb tNil)) ρ (.lms t a b) := fun S A M σ H he w Q hp => by
  simp only [ev] at hp
  refine ha S A M σ H he w _ (hp.bind.imp fun x S1 H1 e1 w1 h1 v r1 => ?_)
  cases x <;> first | exact h1.elim | skip
  rename_i l
  obtain ⟨p, us, e0, q1, n1, q2⟩ := lst_sq r1
  subst e0
  refine ⟨.inl ⟨rfl, us, SqL.of q1⟩, hb S1 A M σ H1 (he.ext e1) w1 _ (h1.bind.imp fun y S2 H2 e2 w2 h2 u r2 => ?_)⟩
  obtain ⟨p2, us2, e3, q3, n3, q4⟩ := lst_sq (r1.ext e2)
  cases e3
  unfold lmsD at h2
  split at h2
  · rename_i xs z e5 e6
    obtain ⟨e7, f1⟩ := flats_rep e5 q4
    obtain ⟨e8, f2⟩ := flat_rep e6 r2
    subst e7 e8
    cases t with
    | index =>
      simp only at h2
      split at h2
      · rename_i j e9
        obtain ⟨hj, hj1, hj2⟩ := List.findIdx?_eq_some_iff_getElem.mp e9
        refine ⟨p, us2, u, j, us2[j], rfl, rfl, SqL.of q3, f2, f1, List.getElem?_eq_getElem hj, hj1, fun m z' hm hz => ?_, h2.at w2 _ r_int⟩
        have := hj2 m hm
        rw [List.getElem?_eq_getElem (by omega)] at hz
        cases hz
        simpa using this
      · exact h2.elim
    | count => exact ⟨p, us2, u, rfl, rfl, SqL.of q3, f2, f1, h2.at w2 _ r_int⟩
  · exact h2.elim
theorem rangeSize_nn (i j k : Int) (h : 1 ≤ k) : 0 ≤ Builtin.Range.rangeSize i j k := by
  unfold Builtin.Range.rangeSize
  repeat' split
  all_goals first
    | omega
    | (rw [Int.fdiv_eq_ediv_of_nonneg _ (by omega)]; have := Int.ediv_nonneg (show 0 ≤ j - i - 1 by omega) (show 0 ≤ k by omega); omega)
    | (have := Int.ediv_nonneg (show 0 ≤ j - i - 1 by omega) (show 0 ≤ k by omega); omega)
theorem g_rg3 (ha : GEv Y C EX ta ρ a) (hb : GEv Y C EX tb ρ b) (hc : GEv Y C EX tc ρ c) : ∀ S, GI Y EX (iRng3 (tCons ta (tCons tb (tCons tc tNil)))) ρ S (evI C (.rg3 a b c) ρ S) := fun S A M σ H he w Q hp => by
  simp only [evI] at hp
  refine ha S A M σ H he w _ (hp.bind.imp fun x S1 H1 e1 w1 h1 v r1 => ?_)
  refine hb S1 A M σ H1 (he.ext e1) w1 _ (h1.bind.imp fun y S2 H2 e2 w2 h2 u r2 => ?_)
  refine hc S2 A M σ H2 (he.ext (e1.trans e2)) w2 _ (h2.bind.imp fun z S3 H3 e3 w3 h3 t r3 => ?_)
  cases x <;> cases y <;> cases z <;> first | exact h3.elim | skip
  rename_i i j k
  obtain ⟨q, h3⟩ := whenR_P h3
  have q' := q
  unfold ok3 at q'
  simp only [Bool.and_eq_true, decide_eq_true_eq] at q'
  have reps : ∀ l : List Nat, Reps Y (Avd A M) M H3 (l.map fun n => D.int (i + (n : Nat) * k)) (l.map fun n => V.int (i + (n : Nat) * k)) := fun l => by
    induction l with
    | nil => exact Reps.nil
    | cons n l ih => exact Reps.cons r_int ih
  have nn : ((Builtin.Range.rangeSize i j k).toNat : Int) = Builtin.Range.rangeSize i j k := Int.toNat_of_nonneg (rangeSize_nn i j k q'.1.1)
  refine ⟨i, j, k, (Builtin.Range.rangeSize i j k).toNat, by rw [rep_int r1, rep_int r2, rep_int r3], ⟨by omega, q'.1.2, q'.2, nn.symm⟩, h3.at w3 _ _ (reps _) fun H4 e4 => ?_⟩
  rw [List.length_map, List.length_range]
  refine ⟨fun m hm => hm, Nat.le_refl _, fun m y H' hm yl => ?_⟩
  obtain ⟨g1, g2⟩ := yl
  refine ⟨g1, ?_⟩
  rw [List.getElem?_map, List.getElem?_range hm, g2]
  rfl
theorem g_lr2 (ha : GEv Y C EX ta ρ a) (hb : GEv Y C EX tb ρ b) : GEv Y C EX (tLstRg (tRg2 ta tb)) ρ (.lr2 a b) := fun S A M σ H he w Q hp => by
  simp only [ev] at hp
  refine ha S A M σ H he w _ (hp.bind.imp fun x S1 H1 e1 w1 h1 v r1 => ?_)
  refine hb S1 A M σ H1 (he.ext e1) w1 _ (h1.bind.imp fun y S2 H2 e2 w2 h2 u r2 => ?_)
  cases x <;> cases y <;> first | exact h2.elim | skip
  rename_i i j
  obtain ⟨k, h2⟩ := whenR_P h2
  simp only [okI, Bool.and_eq_true, decide_eq_true_eq] at k
  refine ⟨i, j, rep_int r1, rep_int r2, ⟨by omega, by omega, by omega, by omega, by omega⟩, fun q hq => ?_⟩
  exact h2 _ (Ext.new hq) (w2.new hq) _ (new_lst w2 (rgV_reps i j) hq)
theorem g_of (ha : GEv Y C EX ta ρ a) : ∀ S, GI Y EX (iSeq Y.K ta) ρ S (evI C (.of a) ρ S) := fun S A M σ H he w Q hp => by
  simp only [evI] at hp
  refine ha S A M σ H he w _ (hp.bind.imp fun x S1 H1 e1 w1 h1 v r1 => ?_)
  split at h1
  · rename_i l e
    exact items_rep r1 e fun J xs rx jo => h1.at w1 J xs rx jo
  · exact h1.elim
end

/-! ### the readings give what the evaluator gives -/
section
variable {Y : Tb} {C : Tc}
mutual
theorem ge (T : TbOk Y C) : ∀ (e : E) (EX : XK) (ρ : Env), GEv Y C EX (rdE Y C EX e) ρ e
  | .var i, EX, ρ => by simp only [rdE]; exact g_var
  | .cst d, EX, ρ => by simp only [rdE]; exact g_cst
  | .glo i, EX, ρ => by simp only [rdE]; exact g_glo T
  | .bin o a b, EX, ρ => by simp only [rdE]; exact g_bin (ge T a EX ρ) (ge T b EX ρ)
  | .neg a, EX, ρ => by simp only [rdE]; exact g_neg (ge T a EX ρ)
  | .cmp o a b, EX, ρ => by simp only [rdE]; exact g_cmp (ge T a EX ρ) (ge T b EX ρ)
  | .chn o o' a b c, EX, ρ => by simp only [rdE]; exact g_chn (ge T a EX ρ) (ge T b EX ρ) (ge T c EX ρ)
  | .not a, EX, ρ => by simp only [rdE]; exact g_not (ge T a EX ρ)
  | .and a b, EX, ρ => by simp only [rdE]; exact g_and (ge T a EX ρ) (ge T b EX ρ)
  | .or a b, EX, ρ => by simp only [rdE]; exact g_or (ge T a EX ρ) (ge T b EX ρ)
  | .ite c a b, EX, ρ => by simp only [rdE]; exact g_ite (gt T c EX ρ) (ge T a EX ρ) (ge T b EX ρ)
  | .tup es, EX, ρ => by simp only [rdE]; exact g_tup (ga T es EX ρ)
  | .lst es, EX, ρ => by simp only [rdE]; exact g_lst (ga T es EX ρ)
  | .dct ks es, EX, ρ => by simp only [rdE]; exact g_dct (gp T es EX ks ρ)
  | .sub a b, EX, ρ => by simp only [rdE]; exact g_sub (ge T a EX ρ) (ge T b EX ρ)
  | .slf a b, EX, ρ => by simp only [rdE]; exact g_slf (ge T a EX ρ) (ge T b EX ρ)
  | .slt a b, EX, ρ => by simp only [rdE]; exact g_slt (ge T a EX ρ) (ge T b EX ρ)
  | .rev a, EX, ρ => by simp only [rdE]; exact g_rev (ge T a EX ρ)
  | .fld a f, EX, ρ => by simp only [rdE]; exact g_fld T (ge T a EX ρ)
  | .call id es, EX, ρ => by simp only [rdE]; exact g_call (ga T es EX ρ)
  | .mk id c es, EX, ρ => by simp only [rdE]; exact g_mk (ga T es EX ρ)
  | .mth id c m a es, EX, ρ => by simp only [rdE]; exact g_mth (ge T a EX ρ) (ga T es EX ρ)
  | .blt b es, EX, ρ => by simp only [rdE]; exact g_blt (ga T es EX ρ)
  | .lr2 a b, EX, ρ => by simp only [rdE]; exact g_lr2 (ge T a EX ρ) (ge T b EX ρ)
  | .dget a b c, EX, ρ => by simp only [rdE]; exact g_dget (ge T a EX ρ) (ge T b EX ρ) (ge T c EX ρ)
  | .lam j, EX, ρ => by simp only [rdE]; exact g_lam T
  | .wrg id a, EX, ρ => by simp only [rdE]; exact g_wrg T (ge T a EX ρ)
  | .ise a c, EX, ρ => by simp only [rdE]; exact g_ise T (ge T a EX ρ)
  | .txt t a b, EX, ρ => by simp only [rdE]; exact g_txt (ge T a EX ρ) (ge T b EX ρ)
  | .lms t a b, EX, ρ => by simp only [rdE]; exact g_lms (ge T a EX ρ) (ge T b EX ρ)
  | .isi a t, EX, ρ => by simp only [rdE]; exact g_isi (ge T a EX ρ)
  | .isi2 a t u, EX, ρ => by simp only [rdE]; exact g_isi2 (ge T a EX ρ)
  | .app a e, EX, ρ => by simp only [rdE]; exact g_app (ge T a EX ρ) (ge T e EX ρ)
  | .pop a, EX, ρ => by simp only [rdE]; exact g_pop (ge T a EX ρ)
  | .lc elt i it, EX, ρ => by simp only [rdE]; exact g_lc (gi T it EX ρ) (fun ρ => ge T elt E0 ρ)
  | .lcc elt i it c, EX, ρ => by simp only [rdE]; exact g_lcc (gi T it EX ρ) (fun ρ => gt T c E0 ρ) (fun ρ => ge T elt E0 ρ)
theorem ga (T : TbOk Y C) : ∀ (es : Es) (EX : XK) (ρ : Env), GAv Y C EX (rdA Y C EX es) ρ es
  | .nil, EX, ρ => by simp only [rdA]; exact g_nil
  | .cons e es, EX, ρ => by simp only [rdA]; exact g_cons (ge T e EX ρ) (ga T es EX ρ)
theorem gp (T : TbOk Y C) : ∀ (es : Es) (EX : XK) (ks : List Str) (ρ : Env), ∀ S, GP Y EX (rdP Y C EX ks es) ks ρ S (evs C es ρ S)
  | .nil, EX, ks, ρ => by simp only [rdP]; exact g_pnil
  | .cons e es, EX, ks, ρ => by simp only [rdP]; exact g_pcons (ge T e EX ρ) (gp T es EX ks.tail ρ)
theorem gi (T : TbOk Y C) : ∀ (it : It) (EX : XK) (ρ : Env), ∀ S, GI Y EX (rdI Y C EX it) ρ S (evI C it ρ S)
  | .rg1 a, EX, ρ => by simp only [rdI]; exact g_rg1 (ge T a EX ρ)
  | .rg2 a b, EX, ρ => by simp only [rdI]; exact g_rg2 (ge T a EX ρ) (ge T b EX ρ)
  | .rg3 a b c, EX, ρ => by simp only [rdI]; exact g_rg3 (ge T a EX ρ) (ge T b EX ρ) (ge T c EX ρ)
  | .of e, EX, ρ => by simp only [rdI]; exact g_of (ge T e EX ρ)
theorem gt (T : TbOk Y C) : ∀ (e : E) (EX : XK) (ρ : Env), GTv Y C EX (rdT Y C EX e) ρ e
  | .not a, EX, ρ => by simp only [rdT]; exact t_not (gt T a EX ρ)
  | .and a b, EX, ρ => by simp only [rdT]; exact t_and (gt T a EX ρ) (gt T b EX ρ)
  | .or a b, EX, ρ => by simp only [rdT]; exact t_or (gt T a EX ρ) (gt T b EX ρ)
  | .cmp o a b, EX, ρ => by simp only [rdT]; exact fun S => gt_of (g_cmp (ge T a EX ρ) (ge T b EX ρ) S)
  | .chn o o' a b c, EX, ρ => by simp only [rdT]; exact fun S => gt_of (g_chn (ge T a EX ρ) (ge T b EX ρ) (ge T c EX ρ) S)
  | .var i, EX, ρ => by simp only [rdT]; exact fun S => gt_of (g_var S)
  | .cst d, EX, ρ => by simp only [rdT]; exact fun S => gt_of (g_cst S)
  | .fld a f, EX, ρ => by simp only [rdT]; exact fun S => gt_of (g_fld T (ge T a EX ρ) S)
  | .call id es, EX, ρ => by simp only [rdT]; exact fun S => gt_of (g_call (ga T es EX ρ) S)
  | .mth id c m a es, EX, ρ => by simp only [rdT]; exact fun S => gt_of (g_mth (ge T a EX ρ) (ga T es EX ρ) S)
  | .blt b es, EX, ρ => by simp only [rdT]; exact fun S => gt_of (g_blt (ga T es EX ρ) S)
  | .lr2 a b, EX, ρ => by simp only [rdT]; exact fun S => gt_of ((g_lr2 (ge T a EX ρ) (ge T b EX ρ)) S)
  | .dget a b c, EX, ρ => by simp only [rdT]; exact fun S => gt_of ((g_dget (ge T a EX ρ) (ge T b EX ρ) (ge T c EX ρ)) S)
  | .lam j, EX, ρ => by simp only [rdT]; exact fun S => gt_of ((g_lam T) S)
  | .wrg id a, EX, ρ => by simp only [rdT]; exact fun S => gt_of ((g_wrg T (ge T a EX ρ)) S)
  | .ise a c, EX, ρ => by simp only [rdT]; exact fun S => gt_of ((g_ise T (ge T a EX ρ)) S)
  | .txt t a b, EX, ρ => by simp only [rdT]; exact fun S => gt_of ((g_txt (ge T a EX ρ) (ge T b EX ρ)) S)
  | .lms t a b, EX, ρ => by simp only [rdT]; exact fun S => gt_of ((g_lms (ge T a EX ρ) (ge T b EX ρ)) S)
  | .isi a t, EX, ρ => by simp only [rdT]; exact fun S => gt_of (g_isi (ge T a EX ρ) S)
  | .isi2 a t u, EX, ρ => by simp only [rdT]; exact fun S => gt_of (g_isi2 (ge T a EX ρ) S)
  | .glo i, EX, ρ => by simp only [rdT]; exact fun S => gt_of ((g_glo T) S)
  | .bin o a b, EX, ρ => by simp only [rdT]; exact fun S => gt_of ((g_bin (ge T a EX ρ) (ge T b EX ρ)) S)
  | .neg a, EX, ρ => by simp only [rdT]; exact fun S => gt_of ((g_neg (ge T a EX ρ)) S)
  | .ite c a b, EX, ρ => by simp only [rdT]; exact fun S => gt_of ((g_ite (gt T c EX ρ) (ge T a EX ρ) (ge T b EX ρ)) S)
  | .tup es, EX, ρ => by simp only [rdT]; exact fun S => gt_of ((g_tup (ga T es EX ρ)) S)
  | .lst es, EX, ρ => by simp only [rdT]; exact fun S => gt_of ((g_lst (ga T es EX ρ)) S)
  | .dct ks es, EX, ρ => by simp only [rdT]; exact fun S => gt_of ((g_dct (gp T es EX ks ρ)) S)
  | .sub a b, EX, ρ => by simp only [rdT]; exact fun S => gt_of ((g_sub (ge T a EX ρ) (ge T b EX ρ)) S)
  | .slf a b, EX, ρ => by simp only [rdT]; exact fun S => gt_of ((g_slf (ge T a EX ρ) (ge T b EX ρ)) S)
  | .slt a b, EX, ρ => by simp only [rdT]; exact fun S => gt_of ((g_slt (ge T a EX ρ) (ge T b EX ρ)) S)
  | .rev a, EX, ρ => by simp only [rdT]; exact fun S => gt_of ((g_rev (ge T a EX ρ)) S)
  | .mk id c es, EX, ρ => by simp only [rdT]; exact fun S => gt_of ((g_mk (ga T es EX ρ)) S)
  | .app a e, EX, ρ => by simp only [rdT]; exact fun S => gt_of ((g_app (ge T a EX ρ) (ge T e EX ρ)) S)
  | .pop a, EX, ρ => by simp only [rdT]; exact fun S => gt_of ((g_pop (ge T a EX ρ)) S)
  | .lc elt i it, EX, ρ => by simp only [rdT]; exact fun S => gt_of ((g_lc (gi T it EX ρ) (fun ρ => ge T elt E0 ρ)) S)
  | .lcc elt i it c, EX, ρ => by simp only [rdT]; exact fun S => gt_of ((g_lcc (gi T it EX ρ) (fun ρ => gt T c E0 ρ) (fun ρ => ge T elt E0 ρ)) S)
end
end
end Dz

set_option Elab.async false
set_option linter.all false
set_option maxRecDepth 100000
set_option maxHeartbeats 4000000
namespace Dz
open PySem PySem.Spec PyProof.Rows L2

/-! ### statements -/
mutual
inductive Tg where
  | nm (i : Nat) | tup (ts : Tgs) | sub (o i : E) | fld (o : E) (f : Str)
inductive Tgs where
  | nil | cons (t : Tg) (ts : Tgs)
end
mutual
inductive St where
  | asg (t : Tg) (e : E) | par (i j : Nat) (a b : E) | par3 (i j l : Nat) (a b c : E)
  | aug (i : Nat) (e : E)
  | newL (i : Nat) (es : Es) | newD (i : Nat) (ks : List Str) (es : Es)
  | exp (e : E) | ite (c : E) (a b : Ss) | whl (c : E) (b : Ss) | for_ (t : Tg) (it : It) (b : Ss)
  | ret (e : E) | retN | raise (c : Nat) | pass | brk | cont
inductive Ss where
  | nil | cons (s : St) (ss : Ss)
end
def lenG : Tgs → Nat
  | .nil => 0
  | .cons _ ts => lenG ts + 1
inductive Fl where
  | nx (ρ : Env) (S : Sto) | rt (d : D) (S : Sto) | bk (ρ : Env) (S : Sto) | ct (ρ : Env) (S : Sto) | ex (c : Nat) (S : Sto) | bad
def R.toF {α : Type} : R α → (α → Sto → Fl) → Fl
  | .ok a S, f => f a S
  | .exc c S, _ => .ex c S
  | .bad, _ => .bad
def putD (k : Str) (d : D) : List Str → List D → List Str × List D
  | j :: ks, e :: l => if j = k then (j :: ks, d :: l) else match putD k d ks l with | (a, b) => (j :: a, e :: b)
  | _, _ => ([k], [d])
def repD (k : Str) (d : D) : List Str → List D → List D
  | j :: ks, e :: l => (if j = k then d else e) :: repD k d ks l
  | _, _ => []
def setD (x y d : D) (S : Sto) : R Unit := match x, y with
  | .mr m, .int i => (match S[m]? with
    | some (.lst l) => (match ixN l.length i, low m d with
      | some j, true => .ok () (S.set m (.lst (l.set j d)))
      | _, _ => .bad)
    | _ => .bad)
  | .mr m, .str k => (match S[m]? with
    | some (.dct ks l) => whenR (low m d && decide (ks.length < 100000)) (match decide (k ∈ ks) with | true => .ok () (S.set m (.dct ks (repD k d ks l))) | false => .ok () (S.set m (.dct (ks ++ [k]) (l ++ [d]))))
    | _ => .bad)
  | _, _ => .bad
def setF (fo : Nat → Str → Bool) (x : D) (f : Str) (d : D) (S : Sto) : R Unit := match x with
  | .mr m => (match S[m]? with
    | some (.ins c ns l) => whenR (fo c f && low m d && decide (ns.length < 999)) (match putD f d ns l with | (a, b) => .ok () (S.set m (.ins c a b)))
    | _ => .bad)
  | _ => .bad
mutual
def asgD (C : Tc) : Tg → D → Env → Sto → R Env
  | .nm i, d, ρ, S => .ok (ρ.set i (some d)) S
  | .tup ts, d, ρ, S => (match d with | .tup l => whenR (decide (l.length = lenG ts)) (asgDs C ts l ρ S) | _ => .bad)
  | .sub o i, d, ρ, S => (ev C o ρ S).bind fun x S1 => (ev C i ρ S1).bind fun y S2 => (setD x y d S2).bind fun _ S3 => .ok ρ S3
  | .fld o f, d, ρ, S => (ev C o ρ S).bind fun x S1 => (setF C.fo x f d S1).bind fun _ S2 => .ok ρ S2
def asgDs (C : Tc) : Tgs → List D → Env → Sto → R Env
  | .nil, [], ρ, S => .ok ρ S
  | .cons t ts, d :: ds, ρ, S => (asgD C t d ρ S).bind fun ρ' S1 => asgDs C ts ds ρ' S1
  | _, _, _, _ => .bad
end
def forL (bind : D → Env → Sto → R Env) (body : Env → Sto → Fl) : List D → Env → Sto → Fl
  | [], ρ, S => .nx ρ S
  | d :: ds, ρ, S => (bind d ρ S).toF fun ρ1 S1 => match body ρ1 S1 with
    | .nx ρ2 S2 => forL bind body ds ρ2 S2
    | .ct ρ2 S2 => forL bind body ds ρ2 S2
    | .bk ρ2 S2 => .nx ρ2 S2
    | f => f
def whL (cond : Env → Sto → R Bool) (body : Env → Sto → Fl) : Nat → Env → Sto → Fl
  | 0, _, _ => .bad
  | n + 1, ρ, S => (cond ρ S).toF fun k S1 => match k with
    | true => (match body ρ S1 with
      | .nx ρ2 S2 => whL cond body n ρ2 S2
      | .ct ρ2 S2 => whL cond body n ρ2 S2
      | .bk ρ2 S2 => .nx ρ2 S2
      | f => f)
    | false => .nx ρ S1
def fuel : Nat := 1000000
mutual
def exec (C : Tc) : St → Env → Sto → Fl
  | .asg t e, ρ, S => (ev C e ρ S).toF fun d S1 => (asgD C t d ρ S1).toF fun ρ' S2 => .nx ρ' S2
  | .par i j a b, ρ, S => (ev C a ρ S).toF fun d S1 => (ev C b ρ S1).toF fun e S2 => .nx ((ρ.set i (some d)).set j (some e)) S2
  | .par3 i j l a b c, ρ, S => (ev C a ρ S).toF fun d S1 => (ev C b ρ S1).toF fun e S2 => (ev C c ρ S2).toF fun g S3 => .nx (((ρ.set i (some d)).set j (some e)).set l (some g)) S3
  | .aug i e, ρ, S => (match ρ[i]? with
    | some (some (.int x)) => (ev C e ρ S).toF fun d S1 => (match d with | .int y => .nx (ρ.set i (some (.int (x + y)))) S1 | _ => .bad)
    | _ => .bad)
  | .newL i es, ρ, S => (evs C es ρ S).toF fun l S1 => (match lows S1.length l && decide (l.length ≤ 100000) with | true => .nx (ρ.set i (some (.mr S1.length))) (S1 ++ [.lst l]) | false => .bad)
  | .newD i ks es, ρ, S => (evs C es ρ S).toF fun l S1 => (match lows S1.length l && decide (ks.length = l.length) && decide (ks.length ≤ 15) && decide ks.Nodup && !ks.isEmpty with
    | true => .nx (ρ.set i (some (.mr S1.length))) (S1 ++ [.dct ks l])
    | false => .bad)
  | .exp e, ρ, S => (ev C e ρ S).toF fun _ S1 => .nx ρ S1
  | .ite c a b, ρ, S => (asB (ev C c ρ S)).toF fun k S1 => (match k with | true => execs C a ρ S1 | false => execs C b ρ S1)
  | .whl c b, ρ, S => whL (fun ρ S => asB (ev C c ρ S)) (execs C b) fuel ρ S
  | .for_ t it b, ρ, S => (evI C it ρ S).toF fun ds S1 => forL (asgD C t) (execs C b) ds ρ S1
  | .ret e, ρ, S => (ev C e ρ S).toF fun d S1 => .rt d S1
  | .retN, _, S => .rt .non S
  | .raise c, _, S => .ex c S
  | .pass, ρ, S => .nx ρ S
  | .brk, ρ, S => .bk ρ S
  | .cont, ρ, S => .ct ρ S
def execs (C : Tc) : Ss → Env → Sto → Fl
  | .nil, ρ, S => .nx ρ S
  | .cons s ss, ρ, S => match exec C s ρ S with
    | .nx ρ' S' => execs C ss ρ' S'
    | f => f
end
/-- at a def's end: its own cells are gone -/
def fin (n : Nat) (d : D) (S : Sto) : R D := match decide (S.length = n) with
  | true => .ok d S
  | false => (match d with
    | .mr j => (match decide (n ≤ j), S[j]? with
      | true, some (.lst l) => whenR (lows n l) (.ok (.lst l) (S.take n))
      | _, _ => .bad)
    | d => whenR (low n d) (.ok d (S.take n)))
def run (C : Tc) (nl : Nat) (b : Ss) (ds : List D) (S : Sto) : R D := match execs C b (ds.map some ++ List.replicate (nl - ds.length) none) S with
  | .nx _ S' => fin S.length .non S'
  | .rt d S' => fin S.length d S'
  | .ex c S' => .exc c (S'.take S.length)
  | _ => .bad

/-! ### readings of statements -/
def rSetAny : TSet := fun o i v H Q => rSetL o i v H Q ∨ rSetD o i v H Q
def gFld (K : PySem.W.Frag) (to : TE) (f : Str) : TG := fun v σ H Q => to σ H fun o H1 => ∃ a C dx fs, o = .ref a ∧ H1 a = some (.ins C dx fs) ∧ Cls K C ∧ NoAttr K C f ∧ fs.length < 1000 ∧ Q σ (upd H1 a (.ins C dx (putF f v fs)))
def tRaiseC (EX : XK) (c : Addr) : TS := fun _ _ H => EX (.ref c) none H
mutual
def rdG (Y : Tb) (C : Tc) (EX : XK) : Tg → TG
  | .nm i => gName i
  | .tup ts => gTup Y.K (lenG ts) (rdGs Y C EX ts)
  | .sub o i => gSub (rdE Y C EX o) (rdE Y C EX i) rSetAny
  | .fld o f => gFld Y.K (rdE Y C EX o) f
def rdGs (Y : Tb) (C : Tc) (EX : XK) : Tgs → TGs
  | .nil => gNil
  | .cons t ts => gCons (rdG Y C EX t) (rdGs Y C EX ts)
end
mutual
def rdS (Y : Tb) (C : Tc) (EX : XK) : St → TS
  | .asg t e => tAsg (rdE Y C EX e) (rdG Y C EX t)
  | .par i j a b => tPar i j (tCons (rdE Y C EX a) (tCons (rdE Y C EX b) tNil))
  | .par3 i j l a b c => tPar3 i j l (tCons (rdE Y C EX a) (tCons (rdE Y C EX b) (tCons (rdE Y C EX c) tNil)))
  | .aug i e => tAug i (rdE Y C EX e) (ipI fun i j => i + j)
  | .newL i es => tAsg (tLst (rdA Y C EX es)) (gName i)
  | .newD i ks es => tAsg (tDisp (rdP Y C EX ks es)) (gName i)
  | .exp e => tDrop (rdE Y C EX e)
  | .ite c a b => tIfS (rdT Y C EX c) (rdSs Y C EX a) (rdSs Y C EX b)
  | .whl c b => tWhile (rdT Y C EX c) (rdSs Y C EX b)
  | .for_ t it b => tFor (rdI Y C EX it) (rdG Y C EX t) (rdSs Y C EX b)
  | .ret e => tRet (rdE Y C EX e)
  | .retN => tRetN
  | .raise c => tRaiseC EX (Y.ec c)
  | .pass => tNext
  | .brk => tBreak
  | .cont => tCont
def rdSs (Y : Tb) (C : Tc) (EX : XK) : Ss → TS
  | .nil => tNext
  | .cons s ss => tSeq (rdS Y C EX s) (rdSs Y C EX ss)
end

/-! ### what is wanted behind a statement -/
structure Gr (Y : Tb) (A : Addr → Prop) (M : List Addr) (H : Hp) (M' : List Addr) (H' : Hp) : Prop where
  ex : ∃ N, M' = M ++ N ∧ ∀ a ∈ N, H a = none
  ext : Ext M H H'
theorem Gr.of {Y : Tb} {A : Addr → Prop} {M : List Addr} {H H' : Hp} (e : Ext M H H') : Gr Y A M H M H' := ⟨⟨[], by simp, fun _ h => by cases h⟩, e⟩
theorem Gr.trans {Y : Tb} {A : Addr → Prop} {M M1 M2 : List Addr} {S1 : Sto} {H H1 H2 : Hp} (a : Gr Y A M H M1 H1) (w : Wf Y A M1 S1 H1) (b : Gr Y A M1 H1 M2 H2) : Gr Y A M H M2 H2 := by
  obtain ⟨N, e1, f1⟩ := a.ex
  obtain ⟨N2, e2, f2⟩ := b.ex
  have k : ∀ x o, x ∉ M → H x = some o → x ∉ M1 := fun x o n h z => by
    rw [e1] at z
    rcases List.mem_append.mp z with z | z
    · exact n z
    · rw [f1 x z] at h; cases h
  refine ⟨⟨N ++ N2, by rw [e2, e1, List.append_assoc], fun x hx => ?_⟩, fun x o n h => b.ext x o (k x o n h) (a.ext x o n h)⟩
  rcases List.mem_append.mp hx with z | z
  · exact f1 x z
  · have h1 := f2 x z
    cases q : H x with
    | none => rfl
    | some o =>
      by_cases hm : x ∈ M
      · exact absurd h1 (w.trM (by rw [e1]; exact List.mem_append_left _ hm))
      · rw [a.ext x o hm q] at h1; cases h1
section
variable (Y : Tb) (EX : XK) (A : Addr → Prop) (M : List Addr) (H : Hp) (Dn : Ends)
def PF (f : Fl) : Prop := match f with
  | .nx ρ S => ∀ M' σ H', Gr Y A M H M' H' → RepE Y A M' H' ρ σ → Wf Y A M' S H' → Dn.nx σ H'
  | .bk ρ S => ∀ M' σ H', Gr Y A M H M' H' → RepE Y A M' H' ρ σ → Wf Y A M' S H' → Dn.bk σ H'
  | .ct ρ S => ∀ M' σ H', Gr Y A M H M' H' → RepE Y A M' H' ρ σ → Wf Y A M' S H' → Dn.ct σ H'
  | .rt d S => ∀ M' v H', Gr Y A M H M' H' → Rep Y (Avd A M') M' H' d v → Wf Y A M' S H' → Dn.rt v H'
  | .ex c S => ∀ M' H', Gr Y A M H M' H' → Wf Y A M' S H' → EX (.ref (Y.ec c)) none H'
  | .bad => False
end
def GS (Y : Tb) (EX : XK) (t : TS) (ρ : Env) (S : Sto) (f : Fl) : Prop :=
  ∀ (A : Addr → Prop) (M : List Addr) (σ : SV) (H : Hp), RepE Y A M H ρ σ → Wf Y A M S H → ∀ Dn : Ends, PF Y EX A M H Dn f → t Dn σ H
section
variable {Y : Tb} {EX : XK} {A : Addr → Prop} {M M1 : List Addr} {H H1 : Hp} {Dn : Ends} {S : Sto}
theorem PF.mono {f : Fl} (h : PF Y EX A M H Dn f) (w : Wf Y A M1 S H1) (g : Gr Y A M H M1 H1) : PF Y EX A M1 H1 Dn f := by
  cases f with
  | nx ρ S => exact fun M' σ H' g' => h M' σ H' (g.trans w g')
  | bk ρ S => exact fun M' σ H' g' => h M' σ H' (g.trans w g')
  | ct ρ S => exact fun M' σ H' g' => h M' σ H' (g.trans w g')
  | rt d S => exact fun M' v H' g' => h M' v H' (g.trans w g')
  | ex c S => exact fun M' H' g' => h M' H' (g.trans w g')
  | bad => exact h
theorem PF.bind {α : Type} {r : R α} {f : α → Sto → Fl} (h : PF Y EX A M H Dn (r.toF f)) : P Y EX A M H r (fun d S1 H1 => PF Y EX A M H1 Dn (f d S1)) := by
  cases r with
  | ok d S' => exact fun H2 e2 w => PF.mono (f := f d S') h w (Gr.of e2)
  | exc c S' => exact fun H2 e2 w => h M H2 (Gr.of e2) w
  | bad => exact h
end
end Dz

set_option Elab.async false
set_option linter.all false
set_option maxRecDepth 100000
set_option maxHeartbeats 4000000
namespace Dz
open PySem PySem.Spec PyProof.Rows L2

section
variable {Y : Tb} {C : Tc} {EX : XK} {A : Addr → Prop} {M : List Addr} {S : Sto} {H : Hp}
theorem lows_reps {B : Addr → Prop} {n : Nat} : ∀ {l : List D} {vs : List V}, lows n l = true → Reps Y B M H l vs → Reps Y B (M.take n) H l vs
  | [], vs, _, h => by rw [h.unnil]; exact Reps.nil
  | d :: l, vs, k, h => by
    simp only [lows, Bool.and_eq_true] at k
    obtain ⟨v, ws, rfl, h1, h2⟩ := h.uncons
    exact Reps.cons (low_rep d v k.1 h1) (lows_reps k.2 h2)
theorem grow_env {ρ : Env} {σ : SV} {p : Addr} {o : HO} {i : Nat} (he : RepE Y A M H ρ σ) (len : M.length = S.length) (hp : H p = none) : RepE Y A (M ++ [p]) (upd H p o) (ρ.set i (some (.mr S.length))) (σ.set i (some (.ref p))) := by
  have h0 : RepE Y A (M ++ [p]) (upd H p o) ρ σ := ⟨he.1, fun j d x => by
    obtain ⟨v, h1, h2⟩ := he.2 j d x
    exact ⟨v, h1, grow_rep hp h2⟩⟩
  refine h0.set ?_
  simp only [Rep]
  exact ⟨p, by rw [← len, List.getElem?_append_right (Nat.le_refl _), Nat.sub_self]; rfl, rfl⟩
theorem Gr.one {p : Addr} {o : HO} (hp : H p = none) : Gr Y A M H (M ++ [p]) (upd H p o) := ⟨⟨[p], rfl, fun a ha => by rw [List.mem_singleton] at ha; rw [ha]; exact hp⟩, Ext.new hp⟩

/-! targets -/
def GG (Y : Tb) (EX : XK) (t : TG) (ρ : Env) (f : D → Sto → R Env) : Prop := ∀ (d : D) (S : Sto) (A : Addr → Prop) (M : List Addr) (σ : SV) (H : Hp) (v : V), RepE Y A M H ρ σ → Wf Y A M S H → Rep Y (Avd A M) M H d v →
  ∀ Q : SV → Hp → Prop, P Y EX A M H (f d S) (fun ρ' _ H' => ∀ σ', RepE Y A M H' ρ' σ' → Q σ' H') → t v σ H Q
def GGs (Y : Tb) (EX : XK) (t : TGs) (ρ : Env) (f : List D → Sto → R Env) : Prop := ∀ (d : List D) (S : Sto) (A : Addr → Prop) (M : List Addr) (σ : SV) (H : Hp) (v : List V), RepE Y A M H ρ σ → Wf Y A M S H → Reps Y (Avd A M) M H d v →
  ∀ Q : SV → Hp → Prop, P Y EX A M H (f d S) (fun ρ' _ H' => ∀ σ', RepE Y A M H' ρ' σ' → Q σ' H') → t v σ H Q
theorem ix_rep {B : Addr → Prop} {ml : List Addr} {l : List D} {vs : List V} (r : Reps Y B ml H l vs) (i : Int) : ixN vs.length i = ixN l.length i := by rw [r.length]
theorem repD_put {B : Addr → Prop} {ml : List Addr} {k : Str} {d : D} {v : V} (rv : Rep Y B ml H d v) : ∀ {ks : List Str} {l : List D} {vs : List V}, ks.length = l.length → Reps Y B ml H l vs →
    ∃ ws, ((ks.map (Sum.inr : Str → Key)).zip vs).map (fun kv => if kv.1 = Sum.inr k then (kv.1, v) else kv) = (ks.map (Sum.inr : Str → Key)).zip ws ∧ Reps Y B ml H (repD k d ks l) ws ∧ ks.length = (repD k d ks l).length
  | [], [], vs, _, r => ⟨[], by simp, by simp only [repD]; exact Reps.nil, rfl⟩
  | [], _ :: _, vs, h, _ => by simp at h
  | _ :: _, [], vs, h, _ => by simp at h
  | j :: ks, e :: l, vs, h, r => by
    obtain ⟨u, us, rfl, r1, r2⟩ := r.uncons
    obtain ⟨ws, h1, h2, h3⟩ := repD_put rv (by simpa using h) r2
    by_cases hj : j = k
    · refine ⟨v :: ws, ?_, ?_, ?_⟩
      · simp only [List.map_cons, List.zip_cons_cons]
        rw [if_pos (by rw [hj]), h1]
      · simp only [repD]
        rw [if_pos hj]
        exact Reps.cons rv h2
      · simp only [repD, List.length_cons, ← h3]
    · refine ⟨u :: ws, ?_, ?_, ?_⟩
      · simp only [List.map_cons, List.zip_cons_cons]
        rw [if_neg (fun z => hj (Sum.inr.inj z)), h1]
      · simp only [repD]
        rw [if_neg hj]
        exact Reps.cons r1 h2
      · simp only [repD, List.length_cons, ← h3]
theorem any_key {ks : List Str} {vs : List V} {k : Str} (h : ks.length = vs.length) : (((ks.map (Sum.inr : Str → Key)).zip vs).any fun kv => decide (kv.1 = Sum.inr k)) = decide (k ∈ ks) := by
  induction ks generalizing vs with
  | nil => simp
  | cons j ks ih =>
    cases vs with
    | nil => simp at h
    | cons v vs =>
      simp only [List.map_cons, List.zip_cons_cons, List.any_cons]
      rw [ih (by simpa using h)]
      by_cases e : j = k
      · rw [decide_eq_true (show (Sum.inr j : Key) = Sum.inr k by rw [e]), decide_eq_true (show k ∈ j :: ks by rw [e]; exact List.mem_cons_self), Bool.true_or]
      · rw [decide_eq_false (fun z => e (Sum.inr.inj z)), Bool.false_or]
        exact dec_iff ⟨fun z => List.mem_cons_of_mem _ z, fun z => by
          rcases List.mem_cons.mp z with z | z
          · exact absurd z.symm e
          · exact z⟩
theorem set_ok {x y d : D} {o i v : V} {Q : Hp → Prop} (w : Wf Y A M S H) (r1 : Rep Y (Avd A M) M H x o) (r2 : Rep Y (Avd A M) M H y i) (r3 : Rep Y (Avd A M) M H d v)
    (h : P Y EX A M H (setD x y d S) (fun _ _ H' => Q H')) : rSetAny o i v H Q := by
  unfold setD at h
  split at h
  · rename_i m k
    split at h
    · rename_i l e0
      split at h
      · rename_i j e1 lw
        obtain ⟨p, rfl, hj, vs, q1, q2⟩ := cell_low w r1 e0
        have pm : p ∈ M := List.mem_of_getElem? hj
        refine .inl ⟨p, vs, k, j, rfl, rep_int r2, q1, by rw [ix_rep q2]; exact e1, ?_⟩
        exact h _ (Ext.mut pm) (w.cellL hj ⟨_, upd_same, (upd_move pm q2).set j (upd_move1 pm (low_rep d v lw r3))⟩)
      · exact h.elim
    · exact h.elim
  · rename_i m k
    split at h
    · rename_i ks l e0
      obtain ⟨c, h⟩ := whenR_P h
      rw [Bool.and_eq_true] at c
      obtain ⟨p, rfl, hj, vs, q1, ql, q2⟩ := cell_low w r1 e0
      have pm : p ∈ M := List.mem_of_getElem? hj
      have rl := low_rep d v c.1 r3
      have lv : ks.length = vs.length := ql.trans q2.length
      rw [rep_str r2]
      have hz : ((ks.map (Sum.inr : Str → Key)).zip vs).length < sizeLine := by
        rw [List.length_zip, List.length_map, ← lv, Nat.min_self]
        exact sz_lt (of_decide_eq_true c.2)
      refine .inr ⟨p, _, rfl, DPut.k (k := Sum.inr k) q1 hz, ?_⟩
      cases hm : decide (k ∈ ks) with
      | true =>
        rw [hm] at h
        obtain ⟨ws, g1, g2, g3⟩ := repD_put (k := k) (upd_move1 (o := .dK (putK ((ks.map (Sum.inr : Str → Key)).zip vs) (Sum.inr k) v)) pm rl) ql (upd_move (o := .dK (putK ((ks.map (Sum.inr : Str → Key)).zip vs) (Sum.inr k) v)) pm q2)
        have e : putK ((ks.map (Sum.inr : Str → Key)).zip vs) (Sum.inr k) v = (ks.map (Sum.inr : Str → Key)).zip ws := by
          unfold putK
          rw [any_key lv, hm, if_pos rfl, g1]
        exact h _ (Ext.mut pm) (w.cellL hj ⟨ws, by rw [upd_same, e], g3, g2⟩)
      | false =>
        rw [hm] at h
        have e : putK ((ks.map (Sum.inr : Str → Key)).zip vs) (Sum.inr k) v = ((ks ++ [k]).map (Sum.inr : Str → Key)).zip (vs ++ [v]) := by
          unfold putK
          rw [any_key lv, hm, if_neg Bool.false_ne_true, List.map_append, List.zip_append (by rw [List.length_map]; exact lv)]
          rfl
        exact h _ (Ext.mut pm) (w.cellL hj ⟨vs ++ [v], by rw [upd_same, e], by rw [List.length_append, List.length_append, ql]; rfl, (upd_move pm q2).append (Reps.cons (upd_move1 pm rl) Reps.nil)⟩)
    · exact h.elim
  · exact h.elim
theorem putF_zip {B : Addr → Prop} {ml : List Addr} {f : Str} {d : D} {v : V} (rv : Rep Y B ml H d v) : ∀ {ns : List Str} {l : List D} {vs : List V}, ns.length = l.length → Reps Y B ml H l vs →
    ∃ ws, putF f v (ns.zip vs) = (putD f d ns l).1.zip ws ∧ Reps Y B ml H (putD f d ns l).2 ws ∧ (putD f d ns l).1.length = (putD f d ns l).2.length
  | [], [], vs, _, r => ⟨[v], by simp only [List.zip_nil_left]; rfl, Reps.cons rv Reps.nil, rfl⟩
  | [], _ :: _, vs, h, _ => by simp at h
  | _ :: _, [], vs, h, _ => by simp at h
  | j :: ns, e :: l, vs, h, r => by
    obtain ⟨u, us, rfl, r1, r2⟩ := r.uncons
    obtain ⟨ws, h1, h2, h3⟩ := putF_zip (f := f) rv (by simpa using h) r2
    by_cases hj : j = f
    · refine ⟨v :: us, ?_, ?_, ?_⟩
      · simp only [putD, if_pos hj, List.zip_cons_cons]
        show (if j = f then (j, v) :: ns.zip us else (j, u) :: putF f v (ns.zip us)) = _
        rw [if_pos hj]
      · simp only [putD, if_pos hj]
        exact Reps.cons rv r2
      · simp only [putD, if_pos hj]
        simpa using h
    · refine ⟨u :: ws, ?_, ?_, ?_⟩
      · simp only [putD, if_neg hj, List.zip_cons_cons]
        show (if j = f then (j, v) :: ns.zip us else (j, u) :: putF f v (ns.zip us)) = _
        rw [if_neg hj, h1]
      · simp only [putD, if_neg hj]
        exact Reps.cons r1 h2
      · simp only [putD, if_neg hj, List.length_cons, h3]
theorem setF_ok {x d : D} {f : Str} {o v : V} {Q : Hp → Prop} (T : TbOk Y C) (w : Wf Y A M S H) (r1 : Rep Y (Avd A M) M H x o) (r3 : Rep Y (Avd A M) M H d v)
    (h : P Y EX A M H (setF C.fo x f d S) (fun _ _ H' => Q H')) : ∃ a C dx fs, o = .ref a ∧ H a = some (.ins C dx fs) ∧ Cls Y.K C ∧ NoAttr Y.K C f ∧ fs.length < 1000 ∧ Q (upd H a (.ins C dx (putF f v fs))) := by
  unfold setF at h
  split at h
  · rename_i m
    split at h
    · rename_i c ns l e0
      obtain ⟨k, h⟩ := whenR_P h
      simp only [Bool.and_eq_true, decide_eq_true_eq] at k
      obtain ⟨p, rfl, hj, dx, vs, q1, ql, q2⟩ := cell_low w r1 e0
      have pm : p ∈ M := List.mem_of_getElem? hj
      have rl := low_rep d v k.1.2 r3
      refine ⟨p, _, dx, _, rfl, q1, (T.fld c f k.1.1).1, (T.fld c f k.1.1).2, ?_, ?_⟩
      · rw [List.length_zip]; omega
      · obtain ⟨ws, g1, g2, g3⟩ := putF_zip (f := f) (upd_move1 (o := .ins (Y.Cs c) dx (putF f v (ns.zip vs))) pm rl) ql (upd_move (o := .ins (Y.Cs c) dx (putF f v (ns.zip vs))) pm q2)
        refine h _ (Ext.mut pm) (w.cellL hj ⟨dx, ws, by rw [upd_same, g1], g3, g2⟩)
    · exact h.elim
  · exact h.elim
variable {ρ : Env}
theorem gg_nm {i : Nat} : GG Y EX (gName i) ρ (fun d S => .ok (ρ.set i (some d)) S) := fun d S A M σ H v he w r Q hp => hp.at w _ (he.set r)
mutual
theorem gg (T : TbOk Y C) : ∀ (t : Tg) (EX : XK) (ρ : Env), GG Y EX (rdG Y C EX t) ρ (fun d S => asgD C t d ρ S)
  | .nm i, EX, ρ => by simp only [rdG, asgD]; exact gg_nm
  | .tup ts, EX, ρ => fun d S A M σ H v he w r Q hp => by
    simp only [rdG, asgD] at hp ⊢
    cases d <;> first | exact hp.elim | skip
    obtain ⟨a, vs, rfl, h1, h2⟩ := tup_sq r
    obtain ⟨k, hp⟩ := whenR_P hp
    exact ⟨a, vs, rfl, h1, by rw [← h2.length]; exact of_decide_eq_true k, ggs T ts EX ρ _ S A M σ H vs he w h2 Q hp⟩
  | .sub o i, EX, ρ => fun d S A M σ H v he w r Q hp => by
    simp only [rdG, asgD] at hp ⊢
    refine ge T o EX ρ S A M σ H he w _ (hp.bind.imp fun x S1 H1 e1 w1 h1 ov r1 => ?_)
    refine ge T i EX ρ S1 A M σ H1 (he.ext e1) w1 _ (h1.bind.imp fun y S2 H2 e2 w2 h2 iv r2 => ?_)
    exact set_ok w2 (r1.ext e2) r2 (r.ext (e1.trans e2)) (h2.bind.imp fun _ S3 H3 e3 w3 h3 => h3.at w3 _ (he.ext ((e1.trans e2).trans e3)))
  | .fld o f, EX, ρ => fun d S A M σ H v he w r Q hp => by
    simp only [rdG, asgD] at hp ⊢
    refine ge T o EX ρ S A M σ H he w _ (hp.bind.imp fun x S1 H1 e1 w1 h1 ov r1 => ?_)
    exact setF_ok T w1 r1 (r.ext e1) (h1.bind.imp fun _ S3 H3 e3 w3 h3 => h3.at w3 _ (he.ext (e1.trans e3)))
theorem ggs (T : TbOk Y C) : ∀ (ts : Tgs) (EX : XK) (ρ : Env), GGs Y EX (rdGs Y C EX ts) ρ (fun d S => asgDs C ts d ρ S)
  | .nil, EX, ρ => fun d S A M σ H v he w r Q hp => by
    cases d with
    | nil =>
      simp only [rdGs, asgDs] at hp ⊢
      rw [r.unnil]
      exact ⟨rfl, hp.at w _ he⟩
    | cons _ _ => simp only [asgDs] at hp; exact hp.elim
  | .cons t ts, EX, ρ => fun d S A M σ H v he w r Q hp => by
    cases d with
    | nil => simp only [asgDs] at hp; exact hp.elim
    | cons d ds =>
      simp only [rdGs, asgDs] at hp ⊢
      obtain ⟨u, us, rfl, r1, r2⟩ := r.uncons
      refine ⟨u, us, rfl, gg T t EX ρ d S A M σ H u he w r1 _ (hp.bind.imp fun ρ1 S1 H1 e1 w1 h1 σ1 he1 => ?_)⟩
      exact ggs T ts EX ρ1 ds S1 A M σ1 H1 us he1 w1 (r2.ext e1) Q h1
end
end
end Dz

set_option Elab.async false
set_option linter.all false
set_option maxRecDepth 100000
set_option maxHeartbeats 4000000
namespace Dz
open PySem PySem.Spec PyProof.Rows L2

section
variable {Y : Tb} {C : Tc} {EX : XK}
theorem asB_F {A : Addr → Prop} {M : List Addr} {H : Hp} {r : R D} {F : Bool → Sto → Hp → Prop} (h : P Y EX A M H (asB r) F) : P Y EX A M H (asB r) F := h
theorem s_asg (T : TbOk Y C) (t : Tg) (e : E) (ρ : Env) (S : Sto) : GS Y EX (rdS Y C EX (.asg t e)) ρ S (exec C (.asg t e) ρ S) := fun A M σ H he w Dn hp => by
  simp only [rdS, exec] at hp ⊢
  refine ge T e EX ρ S A M σ H he w _ (hp.bind.imp fun d S1 H1 e1 w1 h1 v r1 => ?_)
  refine gg T t EX ρ d S1 A M σ H1 v (he.ext e1) w1 r1 Dn.nx (h1.bind.imp fun ρ' S2 H2 e2 w2 h2 σ' he' => ?_)
  exact h2 M σ' H2 (Gr.of (Ext.refl M H2)) he' w2
theorem s_par (T : TbOk Y C) (i j : Nat) (a b : E) (ρ : Env) (S : Sto) : GS Y EX (rdS Y C EX (.par i j a b)) ρ S (exec C (.par i j a b) ρ S) := fun A M σ H he w Dn hp => by
  simp only [rdS, exec] at hp ⊢
  refine ge T a EX ρ S A M σ H he w _ (hp.bind.imp fun d S1 H1 e1 w1 h1 v r1 => ?_)
  refine ge T b EX ρ S1 A M σ H1 (he.ext e1) w1 _ (h1.bind.imp fun d2 S2 H2 e2 w2 h2 v2 r2 => ?_)
  exact ⟨v, v2, rfl, h2 M _ H2 (Gr.of (Ext.refl M H2)) (((he.ext (e1.trans e2)).set (r1.ext e2)).set r2) w2⟩
theorem s_par3 (T : TbOk Y C) (i j l : Nat) (a b c : E) (ρ : Env) (S : Sto) : GS Y EX (rdS Y C EX (.par3 i j l a b c)) ρ S (exec C (.par3 i j l a b c) ρ S) := fun A M σ H he w Dn hp => by
  simp only [rdS, exec] at hp ⊢
  refine ge T a EX ρ S A M σ H he w _ (hp.bind.imp fun d S1 H1 e1 w1 h1 v r1 => ?_)
  refine ge T b EX ρ S1 A M σ H1 (he.ext e1) w1 _ (h1.bind.imp fun d2 S2 H2 e2 w2 h2 v2 r2 => ?_)
  refine ge T c EX ρ S2 A M σ H2 (he.ext (e1.trans e2)) w2 _ (h2.bind.imp fun d3 S3 H3 e3 w3 h3 v3 r3 => ?_)
  exact ⟨v, v2, v3, rfl, h3 M _ H3 (Gr.of (Ext.refl M H3)) ((((he.ext ((e1.trans e2).trans e3)).set (r1.ext (e2.trans e3))).set (r2.ext e3)).set r3) w3⟩
theorem s_aug (T : TbOk Y C) (i : Nat) (e : E) (ρ : Env) (S : Sto) : GS Y EX (rdS Y C EX (.aug i e)) ρ S (exec C (.aug i e) ρ S) := fun A M σ H he w Dn hp => by
  simp only [rdS, exec] at hp ⊢
  split at hp
  · rename_i x e0
    obtain ⟨v, h1, h2⟩ := he.2 i _ e0
    have hv := rep_int h2
    subst hv
    refine ⟨_, h1, ge T e EX ρ S A M σ H he w _ (hp.bind.imp fun d S1 H1 e1 w1 h1 v r1 => ?_)⟩
    cases d <;> first | exact h1.elim | skip
    exact ⟨_, _, rfl, rep_int r1, h1 M _ H1 (Gr.of (Ext.refl M H1)) ((he.ext e1).set r_int) w1⟩
  · exact hp.elim
theorem s_newL (T : TbOk Y C) (i : Nat) (es : Es) (ρ : Env) (S : Sto) : GS Y EX (rdS Y C EX (.newL i es)) ρ S (exec C (.newL i es) ρ S) := fun A M σ H he w Dn hp => by
  simp only [rdS, exec] at hp ⊢
  refine ga T es EX ρ S A M σ H he w _ (hp.bind.imp fun l S1 H1 e1 w1 h1 vs rs => ?_)
  split at h1
  · rename_i k
    rw [Bool.and_eq_true] at k
    refine ⟨by rw [← rs.length]; exact sz_of (of_decide_eq_true k.2), fun p np => ?_⟩
    have rl : Reps Y (Avd A M) M H1 l vs := by
      have z := lows_reps k.1 rs
      rw [← w1.len, List.take_length] at z
      exact z
    exact h1 (M ++ [p]) _ _ (Gr.one np) (grow_env (he.ext e1) w1.len np) (w1.grow np ⟨vs, upd_same, grow_reps np rl⟩)
  · exact h1.elim
theorem s_newD (T : TbOk Y C) (i : Nat) (ks : List Str) (es : Es) (ρ : Env) (S : Sto) : GS Y EX (rdS Y C EX (.newD i ks es)) ρ S (exec C (.newD i ks es) ρ S) := fun A M σ H he w Dn hp => by
  simp only [rdS, exec] at hp ⊢
  intro p np
  have nM : p ∉ M := w.sub np
  refine gp T es EX ks ρ S (AddA A p) M σ _ (env_addA he np (Ext.new np)) (w.addA np (by rw [upd_same]; simp) (fun a o n h => by rw [upd_ne n]; exact h)) _ ?_
  revert hp
  cases evs C es ρ S with
  | bad => exact fun hp => hp
  | exc k S1 =>
    exact fun hp H1 e1 w1 => hp M H1 (Gr.of fun a o na ha => e1 a o na (by rw [upd_ne (ne_of_none ha np)]; exact ha)) w1.subA
  | ok l S1 =>
    intro hp H1 e1 w1 vs rs
    have hp : PF Y EX A M H Dn (match lows S1.length l && decide (ks.length = l.length) && decide (ks.length ≤ 15) && decide ks.Nodup && !ks.isEmpty with
      | true => Fl.nx (ρ.set i (some (.mr S1.length))) (S1 ++ [.dct ks l])
      | false => Fl.bad) := hp
    split at hp
    · rename_i k
      simp only [Bool.and_eq_true, decide_eq_true_eq] at k
      obtain ⟨⟨⟨⟨k0, k1⟩, k2⟩, k3⟩, k4⟩ := k
      have hd : H1 p = some (.dK []) := e1 p _ nM upd_same
      have lv : ks.length = vs.length := k1.trans rs.length
      refine ⟨hd, (ks.map Sum.inr).zip vs, pairsOf_eq lv, ?_, ?_⟩
      · rw [List.length_zip, List.length_map]; omega
      · rw [merge_fold k3 (fun _ _ => rfl), List.nil_append]
        have rl : Reps Y (Avd (AddA A p) M) M H1 l vs := by
          have z := lows_reps k0 rs
          rw [← w1.len, List.take_length] at z
          exact z
        have ex1 : Ext M H (upd H1 p (.dK ((ks.map Sum.inr).zip vs))) := fun a o na ha => by
          rw [upd_ne (ne_of_none ha np)]
          exact e1 a o na (by rw [upd_ne (ne_of_none ha np)]; exact ha)
        have env1 : RepE Y A M (upd H1 p (.dK ((ks.map Sum.inr).zip vs))) ρ σ := he.ext ex1
        have w2 := w1.subA
        -- the cell at p
        refine hp (M ++ [p]) _ _ ⟨⟨[p], rfl, fun a ha => by rw [List.mem_singleton] at ha; rw [ha]; exact np⟩, ex1⟩ ?_ ?_
        · have h0 : RepE Y A (M ++ [p]) (upd H1 p (.dK ((ks.map Sum.inr).zip vs))) ρ σ := ⟨he.1, fun j d x => by
            obtain ⟨v, q1, q2⟩ := he.2 j d x
            refine ⟨v, q1, Rep.move (fun i a h => ?_) (fun b u n h => ⟨ex1 b u (fun z => n (.inr z)) h, fun z => ?_⟩) _ _ q2⟩
            · rw [List.getElem?_append_left (List.getElem?_eq_some_iff.mp h).1]; exact h
            · rcases z with z | z
              · exact n (.inl z)
              · rcases List.mem_append.mp z with z | z
                · exact n (.inr z)
                · rw [List.mem_singleton] at z
                  rw [z, np] at h
                  cases h⟩
          refine h0.set ?_
          simp only [Rep]
          exact ⟨p, by rw [← w1.len, List.getElem?_append_right (Nat.le_refl _), Nat.sub_self]; rfl, rfl⟩
        · have w3 := w1.updA (o := .dK ((ks.map Sum.inr).zip vs))
          have mv : ∀ b u, ¬ Avd (AddA A p) M b → H1 b = some u → upd H1 p (.dK ((ks.map Sum.inr).zip vs)) b = some u ∧ ¬ Avd A (M ++ [p]) b := fun b u n h => ⟨by rw [upd_ne (fun z => n (.inl (.inr z)))]; exact h, fun z => n (by
            rcases z with z | z
            · exact .inl (.inl z)
            · rcases List.mem_append.mp z with z | z
              · exact .inr z
              · exact .inl (.inr (List.mem_singleton.mp z)))⟩
          refine ⟨by rw [List.length_append, List.length_append, w1.len]; rfl, ?_, fun a ha => w3.tr a (.inl ha), fun a ha z => ?_, fun i a c' e2 e3 => ?_⟩
          · rw [List.nodup_append]
            exact ⟨w1.nd, by simp, fun a ha b hb e => by rw [List.mem_singleton] at hb; exact nM (by rw [← hb, ← e]; exact ha)⟩
          · rcases List.mem_append.mp ha with h | h
            · exact w1.dj a h (.inl z)
            · rw [List.mem_singleton] at h
              exact w.tr a z (by rw [h]; exact np)
          · by_cases hi : i < M.length
            · rw [List.getElem?_append_left hi] at e2
              rw [List.getElem?_append_left (by rw [← w1.len]; exact hi)] at e3
              rw [List.take_append_of_le_length (Nat.le_of_lt hi)]
              have na : a ≠ p := fun z => nM (by rw [← z]; exact List.mem_of_getElem? e2)
              exact (w1.cell i a c' e2 e3).move (fun u h => by rw [upd_ne na]; exact h) mv
            · have e : i = M.length := by
                have := (List.getElem?_eq_some_iff.mp e2).1
                rw [List.length_append, List.length_singleton] at this
                omega
              subst e
              rw [List.getElem?_append_right (Nat.le_refl _), Nat.sub_self] at e2
              rw [List.getElem?_append_right (by rw [w1.len]; exact Nat.le_refl _), w1.len, Nat.sub_self] at e3
              cases e2
              cases e3
              rw [List.take_append_of_le_length (Nat.le_refl _), List.take_length]
              exact ⟨vs, upd_same, k1, Reps.move (fun _ _ h => h) mv _ _ rl⟩
    · exact hp.elim
theorem s_exp (T : TbOk Y C) (e : E) (ρ : Env) (S : Sto) : GS Y EX (rdS Y C EX (.exp e)) ρ S (exec C (.exp e) ρ S) := fun A M σ H he w Dn hp => by
  simp only [rdS, exec] at hp ⊢
  refine ge T e EX ρ S A M σ H he w _ (hp.bind.imp fun d S1 H1 e1 w1 h1 v r1 => ?_)
  exact h1 M _ H1 (Gr.of (Ext.refl M H1)) (he.ext e1) w1
theorem s_ret (T : TbOk Y C) (e : E) (ρ : Env) (S : Sto) : GS Y EX (rdS Y C EX (.ret e)) ρ S (exec C (.ret e) ρ S) := fun A M σ H he w Dn hp => by
  simp only [rdS, exec] at hp ⊢
  refine ge T e EX ρ S A M σ H he w _ (hp.bind.imp fun d S1 H1 e1 w1 h1 v r1 => ?_)
  exact h1 M _ H1 (Gr.of (Ext.refl M H1)) r1 w1
theorem s_ite {c : E} {a b : Ss} (T : TbOk Y C) (ha : ∀ ρ S, GS Y EX (rdSs Y C EX a) ρ S (execs C a ρ S)) (hb : ∀ ρ S, GS Y EX (rdSs Y C EX b) ρ S (execs C b ρ S)) (ρ : Env) (S : Sto) : GS Y EX (rdS Y C EX (.ite c a b)) ρ S (exec C (.ite c a b) ρ S) := fun A M σ H he w Dn hp => by
  simp only [rdS, exec] at hp ⊢
  refine gt T c EX ρ S A M σ H he w _ (hp.bind.imp fun k S1 H1 e1 w1 h1 => ?_)
  cases k with
  | true =>
    rw [if_pos rfl]
    exact ha ρ S1 A M σ H1 (he.ext e1) w1 Dn h1
  | false =>
    rw [if_neg Bool.false_ne_true]
    exact hb ρ S1 A M σ H1 (he.ext e1) w1 Dn h1
theorem s_whl {c : E} {b : Ss} (T : TbOk Y C) (hb : ∀ ρ S, GS Y EX (rdSs Y C EX b) ρ S (execs C b ρ S)) (ρ : Env) (S : Sto) : GS Y EX (rdS Y C EX (.whl c b)) ρ S (exec C (.whl c b) ρ S) := fun A M σ H he w Dn hp => by
  simp only [rdS, exec] at hp ⊢
  refine ⟨fun n σ' H' => ∃ (M' : List Addr) (ρ' : Env) (S' : Sto), RepE Y A M' H' ρ' σ' ∧ Wf Y A M' S' H' ∧ PF Y EX A M' H' Dn (whL (fun ρ S => asB (ev C c ρ S)) (execs C b) n ρ' S'), ⟨fuel, M, ρ, S, he, w, hp⟩, ?_⟩
  rintro n σ' H' ⟨M', ρ', S', he', w', hp'⟩
  cases n with
  | zero => exact hp'.elim
  | succ n =>
    simp only [whL] at hp'
    refine gt T c EX ρ' S' A M' σ' H' he' w' _ (hp'.bind.imp fun k S1 H1 e1 w1 h1 => ?_)
    cases k with
    | false =>
      rw [if_neg Bool.false_ne_true]
      exact h1 M' _ H1 (Gr.of (Ext.refl M' H1)) (he'.ext e1) w1
    | true =>
      rw [if_pos rfl]
      simp only at h1
      refine ⟨fun σ2 H2 => ∃ (M' : List Addr) (ρ' : Env) (S' : Sto), RepE Y A M' H2 ρ' σ2 ∧ Wf Y A M' S' H2 ∧ PF Y EX A M' H2 Dn (whL (fun ρ S => asB (ev C c ρ S)) (execs C b) n ρ' S'), fun σ2 H2 z => ⟨n, Nat.lt_succ_self n, z⟩, ?_⟩
      refine hb ρ' S1 A M' σ' H1 (he'.ext e1) w1 _ ?_
      revert h1
      cases execs C b ρ' S1 with
      | nx ρ2 S2 => exact fun h1 M2 σ2 H2 g he2 w2 => ⟨M2, ρ2, S2, he2, w2, PF.mono (f := whL (fun ρ S => asB (ev C c ρ S)) (execs C b) n ρ2 S2) h1 w2 g⟩
      | ct ρ2 S2 => exact fun h1 M2 σ2 H2 g he2 w2 => ⟨M2, ρ2, S2, he2, w2, PF.mono (f := whL (fun ρ S => asB (ev C c ρ S)) (execs C b) n ρ2 S2) h1 w2 g⟩
      | bk ρ2 S2 => exact fun h1 => h1
      | rt d S2 => exact fun h1 => h1
      | ex c S2 => exact fun h1 => h1
      | bad => exact fun h1 => h1
theorem s_for {t : Tg} {it : It} {b : Ss} (T : TbOk Y C) (hb : ∀ ρ S, GS Y EX (rdSs Y C EX b) ρ S (execs C b ρ S)) (ρ : Env) (S : Sto) : GS Y EX (rdS Y C EX (.for_ t it b)) ρ S (exec C (.for_ t it b) ρ S) := fun A M σ H he w Dn hp => by
  simp only [rdS, exec] at hp ⊢
  refine gi T it EX ρ S A M σ H he w _ (hp.bind.imp fun ds S1 H1 e1 w1 h1 J xs rx jo => ?_)
  refine for_it (xs := xs) (fun n σ' H' => ∃ (M' : List Addr) (ρ' : Env) (S' : Sto), RepE Y A M' H' ρ' σ' ∧ Wf Y A M' S' H' ∧ Gr Y A M H1 M' H' ∧ PF Y EX A M' H' Dn (forL (asgD C t) (execs C b) (ds.drop n) ρ' S')) ⟨M, ρ, S1, he.ext e1, w1, Gr.of (Ext.refl M H1), h1⟩ ?_ ?_ ?_
  · rintro n σ' H' hn ⟨M', ρ', S', he', w', g, hp'⟩
    obtain ⟨j1, j2, j3⟩ := jo H' g.ext
    exact ⟨fun z => j1 n z, fun z => by rw [z]; exact j2, fun y H2 z => j3 n y H2 z⟩
  · rintro n x σ' H' hx ⟨M', ρ', S', he', w', g, hp'⟩
    have hn : n < ds.length := by
      rw [rx.length]
      exact (List.getElem?_eq_some_iff.mp hx).1
    obtain ⟨N, eM, fN⟩ := g.ex
    have rep : Rep Y (Avd A M') M' H' ds[n] x := by
      obtain ⟨v, q1, q2⟩ := rx.get (i := n) (List.getElem?_eq_getElem hn)
      rw [hx] at q1
      cases q1
      refine Rep.move (fun i a h => ?_) (fun a o na ha => ⟨g.ext a o (fun z => na (.inr z)) ha, fun z => ?_⟩) _ _ q2
      · rw [eM, List.getElem?_append_left (List.getElem?_eq_some_iff.mp h).1]; exact h
      · rcases z with z | z
        · exact na (.inl z)
        · rw [eM] at z
          rcases List.mem_append.mp z with z | z
          · exact na (.inr z)
          · rw [fN a z] at ha; cases ha
    rw [List.drop_eq_getElem_cons hn] at hp'
    simp only [forL] at hp'
    refine gg T t EX ρ' ds[n] S' A M' σ' H' x he' w' rep _ (hp'.bind.imp fun ρ1 S2 H2 e2 w2 h2 σ2 he2 => ?_)
    refine hb ρ1 S2 A M' σ2 H2 he2 w2 _ ?_
    revert h2
    cases execs C b ρ1 S2 with
    | nx ρ2 S3 => exact fun h2 M2 σ3 H3 g2 he3 w3 => ⟨M2, ρ2, S3, he3, w3, (g.trans w' (Gr.of e2)).trans w2 g2, PF.mono (f := forL (asgD C t) (execs C b) (ds.drop (n + 1)) ρ2 S3) h2 w3 g2⟩
    | ct ρ2 S3 => exact fun h2 M2 σ3 H3 g2 he3 w3 => ⟨M2, ρ2, S3, he3, w3, (g.trans w' (Gr.of e2)).trans w2 g2, PF.mono (f := forL (asgD C t) (execs C b) (ds.drop (n + 1)) ρ2 S3) h2 w3 g2⟩
    | bk ρ2 S2 => exact fun h1 => h1
    | rt d S2 => exact fun h1 => h1
    | ex c S2 => exact fun h1 => h1
    | bad => exact fun h1 => h1
  · rintro σ' H' ⟨M', ρ', S', he', w', g, hp'⟩
    rw [← rx.length, List.drop_length] at hp'
    simp only [forL] at hp'
    exact hp' M' σ' H' (Gr.of (Ext.refl M' H')) he' w'
mutual
theorem gs (T : TbOk Y C) : ∀ (s : St) (ρ : Env) (S : Sto), GS Y EX (rdS Y C EX s) ρ S (exec C s ρ S)
  | .asg t e, ρ, S => s_asg T t e ρ S
  | .par i j a b, ρ, S => s_par T i j a b ρ S
  | .par3 i j l a b c, ρ, S => s_par3 T i j l a b c ρ S
  | .aug i e, ρ, S => s_aug T i e ρ S
  | .newL i es, ρ, S => s_newL T i es ρ S
  | .newD i ks es, ρ, S => s_newD T i ks es ρ S
  | .exp e, ρ, S => s_exp T e ρ S
  | .ite c a b, ρ, S => s_ite T (gss T a) (gss T b) ρ S
  | .whl c b, ρ, S => s_whl T (gss T b) ρ S
  | .for_ t it b, ρ, S => s_for T (gss T b) ρ S
  | .ret e, ρ, S => s_ret T e ρ S
  | .retN, ρ, S => fun A M σ H he w Dn hp => by
    simp only [rdS, exec] at hp ⊢
    exact hp M _ H (Gr.of (Ext.refl M H)) r_non w
  | .raise c, ρ, S => fun A M σ H he w Dn hp => by
    simp only [rdS, exec] at hp ⊢
    exact hp M H (Gr.of (Ext.refl M H)) w
  | .pass, ρ, S => fun A M σ H he w Dn hp => by
    simp only [rdS, exec] at hp ⊢
    exact hp M _ H (Gr.of (Ext.refl M H)) he w
  | .brk, ρ, S => fun A M σ H he w Dn hp => by
    simp only [rdS, exec] at hp ⊢
    exact hp M _ H (Gr.of (Ext.refl M H)) he w
  | .cont, ρ, S => fun A M σ H he w Dn hp => by
    simp only [rdS, exec] at hp ⊢
    exact hp M _ H (Gr.of (Ext.refl M H)) he w
theorem gss (T : TbOk Y C) : ∀ (s : Ss) (ρ : Env) (S : Sto), GS Y EX (rdSs Y C EX s) ρ S (execs C s ρ S)
  | .nil, ρ, S => fun A M σ H he w Dn hp => by
    simp only [rdSs, execs] at hp ⊢
    exact hp M _ H (Gr.of (Ext.refl M H)) he w
  | .cons s ss, ρ, S => fun A M σ H he w Dn hp => by
    simp only [rdSs, execs] at hp ⊢
    refine gs T s ρ S A M σ H he w _ ?_
    revert hp
    cases exec C s ρ S with
    | nx ρ2 S2 => exact fun hp M2 σ2 H2 g he2 w2 => gss T ss ρ2 S2 A M2 σ2 H2 he2 w2 Dn (PF.mono (f := execs C ss ρ2 S2) hp w2 g)
    | bk ρ2 S2 => exact fun hp => hp
    | ct ρ2 S2 => exact fun hp => hp
    | rt d S2 => exact fun hp => hp
    | ex c S2 => exact fun hp => hp
    | bad => exact fun hp => hp
end
end
end Dz

set_option Elab.async false
set_option linter.all false
set_option maxRecDepth 100000
set_option maxHeartbeats 4000000
namespace Dz
open PySem PySem.Spec PyProof.Rows L2

section
variable {Y : Tb} {C : Tc} {EX : XK} {A : Addr → Prop} {M N : List Addr} {S : Sto} {H H' : Hp}
theorem Wf.shrink (w : Wf Y A (M ++ N) S H) : Wf Y A M (S.take M.length) H := by
  have hl := w.len
  rw [List.length_append] at hl
  refine ⟨by rw [List.length_take]; omega, (List.nodup_append.mp w.nd).1, w.tr, fun a ha => w.dj a (List.mem_append_left _ ha), fun i a c e1 e2 => ?_⟩
  have hi := (List.getElem?_eq_some_iff.mp e1).1
  rw [List.getElem?_take, if_pos hi] at e2
  have h := w.cell i a c (by rw [List.getElem?_append_left hi]; exact e1) e2
  rw [List.take_append_of_le_length (Nat.le_of_lt hi)] at h
  exact h.move (fun _ z => z) fun b u n z => ⟨z, fun q => n (by
    rcases q with q | q
    · exact .inl q
    · exact .inr (List.mem_append_left _ q))⟩
theorem rep_shrink {d : D} {v : V} (h : low M.length d = true) (r : Rep Y (Avd A (M ++ N)) (M ++ N) H d v) : Rep Y (Avd A M) M H d v := by
  have z := low_rep (j := M.length) d v h r
  rw [List.take_append_of_le_length (Nat.le_refl _), List.take_length] at z
  exact Rep.move (fun _ _ z => z) (fun a o n h => ⟨h, fun q => n (by
    rcases q with q | q
    · exact .inl q
    · exact .inr (List.mem_append_left _ q))⟩) _ _ z
theorem start_env {ds : List D} {vs : List V} (r : Reps Y (Avd A M) M H ds vs) (k : Nat) : RepE Y A M H (ds.map some ++ List.replicate k none) (vs.map some ++ List.replicate k none) := by
  have hl := r.length
  refine ⟨by simp [hl], fun i d h => ?_⟩
  by_cases hi : i < ds.length
  · rw [List.getElem?_append_left (by simpa using hi), List.getElem?_map] at h
    cases e : ds[i]? with
    | none => rw [e] at h; cases h
    | some d' =>
      rw [e] at h
      cases h
      obtain ⟨v, h1, h2⟩ := r.get e
      refine ⟨v, ?_, h2⟩
      rw [List.getElem?_append_left (by rw [List.length_map, ← hl]; exact hi), List.getElem?_map, h1]
      rfl
  · rw [List.getElem?_append_right (by simpa using hi), List.getElem?_replicate] at h
    split at h <;> cases h
theorem fin_P {M' : List Addr} {d : D} {v : V} {S' : Sto} {F : VK} (g : Gr Y A M H M' H') (len : M.length = S.length) (w : Wf Y A M' S' H') (r : Rep Y (Avd A M') M' H' d v)
    (h : P Y EX A M H (fin S.length d S') (FQ Y A M F)) : F v H' := by
  obtain ⟨N, e, f⟩ := g.ex
  subst e
  unfold fin at h
  split at h
  · rename_i k
    have k := of_decide_eq_true k
    have hN : N = [] := by
      have := w.len
      rw [List.length_append, k, len] at this
      exact List.eq_nil_of_length_eq_zero (by omega)
    subst hN
    rw [List.append_nil] at w r
    exact h H' g.ext w v r
  · have ws := w.shrink
    rw [len] at ws
    split at h
    · rename_i j
      split at h
      · rename_i l k1 e0
        obtain ⟨k, h⟩ := whenR_P h
        have k1 := of_decide_eq_true k1
        obtain ⟨p, rfl, hj, vs, q1, q2⟩ := cell_of w r e0
        refine h H' g.ext ws _ ?_
        rw [← len] at k
        have rl : Reps Y (Avd A M) M H' l vs := by
          have z := lows_reps (n := M.length) k q2
          rw [List.take_append_of_le_length (Nat.le_refl _), List.take_length] at z
          exact Reps.move (fun _ _ z => z) (fun a o n h => ⟨h, fun q => n (by
            rcases q with q | q
            · exact .inl q
            · exact .inr (List.mem_append_left _ q))⟩) _ _ z
        simp only [Rep]
        refine ⟨p, vs, rfl, q1, fun z => ?_, rl⟩
        have pN : p ∈ N := by
          rw [List.getElem?_append_right (by rw [len]; exact k1)] at hj
          exact List.mem_of_getElem? hj
        rcases z with z | z
        · exact w.dj p (List.mem_append_right _ pN) z
        · exact (List.nodup_append.mp w.nd).2.2 p z p pN rfl
      · exact h.elim
    · obtain ⟨k, h⟩ := whenR_P h
      rw [← len] at k
      exact h H' g.ext ws v (rep_shrink k r)
/-- a def's body, by its run -/
theorem body_ok (T : TbOk Y C) {b : Ss} {ds : List D} {vs : List V} {Q : VK} {Nm : List Str} (w : Wf Y A M S H) (r : Reps Y (Avd A M) M H ds vs)
    (h : P Y EX A M H (run C Nm.length b ds S) (FQ Y A M Q)) : rdSs Y C EX b { nx := fun _ H' => Q .non H', rt := Q } (L2.start Nm vs) H := by
  have env := start_env r (Nm.length - ds.length)
  have e : L2.start Nm vs = vs.map some ++ List.replicate (Nm.length - ds.length) none := by
    unfold L2.start
    rw [r.length]
  rw [e]
  refine gss T b _ S A M _ H env w _ ?_
  unfold run at h
  revert h
  cases execs C b (ds.map some ++ List.replicate (Nm.length - ds.length) none) S with
  | nx ρ' S' => exact fun h M' σ' H' g he' w' => fin_P g w.len w' r_non h
  | rt d S' => exact fun h M' v H' g rv w' => fin_P g w.len w' rv h
  | ex c S' =>
    intro h M' H' g w'
    obtain ⟨N, e, f⟩ := g.ex
    subst e
    have ws := w'.shrink
    rw [w.len] at ws
    exact h H' g.ext ws
  | bk ρ' S' => exact fun h => h.elim
  | ct ρ' S' => exact fun h => h.elim
  | bad => exact fun h => h.elim
end
end Dz

set_option Elab.async false
set_option linter.all false
set_option maxRecDepth 100000
set_option maxHeartbeats 4000000
namespace Dz
open PySem PySem.Spec PyProof.Rows L2

/-! ### the text turned into expressions -/
structure Kc where
  N : List Str
  fns : List (Str × Nat) := []
  cls : List (Str × (Nat × Nat)) := []
  mts : List (Str × (Nat × Nat)) := []
  cons : List (Str × Nat) := []
  exs : List (Str × Nat) := []
  muts : List Nat := []
  /-- defs that are handed a lambda; whether lambdas are made here -/
  wrs : List (Str × Nat) := []
  lam : Bool := false
/-- in a comprehension: no lambdas; in a lambda: the same -/
def Kc.inB (k : Kc) : Kc := { k with wrs := [], lam := false }
/-- a lambda's parameters: none, or one that is 0 where nothing is handed -/
def lamP (p : Arguments) : Option (Option Str) := if p.posonlyargs.isEmpty && p.vararg.isNone && p.kwonlyargs.isEmpty && p.kw_defaults.isEmpty && p.kwarg.isNone then (match p.args, p.defaults with
  | [], [] => some none
  | [a], [.Constant (.int 0) _ _] => some (some a.arg)
  | _, _ => none) else none
def lamDB (N : List Str) (sc scope : Scope) (x : Option Str) : Bool :=
  decide (scope.kind = .function) && !scope.isCoroutine && !scope.isGenerator && (scope.names.all fun y => (!decide (y.2 = .local) || decide (x = some y.1)) && !decide (y.2 = .cell) && (!decide (y.2 = .free) || decide (sc.names.lookup y.1 = some .cell) || decide (sc.names.lookup y.1 = some .free))) &&
  (match x with | none => true | some a => !decide (a ∈ N) && decide (scope.names.lookup a = some .local))
def lamB (N : List Str) (sc : Scope) (p : Arguments) (scope : Scope) : Bool := match lamP p with
  | some x => lamDB N sc scope x
  | none => false
def txoC (m : Str) : Option Txo := if m = "split" then some .split else if m = "partition" then some .part else if m = "join" then some .join else none
def lmoC (m : Str) : Option Lmo := if m = "index" then some .index else if m = "count" then some .count else none
def slotF (x : Str) : List Str → Nat → Option Nat
  | [], _ => none
  | y :: l, i => if y = x then some i else slotF x l (i + 1)
def visB (sc : Scope) (x : Str) : Bool := match sc.names.lookup x with
  | some .local => true | some .cell => true | some .free => true | _ => false
def globB (sc : Scope) (x : Str) : Bool := match sc.names.lookup x with
  | some .globalImplicit => true | _ => false
def plainN (x : Str) : Bool := !(x == ("__debug__" : Str)) && !(x == ("__classdict__" : Str))
def bopC : Operator → Option Bop
  | .Add => some .add | .Sub => some .sub | .Mult => some .mul | .FloorDiv => some .fdiv | .Mod => some .mod | .Pow => some .pow | .LShift => some .shl | _ => none
def copC : CmpOp → Cop
  | .Eq => .eq | .NotEq => .ne | .Lt => .lt | .LtE => .le | .Gt => .gt | .GtE => .ge | .Is => .is | .IsNot => .isnot | .In => .isin | .NotIn => .notin
def bltC (x : Str) : Option Blt :=
  if x = "len" then some .len else if x = "abs" then some .abs else if x = "min" then some .min else if x = "max" then some .max else if x = "int" then some .int
  else if x = "list" then some .list else if x = "tuple" then some .tuple else if x = "sorted" then some .sorted else if x = "all" then some .all else if x = "str" then some .str else none
def tyC (x : Str) : Option Ty :=
  if x = "int" then some .int else if x = "bool" then some .bool else if x = "str" then some .str else if x = "tuple" then some .tuple else if x = "list" then some .list else none
def star : Expr → Bool
  | .Starred _ _ => true
  | _ => false
def isSlice : Expr → Bool
  | .Slice _ _ _ _ => true
  | _ => false
def isComp : Expr → Bool
  | .ListComp _ _ _ _ => true | .SetComp _ _ _ _ => true | .DictComp _ _ _ _ _ => true
  | _ => false
def isCall : Expr → Bool
  | .Call _ [] _ _ => true
  | _ => false
def isSet : Expr → Bool
  | .Set _ _ _ => true
  | _ => false
def mapE (f : Expr → Option E) : List Expr → Option Es
  | [] => some .nil
  | e :: es => match f e, mapE f es with | some a, some b => some (.cons a b) | _, _ => none
def foldB (f : Expr → Option E) (op : E → E → E) : List Expr → Option E
  | [] => none
  | [e] => f e
  | e :: es => match f e, foldB f op es with | some a, some b => some (op a b) | _, _ => none
def strK : Option Expr → Option Str
  | some (.Constant (.str x) _ _) => some x
  | _ => none
def keysC : List (Option Expr) → Option (List Str)
  | [] => some []
  | k :: ks => match strK k, keysC ks with | some a, some b => some (a :: b) | _, _ => none
def neg1 : Expr → Bool
  | .UnaryOp .USub (.Constant (.int i) _ _) _ => decide (i = 1)
  | _ => false
/-- a global name that no def of the text is: a call of it -/
def callC (k : Kc) (x : Str) (es : Es) : Option E := match k.fns.lookup x with
  | some id => some (.call id es)
  | none => match k.cls.lookup x with
    | some (id, c) => some (.mk id c es)
    | none => match bltC x, es with
      | some b, .cons e es => some (.blt b (.cons e es))
      | _, _ => none
def isiC (sc : Scope) (f : Expr → Option E) : List Expr → Option E
  | [a, .Name t _] => (match f a, globB sc t, tyC t with
    | some a', true, some t' => some (.isi a' t')
    | _, _, _ => none)
  | [a, .Tuple [.Name t _, .Name u _] _ _] => (match f a, globB sc t && globB sc u, tyC t, tyC u with
    | some a', true, some t', some u' => some (.isi2 a' t' u')
    | _, _, _, _ => none)
  | _ => none
def rangeArgs (sc : Scope) : Expr → Option (List Expr)
  | .Call (.Name x _) args [] _ => if x = "range" ∧ globB sc x = true then some args else none
  | _ => none
/-- list(range(a, b)) -/
def lrArgs (sc : Scope) (x : Str) : List Expr → Option (Expr × Expr)
  | [e] => if x = "list" then (match rangeArgs sc e with | some [a, b] => some (a, b) | _ => none) else none
  | _ => none
def itC (sc : Scope) (f : Expr → Option E) (e : Expr) : Option It := match rangeArgs sc e with
  | some [a] => (f a).map .rg1
  | some [a, b] => (match f a, f b with | some a', some b' => some (.rg2 a' b') | _, _ => none)
  | some [a, b, c] => (match f a, f b, f c with | some a', some b', some c' => some (.rg3 a' b' c') | _, _, _ => none)
  | some _ => none
  | none => if isSet e then none else (f e).map .of
def constC : Const → Option E
  | .int i => some (.cst (.int i))
  | .bool b => some (.cst (.bl b))
  | .none => some (.cst .non)
  | .str x => some (.cst (.str x))
  | _ => none
def isLogic : E → Bool
  | .not _ => true | .and _ _ => true | .or _ _ => true | _ => false
def truthy1 : Expr → Bool
  | .Name _ _ => true | .Call _ _ _ _ => true | .Attribute _ _ _ => true | _ => false
def lcScope (N : List Str) (sc scope : Scope) (x : Str) (i : Nat) : Bool := blkC N sc scope [(x, i)] && (match (relS scope sc).names.lookup x with | some .local => true | _ => false)
mutual
def cE : Nat → Kc → Scope → Expr → Option E
  | 0, _, _, _ => none
  | n + 1, k, sc, e => match e with
    | .Name x _ => if visB sc x && plainN x then (slotF x k.N 0).map .var else if globB sc x && plainN x then (k.cons.lookup x).map .glo else none
    | .Constant c _ _ => constC c
    | .BinOp a op b _ => (match bopC op, cE n k sc a, cE n k sc b with | some o, some a', some b' => some (.bin o a' b') | _, _, _ => none)
    | .UnaryOp .USub a _ => (cE n k sc a).map .neg
    | .UnaryOp .Not a _ => (cE n k sc a).map .not
    | .BoolOp .And vs _ => foldB (cE n k sc) .and vs
    | .BoolOp .Or vs _ => foldB (cE n k sc) .or vs
    | .IfExp c a b _ => (match cT n k sc c, cE n k sc a, cE n k sc b with | some c', some a', some b' => some (.ite c' a' b') | _, _, _ => none)
    | .Compare a [o] [b] _ => (match cE n k sc a, cE n k sc b, isSet b with | some a', some b', false => some (.cmp (copC o) a' b') | _, _, _ => none)
    | .Compare a [o, o'] [b, c] _ => (match cE n k sc a, cE n k sc b, cE n k sc c, isSet c with | some a', some b', some c', false => some (.chn (copC o) (copC o') a' b' c') | _, _, _, _ => none)
    | .Tuple es _ _ => (mapE (cE n k sc) es).map .tup
    | .List es _ => (mapE (cE n k sc) es).map .lst
    | .Dict ks vs _ => (match keysC ks, mapE (cE n k sc) vs, decide (ks.length = vs.length) && !ks.isEmpty && decide (ks.length ≤ 15) with | some a, some b, true => some (.dct a b) | _, _, _ => none)
    | .Subscript a (.Slice (some lo) none none _) _ => (match cE n k sc a, cE n k sc lo with | some a', some b' => some (.slf a' b') | _, _ => none)
    | .Subscript a (.Slice none (some hi) none _) _ => (match cE n k sc a, cE n k sc hi with | some a', some b' => some (.slt a' b') | _, _ => none)
    | .Subscript a (.Slice none none (some (.UnaryOp .USub (.Constant (.int 1) _ _) _)) _) _ => (cE n k sc a).map .rev
    | .Subscript a b _ => (match cE n k sc a, cE n k sc b, isSlice b with | some a', some b', false => some (.sub a' b') | _, _, _ => none)
    | .Attribute a f _ => (match cE n k sc a, isCall a with | some a', false => some (.fld a' f) | _, _ => none)
    | .Call (.Name x _) args [] _ => (match globB sc x && plainN x with
      | true => if x = "isinstance" then isiC sc (cE n k sc) args else match lrArgs sc x args with
        | some (a, b) => (match cE n k sc a, cE n k sc b with | some a', some b' => some (.lr2 a' b') | _, _ => none)
        | none => match k.wrs.lookup x, args with
          | some id, [a] => (cE n k sc a).map (.wrg id)
          | some _, _ => none
          | none, _ => (match mapE (cE n k sc) args with
            | some es => callC k x es
            | none => none)
      | false => none)
    | .Call (.Attribute o m apos) args [] pos => (match cE n k sc o, (apos.endLine == pos.line) && decide (args.length < 29) && !isCall o with
      | some o', true => (match mapE (cE n k sc) args, k.mts.lookup m with
        | some es, some (id, c) => some (.mth id c m o' es)
        | some (.cons e .nil), none => if m = "append" then some (.app o' e) else (match txoC m, lmoC m with
          | some t, _ => some (.txt t o' e)
          | none, some t => some (.lms t o' e)
          | none, none => none)
        | some .nil, none => if m = "pop" then some (.pop o') else none
        | some (.cons e (.cons e2 .nil)), none => if m = "get" then some (.dget o' e e2) else none
        | _, _ => none)
      | _, _ => none)
    | .Lambda params body scope _ => if k.lam && lamB k.N sc params scope then (cE n k.inB scope body).map .lam else none
    | .ListComp elt [⟨.Name x _, iter, [], 0⟩] scope _ => (match slotF x k.N 0, itC sc (cE n k sc) iter, cE n k.inB (relS scope sc) elt with
      | some i, some it, some e' => if lcScope k.N sc scope x i then some (.lc e' i it) else none
      | _, _, _ => none)
    | .ListComp elt [⟨.Name x _, iter, [c], 0⟩] scope _ => (match slotF x k.N 0, itC sc (cE n k sc) iter, cE n k.inB (relS scope sc) elt, cT n k.inB (relS scope sc) c with
      | some i, some it, some e', some c' => if lcScope k.N sc scope x i then some (.lcc e' i it c') else none
      | _, _, _, _ => none)
    | _ => none
def cT : Nat → Kc → Scope → Expr → Option E
  | 0, _, _, _ => none
  | n + 1, k, sc, e => match e with
    | .UnaryOp .Not a _ => (cT n k sc a).map .not
    | .BoolOp .And vs _ => foldB (cT n k sc) .and vs
    | .BoolOp .Or vs _ => foldB (cT n k sc) .or vs
    | .Compare a [o] [b] _ => (match cE n k sc a, cE n k sc b, isSet b with | some a', some b', false => some (.cmp (copC o) a' b') | _, _, _ => none)
    | .Compare a [o, o'] [b, c] _ => (match cE n k sc a, cE n k sc b, cE n k sc c, isSet c with | some a', some b', some c', false => some (.chn (copC o) (copC o') a' b' c') | _, _, _, _ => none)
    | e => if truthy1 e then (match cE n k sc e with | some m => if isLogic m then none else some m | none => none) else none
end

/-! ### what the context gives -/
def bltNames : List Str := ["isinstance", "int", "bool", "str", "tuple", "list", "len", "abs", "min", "max", "range", "sorted", "all"]
structure Cok (Y : Tb) (C : Tc) (k : Kc) (lv : Nat) (sc : Scope) (X : Cx) (EX : XK) : Prop where
  hK : X.K = Y.K
  hN : X.N = k.N
  nd : k.N.Nodup
  sc : X.env.scope = sc
  calm : X.calm = true
  room : Room lv X.A
  pass : Passes (L2.CX X.prog X.w) X EX
  fns : ∀ x id, k.fns.lookup x = some id → ∃ f fd ps, FnOk X.prog X.w X.K X.mg X.base (L2.CX X.prog X.w) lv f fd ps (SpOf Y C id) ∧ X.mg x = some (.ref f) ∧ PySem.W.keepIn X.K (.ref f) = true ∧ Binds X.K fd ps []
  cls : ∀ x id c, k.cls.lookup x = some (id, c) → ∃ f fd ps lv', lv' + 1 ≤ lv ∧ Mk X.K (Y.Cs c) f ∧ FnOk X.prog X.w X.K X.mg X.base (L2.CX X.prog X.w) lv' f fd ps (SpI Y C id c) ∧ X.mg x = some (.ref (Y.Cs c)) ∧ Binds X.K fd ps []
  mts : ∀ m id c, k.mts.lookup m = some (id, c) → ∃ f fd ps, Cls X.K (Y.Cs c) ∧ Meth X.K (Y.Cs c) m f ∧ FnOk X.prog X.w X.K X.mg X.base (L2.CX X.prog X.w) lv f fd ps (SpOf Y C id) ∧ Binds X.K fd ps []
  cons : ∀ x i, k.cons.lookup x = some i → ∃ u, X.mg x = some u ∧ RelV (Y.gv i) u
  blt : ∀ x ∈ bltNames, X.mg x = none
  lam : k.lam = true → ∀ params body scope pos e n, lamB k.N X.env.scope params scope = true → cE n k.inB scope body = some e → PE X (.Lambda params body scope pos) (Y.rl e)
  wrg : ∀ x id, k.wrs.lookup x = some id → ∀ a ta pos p, Gl X x → (x == ("__debug__" : Str)) = false → PE X a ta → star a = false → PE X (.Call (.Name x p) [a] [] pos) (fun σ H Q => ta σ H fun v H1 => Y.rw id EX v σ H1 Q)
end Dz

set_option Elab.async false
set_option linter.all false
set_option maxRecDepth 100000
set_option maxHeartbeats 4000000
namespace Dz
open PySem PySem.Spec PyProof.Rows L2

section
variable {Y : Tb} {C : Tc} {k : Kc} {lv : Nat} {sc : Scope} {X : Cx} {EX : XK}
theorem slotF_ok {x : Str} : ∀ {N : List Str} {i j : Nat}, slotF x N i = some j → ∃ m, j = i + m ∧ N[m]? = some x
  | [], i, j, h => by simp [slotF] at h
  | y :: l, i, j, h => by
    simp only [slotF] at h
    split at h
    · rename_i e
      cases h
      exact ⟨0, rfl, by rw [← e]; rfl⟩
    · obtain ⟨m, h1, h2⟩ := slotF_ok h
      exact ⟨m + 1, by omega, by simpa using h2⟩
theorem slot_at {x : Str} {N : List Str} {j : Nat} (h : slotF x N 0 = some j) : N[j]? = some x := by
  obtain ⟨m, h1, h2⟩ := slotF_ok h
  rw [h1, Nat.zero_add]
  exact h2
theorem vis_of {x : Str} (h : visB sc x = true) : Vis sc x := by
  unfold visB at h
  split at h
  · exact .inl (by assumption)
  · exact .inr (.inl (by assumption))
  · exact .inr (.inr (by assumption))
  · cases h
theorem glob_of (c : Cok Y C k lv sc X EX) {x : Str} (h : globB sc x = true) : Gl X x := by
  unfold globB at h
  show X.env.scope.names.lookup x = some .globalImplicit
  rw [c.sc]
  split at h
  · assumption
  · cases h
theorem plain_of {x : Str} (h : plainN x = true) : (x == ("__debug__" : Str)) = false ∧ (x == ("__classdict__" : Str)) = false := by
  unfold plainN at h
  simp only [Bool.and_eq_true, Bool.not_eq_true'] at h
  exact h
theorem fdivX_ok : OpR X (binaryOp .FloorDiv) (rI CDivX fun i j => .int (i.fdiv j)) := opI fun _ _ _ _ _ _ _ hc q => floordiv_int hc.1 q (.inl (PyProof.noPylong_of_log2 hc.2))
theorem rep_size (c : Array Nat) : ∀ (n : Nat) (a : Array Nat), ((List.replicate n c).foldl (· ++ ·) a).size = a.size + n * c.size
  | 0, a => by simp
  | n + 1, a => by
    rw [List.replicate_succ, List.foldl_cons, rep_size c n, Array.size_append, Nat.succ_mul]
    omega
theorem op_strRep : OpR X (binaryOp .Mult) rStrRep := by
  intro pins s σ H x y v u Q I rx ry h
  obtain ⟨i, j, rfl, rfl, h1, h2, h3, q⟩ := h
  obtain ⟨t, rfl⟩ := rx
  obtain ⟨u', rfl⟩ := ry
  have ej : ¬ j < 1 := by omega
  have ek : (j == 1 || i.length == 0) = false := by
    rw [h1, Bool.or_eq_false_iff]
    refine ⟨?_, rfl⟩
    simp only [beq_eq_false_iff_ne]
    omega
  refine PySem.P.mul_str ?_ (fun _ _ => ?_) (fun _ _ => ?_) ?_
  · rw [decide_eq_false (by omega), decide_eq_false (by omega)]; rfl
  · rw [h1]
    have : (1 : Int) ≤ (2 ^ 63 - 1) / j := by
      rw [Int.le_ediv_iff_mul_le (by omega)]
      omega
    omega
  · rw [h1, Nat.one_mul]
    unfold Builtin.Str.tooLong
    simp only [decide_eq_false_iff_not]
    have : sizeLine = 16777216 := by decide
    first | omega | (intro z; omega)
  · rw [if_neg ej, ek, if_neg Bool.false_ne_true]
    refine ⟨?_, .str _, H, I.tok _, ⟨_, rfl⟩, q⟩
    have e : sizeLine = 16777216 := by decide
    have h4 : i.cps.size = 1 := h1
    show ((List.replicate j.toNat i.cps).foldl (· ++ ·) #[]).size ≤ sizeLine
    rw [rep_size, h4]
    simp only [Array.size_empty]
    omega
theorem bop_ok (c : Cok Y C k lv sc X EX) {op : Operator} {o : Bop} (h : bopC op = some o) : OpR X (binaryOp op) (binR Y.K o) := by
  rw [← c.hK]
  cases op <;> simp only [bopC, Option.some.injEq, reduceCtorEq] at h <;> subst h
  · exact op_add.or (op_add_str.or (op_cat.or op_catA))
  · exact op_sub
  · exact op_mulW.or (op_strRep.or op_repA)
  · exact op_modN
  · exact op_pow
  · exact op_shl
  · exact fdivX_ok
theorem hu_ok (c : Cok Y C k lv sc X EX) : X.A.units + 64 < cLine := c.room.units
theorem hu1_ok (c : Cok Y C k lv sc X EX) : X.A.units + 1 < cLine := hu_of c.room
theorem cop_ok (c : Cok Y C k lv sc X EX) (op : CmpOp) : OpR X (compareOp op) (cmpR Y.K (copC op)) := by
  rw [← c.hK]
  cases op
  · exact op_eq.or (op_eqD (hu_ok c))
  · exact op_ne.or (op_neD (hu_ok c))
  · exact op_lt
  · exact op_le
  · exact op_gt
  · exact op_ge
  · exact op_isN.or op_isBl
  · exact op_notN.or op_notBl
  · exact op_in_seq.or op_in_sign
  · exact op_notIn_seq.or op_notIn_sign
theorem mark_of {e : Expr} (op : CmpOp) (h : isSet e = false) : behindInMarks op e = false := by
  cases e <;> first | rfl | cases h
theorem star_each {e : Expr} {es : List Expr} {env : PySem.Env} (h : star e = false) : starEach (e :: es) env = (false, eval e env) :: starEach es env := by
  cases e <;> first | rfl | cases h
theorem stars_any {pos : Pos} {env : PySem.Env} : ∀ {es : List Expr}, es.all (fun e => !star e) = true → (backTo pos (starEach es env)).any (·.1) = false
  | [], _ => rfl
  | e :: es, h => by
    rw [List.all_cons, Bool.and_eq_true, Bool.not_eq_true'] at h
    rw [star_each h.1]
    show (false || (backTo pos (starEach es env)).any (·.1)) = false
    rw [stars_any h.2]
    rfl
theorem stars_all {pos : Pos} {env : PySem.Env} : ∀ {es : List Expr}, es.all (fun e => !star e) = true → (backTo pos (starEach es env)).all (fun x => !x.1) = true
  | [], _ => rfl
  | e :: es, h => by
    rw [List.all_cons, Bool.and_eq_true, Bool.not_eq_true'] at h
    rw [star_each h.1]
    show (true && (backTo pos (starEach es env)).all (fun x => !x.1)) = true
    rw [stars_all h.2]
    rfl
abbrev PEc (Y : Tb) (C : Tc) (EX : XK) (X : Cx) (f : Expr → Option E) : Prop := ∀ e m, f e = some m → PE X e (rdE Y C EX m) ∧ star e = false
theorem mapE_ok {f : Expr → Option E} (h : PEc Y C EX X f) : ∀ {es : List Expr} {ms : Es}, mapE f es = some ms → PA X es (rdA Y C EX ms) ∧ es.all (fun e => !star e) = true
  | [], ms, e => by
    simp only [mapE, Option.some.injEq] at e
    subst e
    exact ⟨by simp only [rdA]; exact pa_nil, rfl⟩
  | x :: es, ms, e => by
    simp only [mapE] at e
    cases e1 : f x with
    | none => simp [e1] at e
    | some a =>
      cases e2 : mapE f es with
      | none => simp [e1, e2] at e
      | some b =>
        simp only [e1, e2, Option.some.injEq] at e
        subst e
        obtain ⟨p1, s1⟩ := h x a e1
        obtain ⟨p2, s2⟩ := mapE_ok h e2
        refine ⟨?_, by rw [List.all_cons, s1, s2]; rfl⟩
        simp only [rdA]
        exact pa_cons p1 p2 (star_each s1)
theorem mapE_nil {f : Expr → Option E} {es : List Expr} (h : mapE f es = some .nil) : es = [] := by
  cases es with
  | nil => rfl
  | cons x es =>
    simp only [mapE] at h
    split at h <;> cases h
theorem mapE_cons {f : Expr → Option E} {es : List Expr} {m : E} {ms : Es} (h : mapE f es = some (.cons m ms)) : ∃ x xs, es = x :: xs ∧ f x = some m ∧ mapE f xs = some ms := by
  cases es with
  | nil => simp [mapE] at h
  | cons x es =>
    simp only [mapE] at h
    split at h
    · rename_i a b e1 e2
      simp only [Option.some.injEq, Es.cons.injEq] at h
      exact ⟨x, es, rfl, by rw [e1, h.1], by rw [e2, h.2]⟩
    · cases h
/-! built-ins -/
theorem blt_name {x : Str} {b : Blt} (h : bltC x = some b) : x ∈ bltNames ∧ plainN x = true ∧ x ≠ ("__name__" : Str) := by
  unfold bltC at h
  repeat' (split at h; · rename_i e; subst e; refine ⟨by decide +kernel, by decide +kernel, by decide +kernel⟩)
  cases h
theorem c_blt (c : Cok Y C k lv sc X EX) {x : Str} {b : Blt} {e : Expr} {es : List Expr} {t : TA} {p pos : Pos} (h : bltC x = some b) (hg : Gl X x) (ha : PA X (e :: es) t) (hs : (e :: es).all (fun e => !star e) = true) :
    PE X (.Call (.Name x p) (e :: es) [] pos) (tCB (bltR Y.K b) t) := by
  obtain ⟨h1, h2, h3⟩ := blt_name h
  have hm := c.blt x h1
  obtain ⟨hd, _⟩ := plain_of h2
  rw [List.all_cons, Bool.and_eq_true, Bool.not_eq_true'] at hs
  have s1 := star_each (es := es) (env := X.env) hs.1
  have s2 := stars_any (pos := pos) (env := X.env) hs.2
  rw [← c.hK]
  unfold bltC at h
  split at h
  · rename_i ex; subst ex; cases h; exact pe_callB (r := bltR X.K .len) (call_len_seq.or call_len_str) hg hm PySem.boot_len ha h3 hd s1 s2
  split at h
  · rename_i ex; subst ex; cases h; exact pe_callB (r := bltR X.K .abs) call_abs hg hm (by decide +kernel) ha h3 hd s1 s2
  split at h
  · rename_i ex; subst ex; cases h; exact pe_callB (r := bltR X.K .min) (call_min2 c.calm) hg hm (by decide +kernel) ha h3 hd s1 s2
  split at h
  · rename_i ex; subst ex; cases h; exact pe_callB (r := bltR X.K .max) (call_max2 c.calm) hg hm (by decide +kernel) ha h3 hd s1 s2
  split at h
  · rename_i ex; subst ex; cases h; exact pe_callTy (r := bltR X.K .int) (call_int1.or call_int_str) hg hm (by decide +kernel) ha h3 hd s1 s2
  split at h
  · rename_i ex; subst ex; cases h; exact pe_callTy (r := bltR X.K .list) call_list_of hg hm (by decide +kernel) ha h3 hd s1 s2
  split at h
  · rename_i ex; subst ex; cases h; exact pe_callTy (r := bltR X.K .tuple) call_tuple_of hg hm (by decide +kernel) ha h3 hd s1 s2
  split at h
  · rename_i ex; subst ex; cases h; exact pe_callB (r := bltR X.K .sorted) cr_sorted hg hm (by decide +kernel) ha h3 hd s1 s2
  split at h
  · rename_i ex; subst ex; cases h; exact pe_callB (r := bltR X.K .all) (cr_all c.calm) hg hm (by decide +kernel) ha h3 hd s1 s2
  split at h
  · rename_i ex; subst ex; cases h; exact pe_callTy (r := bltR X.K .str) (call_str_int.or SkE.call_str_str) hg hm (by decide +kernel) ha h3 hd s1 s2
  cases h
/-! calls by name -/
theorem c_call (c : Cok Y C k lv sc X EX) {f : Expr → Option E} (hf : PEc Y C EX X f) {x : Str} {es : List Expr} {ms : Es} {m : E} {p pos : Pos} (he : mapE f es = some ms) (hg : Gl X x) (hd : plainN x = true) (h : callC k x ms = some m) :
    PE X (.Call (.Name x p) es [] pos) (rdE Y C EX m) := by
  obtain ⟨pa, ps⟩ := mapE_ok hf he
  obtain ⟨hd1, hd2⟩ := plain_of hd
  unfold callC at h
  split at h
  · rename_i id e1
    cases h
    obtain ⟨fa, fd, ps', F, hm, kp, b⟩ := c.fns x id e1
    simp only [rdE]
    cases es with
    | nil =>
      simp only [mapE, Option.some.injEq] at he
      subst he
      simp only [rdA]
      exact pe_call0 F c.room hg hm kp b .nil c.pass hd1
    | cons e es =>
      rw [List.all_cons, Bool.and_eq_true, Bool.not_eq_true'] at ps
      exact pe_call F c.room hg hm kp b .nil c.pass pa hd1 (star_each ps.1) (stars_any ps.2)
  · split at h
    · rename_i id cn e1
      cases h
      obtain ⟨fa, fd, ps', lv', hl, Mk', F, hm, b⟩ := c.cls x id cn e1
      simp only [rdE]
      cases es with
      | nil =>
        simp only [mapE, Option.some.injEq] at he
        subst he
        simp only [rdA]
        exact pe_make0 Mk' F (c.room.mono hl) hg hm b .nil c.pass hd1
      | cons e es =>
        rw [List.all_cons, Bool.and_eq_true, Bool.not_eq_true'] at ps
        exact pe_make Mk' F (c.room.mono hl) hg hm b .nil c.pass pa hd1 (star_each ps.1) (stars_any ps.2)
    · split at h
      · rename_i b e' es' e1
        cases h
        obtain ⟨y, ys, rfl, _, _⟩ := mapE_cons he
        simp only [rdE]
        exact c_blt c e1 hg pa ps
      · cases h
theorem abase_of {o : Expr} {m : Str} {env : PySem.Env} {whole : Sem Value} (h : isCall o = false) : attributeBase o m env whole = whole := by
  cases o <;> first | rfl | skip
  rename_i f args kws pos
  cases args with
  | nil => cases h
  | cons _ _ => cases f <;> first | rfl | (unfold attributeBase; simp; done)
theorem few_of {es : List Expr} {pos : Pos} {env : PySem.Env} (hs : es.all (fun e => !star e) = true) (hl : es.length < 29) : methodCallForm (es.length + ([] : List Keyword).length) (backTo pos (starEach es env)) (backToKw pos (keywordEach [] env)) = true := by
  unfold methodCallForm
  rw [stars_all hs]
  have e1 : (backToKw pos (keywordEach [] env)).all (·.1.isSome) = true := rfl
  have e2 : (backToKw pos (keywordEach [] env)).isEmpty = true := rfl
  rw [e1, e2, if_pos rfl]
  show (true && true && decide (es.length + 0 + 0 < 30)) = true
  rw [decide_eq_true (by omega)]
  rfl
theorem c_meth (c : Cok Y C k lv sc X EX) {f : Expr → Option E} (hf : PEc Y C EX X f) {m : Str} {o : Expr} {es : List Expr} {ms : Es} {o' : E} {id cn : Nat} {apos pos : Pos} (he : mapE f es = some ms) (ho : f o = some o') (hl : (apos.endLine == pos.line) = true) (hn : es.length < 29)
    (hc : isCall o = false) (h : k.mts.lookup m = some (id, cn)) : PE X (.Call (.Attribute o m apos) es [] pos) (rdE Y C EX (.mth id cn m o' ms)) := by
  obtain ⟨pa, ps⟩ := mapE_ok hf he
  obtain ⟨po, _⟩ := hf o o' ho
  obtain ⟨fa, fd, ps', cl, mt, F, b⟩ := c.mts m id cn h
  have few := few_of (pos := pos) (env := X.env) ps hn
  have ht := mcall_of (o := o) (m := m) (apos := apos) (pos := pos) (args := es) (kws := []) (env := X.env) (abase_of hc) fun ov => mcall_line (o := o) (m := m) (ov := ov) few hl
  simp only [rdE]
  cases es with
  | nil =>
    simp only [mapE, Option.some.injEq] at he
    subst he
    simp only [rdA]
    exact pe_meth0 (pl := plainOf o X.env) po cl mt F c.room b .nil c.pass ht
  | cons e es =>
    rw [List.all_cons, Bool.and_eq_true, Bool.not_eq_true'] at ps
    exact pe_meth (pl := plainOf o X.env) po cl mt F c.room b .nil c.pass pa (star_each ps.1) (stars_any ps.2) ht
theorem c_app (c : Cok Y C k lv sc X EX) {f : Expr → Option E} (hf : PEc Y C EX X f) {o e : Expr} {o' e' : E} {apos pos : Pos} (he : f e = some e') (ho : f o = some o') (hl : (apos.endLine == pos.line) = true)
    (hc : isCall o = false) : PE X (.Call (.Attribute o "append" apos) [e] [] pos) (rdE Y C EX (.app o' e')) := by
  obtain ⟨po, _⟩ := hf o o' ho
  obtain ⟨pe, se⟩ := hf e e' he
  have hs : ([e] : List Expr).all (fun e => !star e) = true := by rw [List.all_cons, se]; rfl
  have few := few_of (pos := pos) (env := X.env) hs (show 1 < 29 by decide)
  simp only [rdE]
  rw [← c.hK]
  exact pe_bm PySem.F.plainAttrs_list PySem.F.slot_list_append PySem.F.type_list_append mt_append po (pa_cons pe pa_nil (star_each se)) (abase_of hc) few hl (star_each se) rfl
theorem mt_cntV : MtR X "list.count" (rCntV X.K) := by
  intro pins s σ H x xs v us Q I rx rxs h
  obtain ⟨p, ys, y, rfl, rfl, hs, fy, fys, q⟩ := h
  cases rx
  obtain ⟨u, rfl, ru⟩ := rxs.one
  obtain ⟨its, rv, ⟨⟨cls, dd, data, sl⟩, n, ho, hc, hdn, hd⟩, hlen⟩ := I.list hs
  simp only at hc hd
  subst hc hd
  refine call_meets PySem.F.slot_list_count ⟨_, ho, rfl⟩ PySem.F.entry_list_count (PySem.F.args_list_count_2 _ _)
    (SeqAt.list_countAt p its.toArray n dd sl u (eqU y)) ⟨ho, fun z hz => ?_, ?_⟩
  · exact mem_eqAt ru fy rv fys z (by simpa using hz)
  · have ec : its.toArray.toList.countP (eqU y) = ys.countP (fun z => eqV z y) := by
      have : its.toArray.toList = its := by simp
      rw [this]
      clear ho q hs hlen this hdn
      induction rv with
      | nil => rfl
      | cons r rv ih =>
        rw [List.all_cons, Bool.and_eq_true] at fys
        rw [List.countP_cons, List.countP_cons, ih fys.2, eqU_of r fys.1]
    refine ⟨.int (ys.countP (fun z => eqV z y) : Nat), H, I.tok _, ⟨s.toks, ?_⟩, q⟩
    show Value.int ((its.toArray.toList.countP (eqU y) : Nat) : Int) s.toks = Value.int ((ys.countP (fun z => eqV z y) : Nat) : Int) s.toks
    rw [ec]
theorem c_lms (c : Cok Y C k lv sc X EX) {f : Expr → Option E} (hf : PEc Y C EX X f) {o e : Expr} {o' e' : E} {m : Str} {t : Lmo} {apos pos : Pos} (he : f e = some e') (ho : f o = some o') (hl : (apos.endLine == pos.line) = true)
    (hc : isCall o = false) (hm : lmoC m = some t) : PE X (.Call (.Attribute o m apos) [e] [] pos) (rdE Y C EX (.lms t o' e')) := by
  obtain ⟨po, _⟩ := hf o o' ho
  obtain ⟨pe, se⟩ := hf e e' he
  have hs : ([e] : List Expr).all (fun e => !star e) = true := by rw [List.all_cons, se]; rfl
  have few := few_of (pos := pos) (env := X.env) hs (show 1 < 29 by decide)
  simp only [rdE]
  rw [← c.hK]
  unfold lmoC at hm
  split at hm
  · rename_i ex; subst ex; cases hm
    exact pe_bm PySem.F.plainAttrs_list PySem.F.slot_list_index PySem.F.type_list_index mt_index po (pa_cons pe pa_nil (star_each se)) (abase_of hc) few hl (star_each se) rfl
  split at hm
  · rename_i ex; subst ex; cases hm
    exact pe_bm PySem.F.plainAttrs_list PySem.F.slot_list_count PySem.F.type_list_count mt_cntV po (pa_cons pe pa_nil (star_each se)) (abase_of hc) few hl (star_each se) rfl
  cases hm
theorem c_txt (c : Cok Y C k lv sc X EX) {f : Expr → Option E} (hf : PEc Y C EX X f) {o e : Expr} {o' e' : E} {m : Str} {t : Txo} {apos pos : Pos} (he : f e = some e') (ho : f o = some o') (hl : (apos.endLine == pos.line) = true)
    (hc : isCall o = false) (hm : txoC m = some t) : PE X (.Call (.Attribute o m apos) [e] [] pos) (rdE Y C EX (.txt t o' e')) := by
  obtain ⟨po, _⟩ := hf o o' ho
  obtain ⟨pe, se⟩ := hf e e' he
  simp only [rdE]
  rw [← c.hK]
  unfold txoC at hm
  split at hm
  · rename_i ex; subst ex; cases hm
    exact pe_split po pe (star_each se) (abase_of hc) hl
  split at hm
  · rename_i ex; subst ex; cases hm
    exact pe_partition po pe (star_each se) (abase_of hc) hl
  split at hm
  · rename_i ex; subst ex; cases hm
    exact pe_join po pe (star_each se) (abase_of hc) hl
  cases hm
theorem c_dget (c : Cok Y C k lv sc X EX) {f : Expr → Option E} (hf : PEc Y C EX X f) {o e e2 : Expr} {o' a' b' : E} {apos pos : Pos} (he : f e = some a') (he2 : f e2 = some b') (ho : f o = some o') (hl : (apos.endLine == pos.line) = true)
    (hc : isCall o = false) : PE X (.Call (.Attribute o "get" apos) [e, e2] [] pos) (rdE Y C EX (.dget o' a' b')) := by
  obtain ⟨po, _⟩ := hf o o' ho
  obtain ⟨pe, se⟩ := hf e a' he
  obtain ⟨pe2, se2⟩ := hf e2 b' he2
  have hs : ([e, e2] : List Expr).all (fun e => !star e) = true := by rw [List.all_cons, List.all_cons, se, se2]; rfl
  have few := few_of (pos := pos) (env := X.env) hs (show 2 < 29 by decide)
  simp only [rdE]
  exact pe_dget2 (hu1_ok c) po pe pe2 ⟨abase_of hc, few, hl, by rw [star_each se, star_each se2]; rfl⟩
theorem c_pop (c : Cok Y C k lv sc X EX) {f : Expr → Option E} (hf : PEc Y C EX X f) {o : Expr} {o' : E} {apos pos : Pos} (ho : f o = some o') (hl : (apos.endLine == pos.line) = true)
    (hc : isCall o = false) : PE X (.Call (.Attribute o "pop" apos) [] [] pos) (rdE Y C EX (.pop o')) := by
  obtain ⟨po, _⟩ := hf o o' ho
  simp only [rdE]
  rw [← c.hK]
  exact pe_bm0 PySem.F.plainAttrs_list PySem.F.slot_list_pop PySem.F.type_list_pop mt_pop po (abase_of hc) hl
theorem ty_blt {x : Str} {t : Ty} (h : tyC x = some t) : x ∈ bltNames ∧ plainN x = true ∧ x ≠ ("__name__" : Str) ∧ bootBuiltins x = some (.type (tyN t)) := by
  unfold tyC at h
  split at h
  · rename_i e; subst e; cases h; exact ⟨by decide +kernel, by decide +kernel, by decide +kernel, by decide +kernel⟩
  split at h
  · rename_i e; subst e; cases h; exact ⟨by decide +kernel, by decide +kernel, by decide +kernel, by decide +kernel⟩
  split at h
  · rename_i e; subst e; cases h; exact ⟨by decide +kernel, by decide +kernel, by decide +kernel, by decide +kernel⟩
  split at h
  · rename_i e; subst e; cases h; exact ⟨by decide +kernel, by decide +kernel, by decide +kernel, by decide +kernel⟩
  split at h
  · rename_i e; subst e; cases h; exact ⟨by decide +kernel, by decide +kernel, by decide +kernel, by decide +kernel⟩
  cases h
theorem c_ty (c : Cok Y C k lv sc X EX) {x : Str} {t : Ty} {p : Pos} (h : tyC x = some t) (hg : Gl X x) : PE X (.Name x p) (tC (.ty (tyN t))) := by
  obtain ⟨h1, h2, h3, h4⟩ := ty_blt h
  exact pe_bltn hg (c.blt x h1) h4 rfl h3 (plain_of h2).1
theorem c_isi (c : Cok Y C k lv sc X EX) {f : Expr → Option E} (hf : PEc Y C EX X f) {es : List Expr} {m : E} {p pos : Pos} (hg : Gl X "isinstance") (h : isiC sc f es = some m) : PE X (.Call (.Name "isinstance" p) es [] pos) (rdE Y C EX m) := by
  have hm := c.blt "isinstance" (by decide +kernel)
  have hb : bootBuiltins "isinstance" = some (.builtin "isinstance") := by decide +kernel
  unfold isiC at h
  split at h
  · rename_i a t pt
    split at h
    · rename_i a' t' e1 e2 e3
      cases h
      obtain ⟨pa, sa⟩ := hf a a' e1
      simp only [rdE]
      rw [← c.hK]
      exact pe_callB call_isi hg hm hb (pa_cons pa (pa_cons (c_ty c e3 (glob_of c e2)) pa_nil) (star_each sa)) (by decide +kernel) (by decide +kernel) (star_each sa) rfl
    · cases h
  · rename_i a t pt u pu kk ppp
    split at h
    · rename_i a' t' u' e1 e2 e3 e4
      cases h
      rw [Bool.and_eq_true] at e2
      obtain ⟨pa, sa⟩ := hf a a' e1
      simp only [rdE]
      rw [← c.hK]
      exact pe_callB call_isiT hg hm hb (pa_cons pa (pa_cons (pe_tup (pa_cons (c_ty c e3 (glob_of c e2.1)) (pa_cons (c_ty c e4 (glob_of c e2.2)) pa_nil))) pa_nil) (star_each sa)) (by decide +kernel) (by decide +kernel) (star_each sa) rfl
    · cases h
  · cases h
/-! and, or -/
theorem fold_and {f : Expr → Option E} (hf : PEc Y C EX X f) {pos : Pos} : ∀ {vs : List Expr} {m : E}, foldB f .and vs = some m → PE X (.BoolOp .And vs pos) (rdE Y C EX m)
  | [], m, h => by simp [foldB] at h
  | [e], m, h => by
    simp only [foldB] at h
    exact pe_one (hf e m h).1
  | e :: e2 :: es, m, h => by
    simp only [foldB] at h
    split at h
    · rename_i a b h1 h2
      cases h
      simp only [rdE]
      exact pe_and (hf e a h1).1 (fold_and hf h2)
    · cases h
theorem fold_or {f : Expr → Option E} (hf : PEc Y C EX X f) {pos : Pos} : ∀ {vs : List Expr} {m : E}, foldB f .or vs = some m → PE X (.BoolOp .Or vs pos) (rdE Y C EX m)
  | [], m, h => by simp [foldB] at h
  | [e], m, h => by
    simp only [foldB] at h
    exact pe_one (hf e m h).1
  | e :: e2 :: es, m, h => by
    simp only [foldB] at h
    split at h
    · rename_i a b h1 h2
      cases h
      simp only [rdE]
      exact pe_or (hf e a h1).1 (fold_or hf h2)
    · cases h
abbrev PTc (Y : Tb) (C : Tc) (EX : XK) (X : Cx) (f : Expr → Option E) : Prop := ∀ e m, f e = some m → PT X e (rdT Y C EX m)
theorem tfold_and {f : Expr → Option E} (hf : PTc Y C EX X f) {pos : Pos} : ∀ {vs : List Expr} {m : E}, foldB f .and vs = some m → PW X (.BoolOp .And vs pos) (rdT Y C EX m)
  | [], m, h => by simp [foldB] at h
  | [e], m, h => by
    simp only [foldB] at h
    exact pw_and1 (hf e m h)
  | e :: e2 :: es, m, h => by
    simp only [foldB] at h
    split at h
    · rename_i a b h1 h2
      cases h
      simp only [rdT]
      exact pw_and (hf e a h1) (tfold_and hf h2)
    · cases h
theorem tfold_or {f : Expr → Option E} (hf : PTc Y C EX X f) {pos : Pos} : ∀ {vs : List Expr} {m : E}, foldB f .or vs = some m → PW X (.BoolOp .Or vs pos) (rdT Y C EX m)
  | [], m, h => by simp [foldB] at h
  | [e], m, h => by
    simp only [foldB] at h
    exact pw_or1 (hf e m h)
  | e :: e2 :: es, m, h => by
    simp only [foldB] at h
    split at h
    · rename_i a b h1 h2
      cases h
      simp only [rdT]
      exact pw_or (hf e a h1) (tfold_or hf h2)
    · cases h
theorem rdT_of {m : E} (h : isLogic m = false) : rdT Y C EX m = tB (rdE Y C EX m) := by
  cases m <;> first | (simp only [rdT, rdE]; done) | cases h
/-! dicts -/
theorem keys_ok {f : Expr → Option E} (hf : PEc Y C EX X f) {pos : Pos} : ∀ {ks : List (Option Expr)} {vs : List Expr} {a : List Str} {b : Es}, keysC ks = some a → mapE f vs = some b → ks.length = vs.length → PPs X pos ks vs (rdP Y C EX a b) ∧ ks.all (·.isSome) = true
  | [], [], a, b, h1, h2, _ => by
    simp only [keysC, mapE, Option.some.injEq] at h1 h2
    subst h1 h2
    exact ⟨by simp only [rdP]; exact pps_nil, rfl⟩
  | [], _ :: _, a, b, _, _, h => by simp at h
  | _ :: _, [], a, b, _, _, h => by simp at h
  | kx :: ks, v :: vs, a, b, h1, h2, h => by
    simp only [keysC] at h1
    split at h1
    · rename_i x xs e1 e2
      cases h1
      simp only [mapE] at h2
      split at h2
      · rename_i m ms e3 e4
        cases h2
        obtain ⟨p1, p2⟩ := keys_ok hf (pos := pos) e2 e4 (by simpa using h)
        unfold strK at e1
        split at e1
        · cases e1
          refine ⟨?_, by rw [List.all_cons, p2]; rfl⟩
          simp only [rdP, List.headD_cons, List.tail_cons]
          exact pps_cons pe_str (hf v m e3).1 p1
        · cases e1
      · cases h2
    · cases h1
/-! walked -/
theorem pi_seq {l : Expr} {tl : TE} {tg : Expr} (hl : PE X l tl) : L2.PI X tg l (iSeq X.K tl) := by
  refine ⟨fun pins s σ H R I h => ?_⟩
  refine thn (hl.run pins s σ H _ I h) fun v s1 ⟨x, H1, I1, r1, q1⟩ => ?_
  rcases q1 with (⟨a, e, ⟨xs, hq⟩, q⟩ | ⟨a, e, ⟨xs, hq⟩, q⟩) | ⟨z, e, q⟩
  · subst e
    cases r1
    obtain ⟨its, rv, p, hz⟩ := I1.list hq
    refine wpAny_pyIter_list p.isList ?_
    refine ⟨s1.heap.objs.size, [s1.heap.objs.size], _, _, H1, rfl, I1.kept (t' := s1.toks) fun b o e => Heap.get?_push_of_some _ e, turn_list a _, ⟨_, Heap.get?_push_size _ rfl, rfl, rfl⟩, fun b hb => ?_, q⟩
    have e : b = s1.heap.objs.size := by simpa using hb
    subst e
    exact I1.fpOk (Nat.le_refl _) (I1.hok.fresh (Nat.le_refl _))
  · subst e
    cases r1
    obtain ⟨its, rv, p, hz⟩ := I1.tuple hq
    refine wpAny_pyIter_tuple (show s1.heap.IsTuple a its.toArray from p) ?_
    refine ⟨s1.heap.objs.size, [s1.heap.objs.size], _, _, H1, rfl, I1.kept (t' := s1.toks) fun b o e => Heap.get?_push_of_some _ e, turn_tuple a _, ⟨_, Heap.get?_push_size _ rfl, rfl, rfl⟩, fun b hb => ?_, q⟩
    have e : b = s1.heap.objs.size := by simpa using hb
    subst e
    exact I1.fpOk (Nat.le_refl _) (I1.hok.fresh (Nat.le_refl _))
  · subst e
    obtain ⟨t, rfl⟩ := r1
    cases ha : z.cps.all (· < 128)
    · exact wpAny_pyIter_wide ha (pi_one (tk := s1.toks) I1 _ (turn_str _ z t "str_iterator" (.inr rfl)) ⟨_, Heap.get?_push_size _ rfl, rfl, rfl⟩ q)
    · exact wpAny_pyIter_ascii ha (pi_one (tk := s1.toks) I1 _ (turn_str _ z t "str_ascii_iterator" (.inl rfl)) ⟨_, Heap.get?_push_size _ rfl, rfl, rfl⟩ q)
theorem c_lr2 (c : Cok Y C k lv sc X EX) {f : Expr → Option E} (hf : PEc Y C EX X f) {x : Str} {es : List Expr} {a b : Expr} {a' b' : E} {p pos : Pos} (hg : Gl X x) (h : lrArgs sc x es = some (a, b)) (ha : f a = some a') (hb : f b = some b') :
    PE X (.Call (.Name x p) es [] pos) (rdE Y C EX (.lr2 a' b')) := by
  unfold lrArgs at h
  split at h
  · rename_i e
    split at h
    · rename_i hx
      subst hx
      split at h
      · rename_i a2 b2 e1
        cases h
        unfold rangeArgs at e1
        split at e1
        · rename_i x p2 args pos2
          split at e1
          · rename_i hx
            cases e1
            obtain ⟨rfl, hg2⟩ := hx
            obtain ⟨pa, sa⟩ := hf a a' ha
            obtain ⟨pb, sb⟩ := hf b b' hb
            simp only [rdE]
            refine pe_listRg c.calm hg (c.blt "list" (by decide +kernel)) (prg_2 (glob_of c hg2) (c.blt "range" (by decide +kernel)) pa pb (star_each sa) (star_each sb) ?_) (star_each rfl)
            rw [star_each sb]
            rfl
          · cases e1
        · cases e1
      · cases h
    · cases h
  · cases h
theorem it_ok (c : Cok Y C k lv sc X EX) {f : Expr → Option E} (hf : PEc Y C EX X f) {tg e : Expr} {m : It} (h : itC sc f e = some m) : L2.PI X tg e (rdI Y C EX m) ∧ isSet e = false := by
  unfold itC at h
  have hr := c.blt "range" (by decide +kernel)
  split at h
  · rename_i a e1
    unfold rangeArgs at e1
    split at e1
    · rename_i x p args pos
      split at e1
      · rename_i hx
        cases e1
        obtain ⟨rfl, hg⟩ := hx
        cases e2 : f a with
        | none => simp [e2] at h
        | some m' =>
          simp only [e2, Option.map_some, Option.some.injEq] at h
          subst h
          obtain ⟨pa, sa⟩ := hf a m' e2
          simp only [rdI]
          exact ⟨pi_range1 (glob_of c hg) hr (pa_cons pa pa_nil (star_each sa)) (star_each sa), rfl⟩
      · cases e1
    · cases e1
  · rename_i a b e1
    unfold rangeArgs at e1
    split at e1
    · rename_i x p args pos
      split at e1
      · rename_i hx
        cases e1
        obtain ⟨rfl, hg⟩ := hx
        split at h
        · rename_i a' b' e2 e3
          cases h
          obtain ⟨pa, sa⟩ := hf a a' e2
          obtain ⟨pb, sb⟩ := hf b b' e3
          simp only [rdI]
          refine ⟨pi_range2 (glob_of c hg) hr (pa_cons pa (pa_cons pb pa_nil (star_each sb)) (star_each sa)) ?_ (star_each sb), rfl⟩
          rw [star_each sa, star_each sb]
          rfl
        · cases h
      · cases e1
    · cases e1
  · rename_i a b d e1
    unfold rangeArgs at e1
    split at e1
    · rename_i x p args pos
      split at e1
      · rename_i hx
        cases e1
        obtain ⟨rfl, hg⟩ := hx
        split at h
        · rename_i a' b' d' e2 e3 e4
          cases h
          obtain ⟨pa, sa⟩ := hf a a' e2
          obtain ⟨pb, sb⟩ := hf b b' e3
          obtain ⟨pd, sd⟩ := hf d d' e4
          simp only [rdI]
          refine ⟨pi_range3 (glob_of c hg) hr (pa_cons pa (pa_cons pb (pa_cons pd pa_nil (star_each sd)) ?_) ?_) (star_each sa) ?_, rfl⟩
          · exact star_each sb
          · exact star_each sa
          · exact stars_any (by rw [List.all_cons, List.all_cons, sb, sd]; rfl)
        · cases h
      · cases e1
    · cases e1
  · cases h
  · split at h
    · cases h
    · rename_i hs
      cases e2 : f e with
      | none => simp [e2] at h
      | some m' =>
        simp only [e2, Option.map_some, Option.some.injEq] at h
        subst h
        obtain ⟨pa, sa⟩ := hf e m' e2
        simp only [rdI]
        rw [← c.hK]
        exact ⟨pi_seq pa, by simpa using hs⟩
theorem fold_set {e : Expr} {env : PySem.Env} (h : isSet e = false) : ∀ x, foldedSetIterable e env x = pure x := by
  intro x
  cases e <;> first | rfl | cases h
theorem slc_ok' : SlR X (slcR X.K) := sl_tupA.or (sl_list.or C8.sl_txt)
theorem ixd_ok (hu : X.A.units + 1 < cLine) : IxR X rIxD := by
  intro value slice pins s σ H x y v u Q I rx ry h hs
  obtain ⟨a, z, rfl, g, q⟩ := h
  cases rx
  exact tail_any (dict_typeIs I g) PySem.F.slot_dict_getitem.lookup (d_getItem hu I g ry fun w' s' I' r' => ⟨z, H, I', r', q⟩) hs
theorem sub_ok' (hu : X.A.units + 1 < cLine) : IxR X (subR X.K) := ix_seq.or (ixd_ok hu)
theorem plain_ix {b : Expr} (h : isSlice b = false) : PlainIx b := by
  intro o i
  cases b <;> first | rfl | cases h
theorem val_true {e : Expr} {env : PySem.Env} (h : truthy1 e = true) : ∀ whole, isTrue e env whole = (do let v ← whole; standAt e.pos; holding [v] (truthy v)) := by
  intro whole
  cases e <;> first | rfl | cases h
theorem Cok.blk (c : Cok Y C k lv sc X EX) (s : Shared) (H : Hp) (scope : Scope) (cl : List (Str × Addr)) (Ca : Addr) (fp : List Addr) : Cok Y C k.inB lv (relS scope sc) (X.blk s H scope (compEnvC scope cl Ca X.env) fp) E0 :=
  ⟨c.hK, c.hN, c.nd, by rw [← c.sc]; rfl, c.calm, c.room, passL, c.fns, c.cls, c.mts, c.cons, c.blt, (fun z => by cases z), fun x id z => by cases z⟩
theorem lt_of {m : Str} {args : List Expr} {apos pos : Pos} {o : Expr} (h : ((apos.endLine == pos.line) && decide (args.length < 29) && !isCall o) = true) : (apos.endLine == pos.line) = true ∧ args.length < 29 ∧ isCall o = false := by
  rw [Bool.and_eq_true, Bool.and_eq_true, Bool.not_eq_true'] at h
  exact ⟨h.1.1, of_decide_eq_true h.1.2, h.2⟩
theorem cE_star : ∀ {n : Nat} {e : Expr} {m : E}, cE n k sc e = some m → star e = false
  | 0, e, m, h => by simp [cE] at h
  | n + 1, e, m, h => by
    cases e <;> first | rfl | skip
    simp [cE] at h
theorem c_all (Y : Tb) (C : Tc) (lv : Nat) : ∀ (n : Nat) (k : Kc) (sc : Scope), (∀ (X : Cx) (EX : XK), Cok Y C k lv sc X EX → ∀ e m, cE n k sc e = some m → PE X e (rdE Y C EX m)) ∧ (∀ (X : Cx) (EX : XK), Cok Y C k lv sc X EX → ∀ e m, cT n k sc e = some m → PT X e (rdT Y C EX m))
  | 0, k, sc => ⟨fun X EX c e m h => by simp [cE] at h, fun X EX c e m h => by simp [cT] at h⟩
  | n + 1, k, sc => by
    have ihE := fun k sc => (c_all Y C lv n k sc).1
    have ihT := fun k sc => (c_all Y C lv n k sc).2
    refine ⟨fun X EX c e m h => ?_, fun X EX c e m h => ?_⟩
    · have hf : PEc Y C EX X (cE n k sc) := fun e m h => ⟨ihE k sc X EX c e m h, cE_star h⟩
      simp only [cE] at h
      split at h
      · -- Name
        rename_i x p
        split at h
        · rename_i hv
          rw [Bool.and_eq_true] at hv
          cases e1 : slotF x k.N 0 with
          | none => simp [e1] at h
          | some i =>
            simp only [e1, Option.map_some, Option.some.injEq] at h
            subst h
            simp only [rdE]
            refine pe_var (by rw [c.hN]; exact slot_at e1) ?_ (plain_of hv.2).1 (plain_of hv.2).2
            rw [c.sc]
            exact vis_of hv.1
        · split at h
          · rename_i hv
            rw [Bool.and_eq_true] at hv
            cases e1 : k.cons.lookup x with
            | none => simp [e1] at h
            | some i =>
              simp only [e1, Option.map_some, Option.some.injEq] at h
              subst h
              obtain ⟨u, hm, r⟩ := c.cons x i e1
              simp only [rdE]
              exact pe_glob (glob_of c hv.1) hm r (plain_of hv.2).1
          · cases h
      · -- Constant
        rename_i cc kk p
        unfold constC at h
        split at h <;> first | (cases h; simp only [rdE, flat, Option.getD_some]) | cases h
        · exact pe_int
        · exact pe_bl
        · exact pe_non
        · exact pe_str
      · -- BinOp
        split at h
        · rename_i o a' b' e1 e2 e3
          cases h
          simp only [rdE]
          exact pe_op (bop_ok c e1) (hf _ _ e2).1 (hf _ _ e3).1
        · cases h
      · -- neg
        rename_i a p
        cases e1 : cE n k sc a with
        | none => simp [e1] at h
        | some a' =>
          simp only [e1, Option.map_some, Option.some.injEq] at h
          subst h
          simp only [rdE]
          exact pe_un un_neg (hf _ _ e1).1
      · -- not
        rename_i a p
        cases e1 : cE n k sc a with
        | none => simp [e1] at h
        | some a' =>
          simp only [e1, Option.map_some, Option.some.injEq] at h
          subst h
          simp only [rdE]
          exact pe_not (hf _ _ e1).1
      · exact fold_and hf h
      · exact fold_or hf h
      · -- IfExp
        split at h
        · rename_i c' a' b' e1 e2 e3
          cases h
          simp only [rdE]
          exact pe_ifExp (ihT k sc X EX c _ _ e1) (hf _ _ e2).1 (hf _ _ e3).1
        · cases h
      · -- Compare
        split at h
        · rename_i a' b' e1 e2 e3
          cases h
          simp only [rdE]
          exact pe_cmpR (cop_ok c _) (hf _ _ e1).1 (hf _ _ e2).1 (mark_of _ e3)
        · cases h
      · split at h
        · rename_i a' b' c' e1 e2 e3 e4
          cases h
          simp only [rdE]
          exact pe_chain (cop_ok c _) (cop_ok c _) (hf _ _ e1).1 (hf _ _ e2).1 (hf _ _ e3).1 (by
            show behindInMarks _ _ = false
            exact mark_of _ e4)
        · cases h
      · -- Tuple
        rename_i es kk p
        cases e1 : mapE (cE n k sc) es with
        | none => simp [e1] at h
        | some ms =>
          simp only [e1, Option.map_some, Option.some.injEq] at h
          subst h
          simp only [rdE]
          exact pe_tup (mapE_ok hf e1).1
      · rename_i es p
        cases e1 : mapE (cE n k sc) es with
        | none => simp [e1] at h
        | some ms =>
          simp only [e1, Option.map_some, Option.some.injEq] at h
          subst h
          simp only [rdE]
          exact pe_lst (mapE_ok hf e1).1
      · -- Dict
        split at h
        · rename_i a b e1 e2 e3
          cases h
          rw [Bool.and_eq_true, Bool.and_eq_true, decide_eq_true_eq, decide_eq_true_eq] at e3
          obtain ⟨p1, p2⟩ := keys_ok hf e1 e2 e3.1.1
          simp only [rdE]
          exact pe_disp p1 p2 e3.1.1 (fun z => by rw [z] at e3; exact absurd e3.1.2 (by decide)) e3.2
        · cases h
      · -- slices
        split at h
        · rename_i a' b' e1 e2
          cases h
          simp only [rdE]
          rw [← c.hK]
          exact pe_slice slc_ok' (hf _ _ e1).1 (po_some (hf _ _ e2).1) po_none
        · cases h
      · split at h
        · rename_i a' b' e1 e2
          cases h
          simp only [rdE]
          rw [← c.hK]
          exact pe_slice slc_ok' (hf _ _ e1).1 po_none (po_some (hf _ _ e2).1)
        · cases h
      · rename_i a p1 p2 p3 p4 p5
        cases e1 : cE n k sc a with
        | none => simp [e1] at h
        | some a' =>
          simp only [e1, Option.map_some, Option.some.injEq] at h
          subst h
          simp only [rdE]
          rw [← c.hK]
          exact pe_revL (hf _ _ e1).1
      · -- Subscript
        split at h
        · rename_i a' b' e1 e2 e3
          cases h
          simp only [rdE]
          rw [← c.hK]
          exact pe_ix (sub_ok' (hu1_ok c)) (hf _ _ e1).1 (hf _ _ e2).1 (plain_ix e3)
        · cases h
      · -- Attribute
        split at h
        · rename_i a' e1 e2
          cases h
          simp only [rdE]
          rw [← c.hK]
          exact pe_fld (hf _ _ e1).1 (abase_of e2)
        · cases h
      · -- Call
        split at h
        · rename_i hg
          rw [Bool.and_eq_true] at hg
          split at h
          · rename_i e0
            subst e0
            exact c_isi c hf (glob_of c hg.1) h
          · split at h
            · rename_i a b e0
              split at h
              · rename_i a' b' e1 e2
                cases h
                exact c_lr2 c hf (glob_of c hg.1) e0 e1 e2
              · cases h
            · split at h
              · rename_i idn a e1 e0
                cases e2 : cE n k sc a with
                | none => simp [e2] at h
                | some a' =>
                  simp only [e2, Option.map_some, Option.some.injEq] at h
                  subst h
                  obtain ⟨pa, sa⟩ := hf a a' e2
                  simp only [rdE]
                  exact c.wrg _ _ e1 a _ _ _ (glob_of c hg.1) (plain_of hg.2).1 pa sa
              · cases h
              · split at h
                · rename_i es e1
                  exact c_call c hf e1 (glob_of c hg.1) hg.2 h
                · cases h
        · cases h
      · -- method
        split at h
        · rename_i o' e1 e2
          obtain ⟨l1, l2, l3⟩ := lt_of (m := Str.empty) e2
          split at h
          · rename_i es id cn e3 e4
            cases h
            exact c_meth c hf e3 e1 l1 l2 l3 e4
          · rename_i e' e3 e4
            split at h
            · rename_i e5
              cases h
              subst e5
              obtain ⟨x, xs, rfl, q1, q2⟩ := mapE_cons e3
              rw [mapE_nil q2]
              exact c_app c hf q1 e1 l1 l3
            · obtain ⟨x, xs, rfl, q1, q2⟩ := mapE_cons e3
              rw [mapE_nil q2]
              split at h
              · rename_i t e6
                cases h
                exact c_txt c hf q1 e1 l1 l3 e6
              · rename_i t e7 e6
                cases h
                exact c_lms c hf q1 e1 l1 l3 e6
              · cases h
          · rename_i e3 e4
            split at h
            · rename_i e5
              cases h
              subst e5
              rw [mapE_nil e3]
              exact c_pop c hf e1 l1 l3
            · cases h
          · rename_i e' e2' e3 e4
            split at h
            · rename_i e5
              cases h
              subst e5
              obtain ⟨x, xs, rfl, q1, q2⟩ := mapE_cons e3
              obtain ⟨x2, xs2, rfl, q3, q4⟩ := mapE_cons q2
              rw [mapE_nil q4]
              exact c_dget c hf q1 q3 e1 l1 l3
            · cases h
          · cases h
        · cases h
      · -- lambda
        rename_i params body scope pos
        split at h
        · rename_i hl
          rw [Bool.and_eq_true] at hl
          cases e1 : cE n k.inB scope body with
          | none => simp [e1] at h
          | some e' =>
            simp only [e1, Option.map_some, Option.some.injEq] at h
            subst h
            simp only [rdE]
            exact c.lam hl.1 params body scope pos e' n (by rw [c.sc]; exact hl.2) e1
        · cases h
      · -- comprehension
        rename_i elt x px iter scope pos
        split at h
        · rename_i i it e' e1 e2 e3
          split at h
          · rename_i hl
            cases h
            unfold lcScope at hl
            rw [Bool.and_eq_true] at hl
            obtain ⟨pi, ps⟩ := it_ok c hf (tg := .Name x px) e2
            simp only [rdE]
            refine pe_lc (own := [(x, i)]) c.calm (by rw [c.hN]; exact c.nd) pi (by rw [c.hN, c.sc]; exact blkOk_by hl.1) (fun s H Ca cl fp => ?_) (fun _ _ _ _ _ => pts_nil) (fun s H Ca cl fp => ihE _ _ _ _ (c.blk s H _ cl Ca fp) _ _ e3) (fold_set ps)
            have lo : (relS scope X.env.scope).names.lookup x = some NameKind.local := by
              have := hl.2
              rw [c.sc]
              split at this
              · assumption
              · cases this
            exact pg_name (by show X.N.Nodup; rw [c.hN]; exact c.nd) (by show X.N[i]? = _; rw [c.hN]; exact slot_at e1) (.inl lo) (.inr lo)
          · cases h
        · cases h
      · rename_i elt x px iter cd scope pos
        split at h
        · rename_i i it e' c' e1 e2 e3 e4
          split at h
          · rename_i hl
            cases h
            unfold lcScope at hl
            rw [Bool.and_eq_true] at hl
            obtain ⟨pi, ps⟩ := it_ok c hf (tg := .Name x px) e2
            simp only [rdE]
            refine pe_lc (own := [(x, i)]) c.calm (by rw [c.hN]; exact c.nd) pi (by rw [c.hN, c.sc]; exact blkOk_by hl.1) (fun s H Ca cl fp => ?_) (fun s H Ca cl fp => pts_one (ihT _ _ _ _ (c.blk s H _ cl Ca fp) _ _ e4)) (fun s H Ca cl fp => ihE _ _ _ _ (c.blk s H _ cl Ca fp) _ _ e3) (fold_set ps)
            have lo : (relS scope X.env.scope).names.lookup x = some NameKind.local := by
              have := hl.2
              rw [c.sc]
              split at this
              · assumption
              · cases this
            exact pg_name (by show X.N.Nodup; rw [c.hN]; exact c.nd) (by show X.N[i]? = _; rw [c.hN]; exact slot_at e1) (.inl lo) (.inr lo)
          · cases h
        · cases h
      · cases h
    · have hf : PEc Y C EX X (cE n k sc) := fun e m h => ⟨ihE k sc X EX c e m h, cE_star h⟩
      have ht : PTc Y C EX X (cT n k sc) := fun e m h => ihT k sc X EX c e m h
      simp only [cT] at h
      split at h
      · rename_i a p
        cases e1 : cT n k sc a with
        | none => simp [e1] at h
        | some a' =>
          simp only [e1, Option.map_some, Option.some.injEq] at h
          subst h
          simp only [rdT]
          exact pt_not (ht _ _ e1)
      · exact (tfold_and ht h).pt
      · exact (tfold_or ht h).pt
      · split at h
        · rename_i a' b' e1 e2 e3
          cases h
          simp only [rdT]
          exact pt_cmpR (cop_ok c _) (hf _ _ e1).1 (hf _ _ e2).1 (mark_of _ e3)
        · cases h
      · split at h
        · rename_i a' b' c' e1 e2 e3 e4
          cases h
          simp only [rdT]
          exact pt_chain (cop_ok c _) (cop_ok c _) (hf _ _ e1).1 (hf _ _ e2).1 (hf _ _ e3).1 (by
            show behindInMarks _ _ = false
            exact mark_of _ e4)
        · cases h
      · split at h
        · rename_i htr
          split at h
          · rename_i m' e1
            split at h
            · cases h
            · rename_i hl
              cases h
              rw [rdT_of (by simpa using hl)]
              exact pt_val (hf _ _ e1).1 (val_true htr)
          · cases h
        · cases h
end
end Dz

set_option Elab.async false
set_option linter.all false
set_option maxRecDepth 100000
set_option maxHeartbeats 4000000
namespace Dz
open PySem PySem.Spec PyProof.Rows L2

/-! ### statements of the text -/
def mapS (f : Stmt → Option St) : List Stmt → Option Ss
  | [] => some .nil
  | s :: ss => match f s, mapS f ss with | some a, some b => some (.cons a b) | _, _ => none
def mapG (f : Expr → Option Tg) : List Expr → Option Tgs
  | [] => some .nil
  | e :: es => match f e, mapG f es with | some a, some b => some (.cons a b) | _, _ => none
def locB (sc : Scope) (x : Str) : Bool := match sc.names.lookup x with
  | some .local => true | some .cell => true | _ => false
def isLoc (sc : Scope) (x : Str) : Bool := match sc.names.lookup x with
  | some .local => true | _ => false
/-- which names a pair's stores go to from the right; none: refused -/
def swC (sc : Scope) (ts vs : List Expr) : Option (Option (List Str)) :=
  if !(ts.length == 2 || ts.length == 3) || vs.length != ts.length then some none
  else if vs.any fun | .Starred .. => true | _ => false then some none
  else
    let line := (ts.head?.map (·.pos.line)).getD 0
    let names := ts.filterMap fun
      | .Name id pos => if sc.names.lookup id == some .local && pos.line == line then some id else none
      | _ => none
    if names.length != ts.length || names.eraseDups.length != names.length then some none
    else if vs.all (foldedForSure 8) then some none
    else if vs.all (constantsAlone 8) then none
    else some (some names)
/-- a comprehension stored under a name of its line -/
def swB (sc : Scope) (x : Str) (px : Pos) : Expr → Bool
  | .ListComp _ _ scope pos => isLoc sc x && (px.line == pos.line) && !(scope.names.any fun (n, kk) => n == x && (kk == .local || kk == .cell))
  | _ => false
def isTuple : Expr → Bool
  | .Tuple _ _ _ => true | .List _ _ => true | _ => false
def cG : Nat → Kc → Scope → Expr → Option Tg
  | 0, _, _, _ => none
  | n + 1, k, sc, e => match e with
    | .Name x _ => if locB sc x then (slotF x k.N 0).map .nm else none
    | .Tuple ts _ _ => (mapG (cG n k sc) ts).map .tup
    | .Subscript o i _ => (match cE 60 k sc o, cE 60 k sc i, isSlice i with | some o', some i', false => some (.sub o' i') | _, _, _ => none)
    | .Attribute o f _ => (match cE 60 k sc o with | some o' => some (.fld o' f) | none => none)
    | _ => none
/-- a name whose display is a cell -/
def newC (k : Kc) (sc : Scope) (i : Nat) : Expr → Option St
  | .List es _ => (mapE (cE 60 k sc) es).map (.newL i)
  | .Dict ks vs _ => (match keysC ks, mapE (cE 60 k sc) vs, decide (ks.length = vs.length) && !ks.isEmpty && decide (ks.length ≤ 15) with | some a, some b, true => some (.newD i a b) | _, _, _ => none)
  | _ => none
def asgC (k : Kc) (sc : Scope) (t e : Expr) : Option St := match t, e with
  | .Name x px, e => (match locB sc x, slotF x k.N 0 with
    | true, some i => if k.muts.contains i && !isComp e then newC k sc i e else (match isComp e, swB sc x px e with
      | true, true => (match e with
        | .ListComp _ [⟨.Name _ _, _, _, _⟩] _ _ => (cE 60 k sc e).map (.asg (.nm i))
        | _ => none)
      | _, _ => (cE 60 k sc e).map (.asg (.nm i)))
    | _, _ => none)
  | .Tuple ts _ _, .Tuple vs _ _ => (match swC sc ts vs with
    | some none => (match cG 9 k sc t, cE 60 k sc e with | some t', some e' => some (.asg t' e') | _, _ => none)
    | some (some [x, y]) => (match ts, vs with
      | [.Name x' _, .Name y' _], [a, b] => (match cE 60 k sc a, cE 60 k sc b, slotF x k.N 0, slotF y k.N 0 with
        | some a', some b', some i, some j => if x' = x ∧ y' = y ∧ isLoc sc x = true ∧ isLoc sc y = true ∧ x ≠ y then some (.par i j a' b') else none
        | _, _, _, _ => none)
      | _, _ => none)
    | some (some [x, y, z]) => (match ts, vs with
      | [.Name x' _, .Name y' _, .Name z' _], [a, b, c] => (match cE 60 k sc a, cE 60 k sc b, cE 60 k sc c, slotF x k.N 0, slotF y k.N 0, slotF z k.N 0 with
        | some a', some b', some c', some i, some j, some l => if x' = x ∧ y' = y ∧ z' = z ∧ isLoc sc x = true ∧ isLoc sc y = true ∧ isLoc sc z = true ∧ x ≠ y ∧ x ≠ z ∧ y ≠ z then some (.par3 i j l a' b' c') else none
        | _, _, _, _, _, _ => none)
      | _, _ => none)
    | _ => none)
  | t, e => if isComp e || isTuple t && isTuple e then none else (match cG 9 k sc t, cE 60 k sc e with | some t', some e' => some (.asg t' e') | _, _ => none)
def cS : Nat → Kc → Scope → Stmt → Option St
  | 0, _, _, _ => none
  | n + 1, k, sc, s => match s with
    | .Return (some e) _ => (cE 60 k sc e).map .ret
    | .Return none _ => some .retN
    | .Assign [t] e _ => asgC k sc t e
    | .AugAssign (.Name x _) .Add e _ => (match locB sc x, slotF x k.N 0, cE 60 k sc e with | true, some i, some e' => some (.aug i e') | _, _, _ => none)
    | .If c a b _ => (match cT 60 k sc c, mapS (cS n k sc) a, mapS (cS n k sc) b with | some c', some a', some b' => some (.ite c' a' b') | _, _, _ => none)
    | .While c b [] _ => (match cT 60 k sc c, mapS (cS n k sc) b with | some c', some b' => some (.whl c' b') | _, _ => none)
    | .For t it b [] _ => (match cG 9 k sc t, itC sc (cE 60 k sc) it, mapS (cS n k sc) b with | some t', some it', some b' => some (.for_ t' it' b') | _, _, _ => none)
    | .Expr e _ => (match cE 60 k sc e, isComp e with | some e', false => some (.exp e') | _, _ => none)
    | .Raise (some (.Call (.Name x _) [] [] _)) none _ => (match globB sc x && plainN x, k.exs.lookup x with | true, some c => some (.raise c) | _, _ => none)
    | .Pass _ => some .pass
    | .Break _ => some .brk
    | .Continue _ => some .cont
    | _ => none
def cSs (k : Kc) (sc : Scope) (ss : List Stmt) : Option Ss := mapS (cS 20 k sc) ss

/-! ### it is right -/
structure ExcOk (X : Cx) (C : Addr) (x : Str) : Prop where
  gC : X.mg x = some (.ref C)
  ex : PySem.W.excIn X.K C He.veBase "ValueError.__new__" = true
  kp : PySem.W.keepIn X.K (.ref C) = true
  sb : PySem.W.subIn X.K (.ref C) (.type "BaseException") = some true
  ty : PySem.W.typeIn X.K (.ref C) = some (.type "type")
structure Sok (Y : Tb) (C : Tc) (k : Kc) (lv : Nat) (sc : Scope) (X : Cx) (EX : XK) : Prop where
  c : Cok Y C k lv sc X EX
  kind : sc.kind = .function
  fnT : ∀ x, X.fn x = true
  own : PassesOwn (model X.prog X.w) X.A X.env X.xe
  tk : Takes X (fun cls d _ H => EX cls d H)
  exs : ∀ x n, k.exs.lookup x = some n → ExcOk X (Y.ec n) x
section
variable {Y : Tb} {C : Tc} {k : Kc} {lv : Nat} {sc : Scope} {X : Cx} {EX : XK}
theorem loc_of {x : Str} (h : locB sc x = true) : Loc sc x := by
  unfold locB at h
  split at h
  · exact .inl (by assumption)
  · exact .inr (by assumption)
  · cases h
theorem isLoc_of {x : Str} (h : isLoc sc x = true) : sc.names.lookup x = some .local := by
  unfold isLoc at h
  split at h
  · assumption
  · cases h
theorem ce_ok (c : Cok Y C k lv sc X EX) {e : Expr} {m : E} {n : Nat} (h : cE n k sc e = some m) : PE X e (rdE Y C EX m) := (c_all Y C lv n k sc).1 X EX c e m h
theorem ct_ok (c : Cok Y C k lv sc X EX) {e : Expr} {m : E} {n : Nat} (h : cT n k sc e = some m) : PT X e (rdT Y C EX m) := (c_all Y C lv n k sc).2 X EX c e m h
theorem pec_ok (c : Cok Y C k lv sc X EX) (n : Nat) : PEc Y C EX X (cE n k sc) := fun e m h => ⟨ce_ok c h, cE_star h⟩
theorem pg_fld {o : Expr} {f : Str} {p : Pos} {to : TE} (ho : PE X o to) : PG X (.Attribute o f p) (gFld X.K to f) := by
  refine ⟨fun pins s σ H v u Q I r h => ?_⟩
  show wpAny _ _ (do
    let ov ← holding [u] (eval o X.env)
    standAt p.atName
    holding [u, ov] (setAttr ov f u)
    release [u, ov] []) _ _ _
  refine wpAny_bind (wpAny_holding (thn (ho.run pins s σ H _ I h) fun ov s1 ⟨x, H1, I1, r1, a, Ca, dx, fs, ex, ea, c, n, l, q1⟩ => ?_))
  subst ex
  obtain rfl : ov = Value.ref a := r1
  refine wpAny_bind (wpAny_standAt (wpAny_bind (wpAny_holding (setattr_ok I1 ea c n l r fun s3 I3 => ?_))))
  exact wpAny_release ⟨σ, _, I3, q1⟩
theorem cG_star : ∀ {n : Nat} {e : Expr} {m : Tg}, cG n k sc e = some m → star e = false
  | 0, e, m, h => by simp [cG] at h
  | n + 1, e, m, h => by
    cases e <;> first | rfl | skip
    simp [cG] at h
theorem each_star {e : Expr} {es : List Expr} {env : PySem.Env} (h : star e = false) : assignEach (e :: es) env = (false, assign e env) :: assignEach es env := by
  cases e <;> first | rfl | cases h
theorem each_len {env : PySem.Env} : ∀ {es : List Expr}, es.all (fun e => !star e) = true → (assignEach es env).length = es.length ∧ (assignEach es env).findIdx? (·.1) = none
  | [], _ => ⟨rfl, rfl⟩
  | e :: es, h => by
    rw [List.all_cons, Bool.and_eq_true, Bool.not_eq_true'] at h
    obtain ⟨h1, h2⟩ := each_len (env := env) h.2
    rw [each_star h.1]
    refine ⟨by rw [List.length_cons, List.length_cons, h1], ?_⟩
    rw [List.findIdx?_cons]
    simp [h2]
theorem mapG_ok {f : Expr → Option Tg} (hf : ∀ e m, f e = some m → PG X e (rdG Y C EX m) ∧ star e = false) : ∀ {es : List Expr} {ms : Tgs}, mapG f es = some ms → PGs X es (rdGs Y C EX ms) ∧ es.all (fun e => !star e) = true ∧ es.length = lenG ms
  | [], ms, h => by
    simp only [mapG, Option.some.injEq] at h
    subst h
    exact ⟨by simp only [rdGs]; exact pgs_nil, rfl, rfl⟩
  | e :: es, ms, h => by
    simp only [mapG] at h
    split at h
    · rename_i a b e1 e2
      cases h
      obtain ⟨p1, s1⟩ := hf e a e1
      obtain ⟨p2, s2, l2⟩ := mapG_ok hf e2
      refine ⟨?_, by rw [List.all_cons, s1, s2]; rfl, by simp only [List.length_cons, lenG, l2]⟩
      simp only [rdGs]
      exact pgs_cons p1 p2 (by rw [each_star s1]; rfl)
    · cases h
theorem set_any (hu : X.A.units + 1 < cLine) : PSet X rSetAny := by
  intro pins s σ H o i v ov iv u Q I ro ri rv h
  rcases h with h | h
  · exact set_list pins s σ H o i v ov iv u Q I ro ri rv h
  · exact set_dict hu pins s σ H o i v ov iv u Q I ro ri rv h
theorem cg_ok (c : Sok Y C k lv sc X EX) : ∀ (n : Nat) (e : Expr) (m : Tg), cG n k sc e = some m → PG X e (rdG Y C EX m) ∧ star e = false
  | 0, e, m, h => by simp [cG] at h
  | n + 1, e, m, h => by
    refine ⟨?_, cG_star h⟩
    simp only [cG] at h
    split at h
    · rename_i x p
      split at h
      · rename_i hl
        cases e1 : slotF x k.N 0 with
        | none => simp [e1] at h
        | some i =>
          simp only [e1, Option.map_some, Option.some.injEq] at h
          subst h
          simp only [rdG]
          exact pg_name (by rw [c.c.hN]; exact c.c.nd) (by rw [c.c.hN]; exact slot_at e1) (by rw [c.c.sc]; exact loc_of hl) (.inl (c.fnT x))
      · cases h
    · rename_i ts kk p
      cases e1 : mapG (cG n k sc) ts with
      | none => simp [e1] at h
      | some ms =>
        simp only [e1, Option.map_some, Option.some.injEq] at h
        subst h
        obtain ⟨p1, p2, p3⟩ := mapG_ok (cg_ok c n) e1
        obtain ⟨q1, q2⟩ := each_len (env := X.env) p2
        simp only [rdG]
        rw [← c.c.hK]
        exact pg_tup c.c.calm p1 (by rw [q1, p3]) q2
    · rename_i o i p
      split at h
      · rename_i o' i' e1 e2 e3
        cases h
        simp only [rdG]
        exact pg_sub (ce_ok c.c e1) (ce_ok c.c e2) (set_any (hu1_ok c.c)) (fun v => by cases i <;> first | rfl | cases e3)
      · cases h
    · rename_i o f p
      split at h
      · rename_i o' e1
        cases h
        simp only [rdG]
        rw [← c.c.hK]
        exact pg_fld (ce_ok c.c e1)
      · cases h
    · cases h
theorem mapS_ok {f : Stmt → Option St} (hf : ∀ s m, f s = some m → PS X s (rdS Y C EX m)) : ∀ {ss : List Stmt} {ms : Ss}, mapS f ss = some ms → PSs X ss (rdSs Y C EX ms)
  | [], ms, h => by
    simp only [mapS, Option.some.injEq] at h
    subst h
    simp only [rdSs]
    exact pss_nil
  | e :: es, ms, h => by
    simp only [mapS] at h
    split at h
    · rename_i a b e1 e2
      cases h
      simp only [rdSs]
      exact pss_cons (hf e a e1) (mapS_ok hf e2)
    · cases h
theorem noswap {e : Expr} {t : Option Expr} {l : Nat} {env : PySem.Env} (h : isComp e = false) : swapsWith e t l env = pure false := by
  cases e <;> first | rfl | cases h
theorem block_of (c : Sok Y C k lv sc X EX) : X.env.blockKind = .function := by
  unfold Env.blockKind
  rw [c.c.sc, c.kind]
  rfl
theorem swC_ok (c : Sok Y C k lv sc X EX) {ts vs : List Expr} {r : Option (List Str)} {k1 k2 : Nat} {p1 p2 : Pos} (h : swC sc ts vs = some r) : swappedStores [.Tuple ts k1 p1] (.Tuple vs k2 p2) X.env = pure r := by
  have hb := block_of c
  have hk : ∀ x, X.env.kindOf x = sc.names.lookup x := fun x => by rw [← c.c.sc]; rfl
  unfold swC at h
  unfold swappedStores
  simp only [hb, hk, bne_self_eq_false, Bool.or_false]
  split at h
  · rename_i h1
    refine (if_pos h1).trans ?_
    cases h
    rfl
  · rename_i h1
    refine (if_neg h1).trans ?_
    split at h
    · rename_i h2
      refine (if_pos h2).trans ?_
      cases h
      rfl
    · rename_i h2
      refine (if_neg h2).trans ?_
      simp only at h
      split at h
      · rename_i h3
        refine (if_pos h3).trans ?_
        cases h
        rfl
      · rename_i h3
        refine (if_neg h3).trans ?_
        split at h
        · rename_i h4
          refine (if_pos h4).trans ?_
          cases h
          rfl
        · rename_i h4
          refine (if_neg h4).trans ?_
          split at h
          · cases h
          · rename_i h5
            refine (if_neg h5).trans ?_
            cases h
            rfl
end
end Dz

set_option Elab.async false
set_option linter.all false
set_option maxRecDepth 100000
set_option maxHeartbeats 4000000
namespace Dz
open PySem PySem.Spec PyProof.Rows L2

section
variable {Y : Tb} {C : Tc} {k : Kc} {lv : Nat} {sc : Scope} {X : Cx} {EX : XK}
theorem swap_lc (c : Sok Y C k lv sc X EX) {x : Str} {px : Pos} {elt : Expr} {gs : List Comprehension} {scope : Scope} {pos : Pos} {l : Nat} : swapsWith (.ListComp elt gs scope pos) (some (.Name x px)) l X.env = pure (swB sc x px (.ListComp elt gs scope pos)) := by
  have hb := block_of c
  have hk : X.env.kindOf x = sc.names.lookup x := by rw [← c.c.sc]; rfl
  unfold swapsWith swB isLoc
  simp only [hb, hk]
  cases h : sc.names.lookup x with
  | none => rfl
  | some kd => cases kd <;> rfl
theorem swap_none (c : Sok Y C k lv sc X EX) {x : Str} {px : Pos} {e : Expr} {m : E} {n l : Nat} (he : cE n k sc e = some m) (h : ¬ (isComp e = true ∧ swB sc x px e = true)) : swapsWith e (some (.Name x px)) l X.env = pure false := by
  cases e
  case ListComp elt gs scope pos =>
    rw [swap_lc c]
    cases hb : swB sc x px (.ListComp elt gs scope pos) with
    | true => exact absurd ⟨rfl, hb⟩ h
    | false => rfl
  case SetComp => cases n <;> simp [cE] at he
  case DictComp => cases n <;> simp [cE] at he
  all_goals exact noswap rfl
theorem set_name (c : Sok Y C k lv sc X EX) {x : Str} {px pos : Pos} {e : Expr} {te : TE} {i : Nat} (hl : locB sc x = true) (hi : slotF x k.N 0 = some i) (he : PE X e te) (hs : swapsWith e (some (.Name x px)) pos.line X.env = pure false) : PS X (.Assign [.Name x px] e pos) (tAsg te (gName i)) :=
  ps_set (by rw [c.c.hN]; exact c.c.nd) (by rw [c.c.hN]; exact slot_at hi) (by rw [c.c.sc]; exact loc_of hl) he hs (.inl (c.fnT x))
theorem setlc (c : Sok Y C k lv sc X EX) {x y : Str} {px py pos spos : Pos} {i n : Nat} {elt iter : Expr} {ifs : List Expr} {as : Int} {scope : Scope} {m : E} (hi : slotF x k.N 0 = some i) (hs : swB sc x px (.ListComp elt [⟨.Name y py, iter, ifs, as⟩] scope pos) = true)
    (h : cE n k sc (.ListComp elt [⟨.Name y py, iter, ifs, as⟩] scope pos) = some m) : PS X (.Assign [.Name x px] (.ListComp elt [⟨.Name y py, iter, ifs, as⟩] scope pos) spos) (tAsg (rdE Y C EX m) (gName i)) := by
  have hx : isLoc sc x = true := by
    simp only [swB, Bool.and_eq_true] at hs
    exact hs.1.1
  have hsw : ∀ {elt : Expr} {gs : List Comprehension} {scope : Scope} {pos : Pos}, swB sc x px (.ListComp elt gs scope pos) = true → swapsWith (.ListComp elt gs scope pos) (some (.Name x px)) spos.line X.env = pure true := fun z => by rw [swap_lc c, z]
  have nd : X.N.Nodup := by rw [c.c.hN]; exact c.c.nd
  have xi : X.N[i]? = some x := by rw [c.c.hN]; exact slot_at hi
  have xl : X.env.scope.names.lookup x = some .local := by rw [c.c.sc]; exact isLoc_of hx
  cases n with
  | zero => simp [cE] at h
  | succ n =>
    have hf := pec_ok c.c n
    simp only [cE] at h
    split at h
    all_goals first | (cases h; done) | (rename_i heq; cases heq)
    · split at h
      · rename_i j it e' e1 e2 e3
        split at h
        · rename_i hl
          cases h
          unfold lcScope at hl
          rw [Bool.and_eq_true] at hl
          obtain ⟨pi, ps⟩ := it_ok c.c hf (tg := .Name y py) e2
          simp only [rdE]
          refine ps_setLc (own := [(y, j)]) c.c.calm nd xi xl (hsw hs) pi (by rw [c.c.hN, c.c.sc]; exact blkOk_by hl.1) (fun s H Ca cl fp => ?_) (fun _ _ _ _ _ => pts_nil) (fun s H Ca cl fp => (c_all Y C lv n _ _).1 _ _ (c.c.blk s H _ cl Ca fp) _ _ e3) (fold_set ps)
          have lo : (relS scope X.env.scope).names.lookup y = some NameKind.local := by
            have := hl.2
            rw [c.c.sc]
            split at this
            · assumption
            · cases this
          exact pg_name (by show X.N.Nodup; rw [c.c.hN]; exact c.c.nd) (by show X.N[j]? = _; rw [c.c.hN]; exact slot_at e1) (.inl lo) (.inr lo)
        · cases h
      · cases h
    · split at h
      · rename_i j it e' c' e1 e2 e3 e4
        split at h
        · rename_i hl
          cases h
          unfold lcScope at hl
          rw [Bool.and_eq_true] at hl
          obtain ⟨pi, ps⟩ := it_ok c.c hf (tg := .Name y py) e2
          simp only [rdE]
          refine ps_setLc (own := [(y, j)]) c.c.calm nd xi xl (hsw hs) pi (by rw [c.c.hN, c.c.sc]; exact blkOk_by hl.1) (fun s H Ca cl fp => ?_) (fun s H Ca cl fp => pts_one ((c_all Y C lv n _ _).2 _ _ (c.c.blk s H _ cl Ca fp) _ _ e4)) (fun s H Ca cl fp => (c_all Y C lv n _ _).1 _ _ (c.c.blk s H _ cl Ca fp) _ _ e3) (fold_set ps)
          have lo : (relS scope X.env.scope).names.lookup y = some NameKind.local := by
            have := hl.2
            rw [c.c.sc]
            split at this
            · assumption
            · cases this
          exact pg_name (by show X.N.Nodup; rw [c.c.hN]; exact c.c.nd) (by show X.N[j]? = _; rw [c.c.hN]; exact slot_at e1) (.inl lo) (.inr lo)
        · cases h
      · cases h
theorem new_ok (c : Sok Y C k lv sc X EX) {x : Str} {px pos : Pos} {e : Expr} {i : Nat} {m : St} (hl : locB sc x = true) (hi : slotF x k.N 0 = some i) (hc : isComp e = false) (h : newC k sc i e = some m) : PS X (.Assign [.Name x px] e pos) (rdS Y C EX m) := by
  unfold newC at h
  split at h
  · rename_i es p
    cases e1 : mapE (cE 60 k sc) es with
    | none => simp [e1] at h
    | some ms =>
      simp only [e1, Option.map_some, Option.some.injEq] at h
      subst h
      simp only [rdS]
      exact set_name c hl hi (pe_lst (mapE_ok (pec_ok c.c 60) e1).1) (noswap hc)
  · rename_i ks vs p
    split at h
    · rename_i a b e1 e2 e3
      cases h
      rw [Bool.and_eq_true, Bool.and_eq_true, decide_eq_true_eq, decide_eq_true_eq] at e3
      obtain ⟨p1, p2⟩ := keys_ok (pec_ok c.c 60) e1 e2 e3.1.1
      simp only [rdS]
      exact set_name c hl hi (pe_disp p1 p2 e3.1.1 (fun z => by rw [z] at e3; exact absurd e3.1.2 (by decide)) e3.2) (noswap hc)
    · cases h
  · cases h
theorem each_one {t : Expr} {env : PySem.Env} (h : star t = false) : (assignEach [t] env).map (·.2) = [assign t env] := by
  rw [each_star h]
  rfl
theorem sole_of {t e : Expr} {l : Nat} {env : PySem.Env} (h : isComp e = false) : swapsWithSole [t] e l env = pure false := noswap h
theorem stores_none {t e : Expr} {env : PySem.Env} (h : (isTuple t && isTuple e) = false) : swappedStores [t] e env = pure none := by
  cases t <;> first | rfl | skip
  all_goals (cases e <;> first | rfl | cases h)
theorem asg_ok (c : Sok Y C k lv sc X EX) {t e : Expr} {pos : Pos} {m : St} (h : asgC k sc t e = some m) : PS X (.Assign [t] e pos) (rdS Y C EX m) := by
  unfold asgC at h
  split at h
  · rename_i e2 x px
    split at h
    · rename_i i hl hi
      split at h
      · rename_i hm
        rw [Bool.and_eq_true, Bool.not_eq_true'] at hm
        exact new_ok c hl hi hm.2 h
      · split at h
        · rename_i h1 h2
          split at h
          · rename_i elt y py iter ifs as scope pos' hm'
            cases e1 : cE 60 k sc (.ListComp elt [⟨.Name y py, iter, ifs, as⟩] scope pos') with
            | none => simp [e1] at h
            | some m' =>
              simp only [e1, Option.map_some, Option.some.injEq] at h
              subst h
              simp only [rdS, rdG]
              exact setlc c hi h2 e1
          · cases h
        · rename_i hn
          cases e1 : cE 60 k sc e with
          | none => simp [e1] at h
          | some m' =>
            simp only [e1, Option.map_some, Option.some.injEq] at h
            subst h
            simp only [rdS, rdG]
            exact set_name c hl hi (ce_ok c.c e1) (swap_none c e1 (fun z => hn z.1 z.2))
    · cases h
  · rename_i ts kt pt vs k2 pt2
    split at h
    · rename_i e1
      split at h
      · rename_i t' e' e2 e3
        cases h
        simp only [rdS]
        exact ps_asg (ce_ok c.c e3) (cg_ok c _ _ _ e2).1 (sole_of rfl) (swC_ok c e1) (each_one rfl)
      · cases h
    · rename_i x y e1
      split at h
      · rename_i x' px y' py a b
        split at h
        · rename_i a' b' i j e2 e3 e4 e5
          split at h
          · rename_i hh
            obtain ⟨rfl, rfl, h1, h2, h3⟩ := hh
            cases h
            have xi : X.N[i]? = some x' := by rw [c.c.hN]; exact slot_at e4
            have yj : X.N[j]? = some y' := by rw [c.c.hN]; exact slot_at e5
            have nd : X.N.Nodup := by rw [c.c.hN]; exact c.c.nd
            simp only [rdS]
            refine ps_par c.c.calm nd xi yj (fun z => h3 (by rw [z] at xi; exact Option.some.inj (xi.symm.trans yj))) (by rw [c.c.sc]; exact isLoc_of h1) (by rw [c.c.sc]; exact isLoc_of h2) ?_ (swC_ok c e1) (sole_of rfl)
            exact pa_cons (ce_ok c.c e2) (pa_cons (ce_ok c.c e3) pa_nil (star_each (cE_star e3))) (star_each (cE_star e2))
          · cases h
        · cases h
      · cases h
    · rename_i x y z e1
      split at h
      · rename_i x' px y' py z' pz a b d
        split at h
        · rename_i a' b' d' i j l e2 e3 e4 e5 e6 e7
          split at h
          · rename_i hh
            obtain ⟨rfl, rfl, rfl, h1, h2, h3, h4, h5, h6⟩ := hh
            cases h
            have xi : X.N[i]? = some x' := by rw [c.c.hN]; exact slot_at e5
            have yj : X.N[j]? = some y' := by rw [c.c.hN]; exact slot_at e6
            have zl : X.N[l]? = some z' := by rw [c.c.hN]; exact slot_at e7
            have nd : X.N.Nodup := by rw [c.c.hN]; exact c.c.nd
            simp only [rdS]
            refine ps_par3 c.c.calm nd xi yj zl (fun q => h4 (by rw [q] at xi; exact Option.some.inj (xi.symm.trans yj))) (fun q => h5 (by rw [q] at xi; exact Option.some.inj (xi.symm.trans zl))) (fun q => h6 (by rw [q] at yj; exact Option.some.inj (yj.symm.trans zl))) (by rw [c.c.sc]; exact isLoc_of h1) (by rw [c.c.sc]; exact isLoc_of h2) (by rw [c.c.sc]; exact isLoc_of h3) ?_ (swC_ok c e1) (sole_of rfl)
            exact pa_cons (ce_ok c.c e2) (pa_cons (ce_ok c.c e3) (pa_cons (ce_ok c.c e4) pa_nil (star_each (cE_star e4))) (star_each (cE_star e3))) (star_each (cE_star e2))
          · cases h
        · cases h
      · cases h
    · cases h
  · split at h
    · cases h
    · rename_i hn
      split at h
      · rename_i t' e' e1 e2
        cases h
        simp only [Bool.or_eq_true, not_or, Bool.not_eq_true] at hn
        simp only [rdS]
        exact ps_asg (ce_ok c.c e2) (cg_ok c _ _ _ e1).1 (sole_of hn.1) (stores_none hn.2) (each_one (cG_star e1))
      · cases h
theorem pmk_own0 {Ca : Addr} {bmB : List Value} {B newId initId : String} {x : Str} {p pos : Pos} (F : ExcBaseFacts B newId initId bmB) (q : PySem.W.excIn X.K Ca bmB newId = true) (gC : X.mg x = some (.ref Ca))
    (kC : PySem.W.keepIn X.K (.ref Ca) = true) (r : Raises X (.ref Ca)) (hg : Gl X x) (hdb : (x == ("__debug__" : Str)) = false) : PMk X (.Call (.Name x p) [] [] pos) (fun σ H Q => Q (.ref Ca) none H) := by
  intro pins s σ H Q I h
  refine wpAny_Call_Name_kw (ld_glob I hg gC ?_ hdb)
  refine PySem.W.callWith_K0 I.kIn kC ?_
  obtain ⟨bm, N, nm, qn, bs, hdct, sn, sub, ab, col, dd, k0, k1, k2, k3, k5, mN, hC, hN, hni, T⟩ := exc_obj I.kIn q
  refine wpAny_call_exc_subT F T hC hN hni (fun h' e hm => ?_) (Nat.zero_le _)
  exact mk_of I hm r h (I.hok.gone hm.new)
theorem aug_plus : PIp X .Add (ipI fun i j => i + j) := ip_add
theorem cs_ok (c : Sok Y C k lv sc X EX) : ∀ (n : Nat) (s : Stmt) (m : St), cS n k sc s = some m → PS X s (rdS Y C EX m)
  | 0, s, m, h => by simp [cS] at h
  | n + 1, s, m, h => by
    simp only [cS] at h
    split at h
    · rename_i e p
      cases e1 : cE 60 k sc e with
      | none => simp [e1] at h
      | some m' =>
        simp only [e1, Option.map_some, Option.some.injEq] at h
        subst h
        simp only [rdS]
        exact ps_ret (ce_ok c.c e1)
    · cases h
      simp only [rdS]
      exact ps_retN
    · exact asg_ok c h
    · split at h
      · rename_i i e' hl hi e1
        cases h
        simp only [rdS]
        exact ps_aug (by rw [c.c.hN]; exact c.c.nd) (by rw [c.c.hN]; exact slot_at hi) (by rw [c.c.sc]; exact loc_of hl) (ce_ok c.c e1) aug_plus (.inl (c.fnT _))
      · cases h
    · split at h
      · rename_i c' a' b' e1 e2 e3
        cases h
        simp only [rdS]
        exact ps_if (ct_ok c.c e1) (mapS_ok (cs_ok c n) e2) (mapS_ok (cs_ok c n) e3)
      · cases h
    · split at h
      · rename_i c' b' e1 e2
        cases h
        simp only [rdS]
        exact ps_while c.own (ct_ok c.c e1) (mapS_ok (cs_ok c n) e2)
      · cases h
    · split at h
      · rename_i t' it' b' e1 e2 e3
        cases h
        obtain ⟨pi, ps⟩ := it_ok c.c (pec_ok c.c 60) e2
        simp only [rdS]
        exact ps_for c.own c.c.calm pi (cg_ok c _ _ _ e1).1 (mapS_ok (cs_ok c n) e3) (fold_set ps)
      · cases h
    · split at h
      · rename_i e' e1 e2
        cases h
        simp only [rdS]
        exact ps_expr (ce_ok c.c e1) (noswap e2)
      · cases h
    · split at h
      · rename_i cn hg e1
        cases h
        rw [Bool.and_eq_true] at hg
        have ex := c.exs _ _ e1
        simp only [rdS]
        exact ps_raise c.c.calm c.tk (pmk_own0 PySem.F.excBase_ValueError ex.ex ex.gC ex.kp (raises_own ex.sb ex.ty) (glob_of c.c hg.1) (plain_of hg.2).1)
      · cases h
    · cases h; simp only [rdS]; exact ps_pass
    · cases h; simp only [rdS]; exact ps_break
    · cases h; simp only [rdS]; exact ps_continue
    · cases h
theorem css_ok (c : Sok Y C k lv sc X EX) {ss : List Stmt} {m : Ss} (h : cSs k sc ss = some m) : PSs X ss (rdSs Y C EX m) := mapS_ok (cs_ok c 20) h
end
end Dz

set_option Elab.async false
set_option linter.all false
set_option maxRecDepth 100000
set_option maxHeartbeats 4000000
namespace Dz
open PySem PySem.Spec PyProof.Rows L2

section
variable {P : Program} {w : World} {K : PySem.W.Frag} {mg : Str → Option Value} {base : Heap} {Y : Tb} {C : Tc} {k : Kc} {lv : Nat}
/-- what the program gives to a def's names -/
structure Prg (P : Program) (w : World) (K : PySem.W.Frag) (mg : Str → Option Value) (base : Heap) (Y : Tb) (C : Tc) (k : Kc) (lv : Nat) : Prop where
  hK : K = Y.K
  T : TbOk Y C
  fns : ∀ x id, k.fns.lookup x = some id → ∃ f fd ps, FnOk P w K mg base (L2.CX P w) lv f fd ps (SpOf Y C id) ∧ mg x = some (.ref f) ∧ PySem.W.keepIn K (.ref f) = true ∧ Binds K fd ps []
  cls : ∀ x id c, k.cls.lookup x = some (id, c) → ∃ f fd ps lv', lv' + 1 ≤ lv ∧ Mk K (Y.Cs c) f ∧ FnOk P w K mg base (L2.CX P w) lv' f fd ps (SpI Y C id c) ∧ mg x = some (.ref (Y.Cs c)) ∧ Binds K fd ps []
  mts : ∀ m id c, k.mts.lookup m = some (id, c) → ∃ f fd ps, Cls K (Y.Cs c) ∧ Meth K (Y.Cs c) m f ∧ FnOk P w K mg base (L2.CX P w) lv f fd ps (SpOf Y C id) ∧ Binds K fd ps []
  cons : ∀ x i, k.cons.lookup x = some i → ∃ u, mg x = some u ∧ RelV (Y.gv i) u
  blt : ∀ x ∈ bltNames, mg x = none
  plain : k.wrs = [] ∧ k.lam = false
  exs : ∀ x n, k.exs.lookup x = some n → mg x = some (.ref (Y.ec n)) ∧ PySem.W.excIn K (Y.ec n) He.veBase "ValueError.__new__" = true ∧ PySem.W.keepIn K (.ref (Y.ec n)) = true ∧ PySem.W.subIn K (.ref (Y.ec n)) (.type "BaseException") = some true ∧ PySem.W.typeIn K (.ref (Y.ec n)) = some (.type "type")
theorem sok_of (p : Prg P w K mg base Y C k lv) {N ps : List Str} {qual : Str} {scope : Scope} {f : Addr} {cd : Value} {A : Around} {outer : List PySem.Env} {s : Shared} {H : Hp} {E : XK} (S : FnScope N ps scope) (hN : k.N = N)
    (hr : Room lv (A.deeper (envOfC qual scope s.heap.objs.size f cd))) : Sok Y C k lv scope (cxOf (L2.CX P w) P w K mg base N qual scope f cd A outer s H E) E := by
  have tk : Takes (cxOf (L2.CX P w) P w K mg base N qual scope f cd A outer s H E) (fun cls d _ H => E cls d H) := takes_of rfl rfl rfl rfl
  refine ⟨⟨p.hK, hN.symm, by rw [hN]; exact S.nd, rfl, rfl, hr, passes_call tk (fun _ _ _ _ h => h), p.fns, p.cls, p.mts, p.cons, p.blt, (fun z => by rw [p.plain.2] at z; cases z), fun x id z => by rw [p.plain.1] at z; cases z⟩, S.kind, fun _ => rfl, passes_of rfl, tk, fun x n h => ?_⟩
  obtain ⟨h1, h2, h3, h4, h5⟩ := p.exs x n h
  exact ⟨h1, h2, h3, h4, h5⟩
/-- a def of the text keeps the promise of its number -/
theorem fn_ok (p : Prg P w K mg base Y C k lv) {x qual : Str} {params : Arguments} {body : List Stmt} {scope : Scope} {dvs : List V} {kws : List (Str × V)} {f : Addr} {fd : FuncData} {N ps : List Str} {b : Ss} {id : Nat} (F : FunD K x qual params body scope dvs kws f fd) (S : FnScope N ps scope) (hN : k.N = N)
    (hb : cSs k scope body = some b) {C' : Tc} (ha : C'.ar id = ps.length) (hφ : ∀ ds S, run C N.length b ds S = C'.φ id ds S) : FnOk P w K mg base (L2.CX P w) (lv + 1) f fd ps (SpOf Y C' id) := by
  refine F.ok S (fun vs H Q E h => by rw [← ha]; exact h.1) fun cdv A outer s H vs Q E hr h => ?_
  obtain ⟨_, A', M, St, ds, wf, r, hp⟩ := h
  refine ⟨rdSs Y C E b, css_ok (sok_of p S hN hr) hb, body_ok p.T wf r ?_⟩
  rw [hφ ds St]
  exact hp
/-- a class's __init__ -/
def runI (C : Tc) (nl : Nat) (b : Ss) (c : Nat) (ds : List D) (S : Sto) : R D :=
  let fini : Sto → R D := fun S' => match S'[S.length]? with
    | some (.ins c' ns l) => whenR (decide (c' = c) && lows S.length l && decide (ns.length = l.length)) (.ok (.ob c ns l) (S'.take S.length))
    | _ => .bad
  match execs C b (((D.mr S.length) :: ds).map some ++ List.replicate (nl - (ds.length + 1)) none) (S ++ [.ins c [] []]) with
  | .nx _ S' => fini S'
  | .rt .non S' => fini S'
  | .ex e S' => .exc e (S'.take S.length)
  | _ => .bad
theorem init_ok (p : Prg P w K mg base Y C k lv) {x qual : Str} {params : Arguments} {body : List Stmt} {scope : Scope} {dvs : List V} {kws : List (Str × V)} {f : Addr} {fd : FuncData} {N ps : List Str} {b : Ss} {id c : Nat} (F : FunD K x qual params body scope dvs kws f fd) (S : FnScope N ps scope) (hN : k.N = N)
    (hb : cSs k scope body = some b) {C' : Tc} (ha : C'.ar id + 1 = ps.length) (hφ : ∀ ds S, runI C N.length b c ds S = C'.φ id ds S) : FnOk P w K mg base (L2.CX P w) (lv + 1) f fd ps (SpI Y C' id c) := by
  refine F.ok S (fun vs H Q E h => by rw [← ha]; exact h.1) fun cdv A outer s H vs Q E hr h => ?_
  obtain ⟨_, xa, us, rfl, A', M, St, ds, wf, r, hp⟩ := h
  have hp : PIn Y E A' M H xa c (runI C N.length b c ds St) Q := by
    rw [hφ ds St]
    exact hp
  have hl : M.length = St.length := by
    have := wf.len
    rw [List.length_append, List.length_append] at this
    simpa using this
  refine ⟨rdSs Y C E b, css_ok (sok_of p S hN hr) hb, ?_⟩
  have rx : Reps Y (Avd A' (M ++ [xa])) (M ++ [xa]) H (.mr St.length :: ds) (.ref xa :: us) := by
    refine Reps.cons ?_ r
    simp only [Rep]
    exact ⟨xa, by rw [← hl, List.getElem?_append_right (Nat.le_refl _), Nat.sub_self]; rfl, rfl⟩
  have env := start_env rx (N.length - (ds.length + 1))
  have e : L2.start N (.ref xa :: us) = (V.ref xa :: us).map some ++ List.replicate (N.length - (ds.length + 1)) none := by
    unfold L2.start
    rw [List.length_cons, ← r.length]
  rw [e]
  refine gss p.T b _ _ A' _ _ H env wf _ ?_
  have fini : ∀ M' H' S', Gr Y A' (M ++ [xa]) H M' H' → Wf Y A' M' S' H' → PIn Y E A' M H xa c (match S'[St.length]? with
    | some (.ins c' ns l) => whenR (decide (c' = c) && lows St.length l && decide (ns.length = l.length)) (.ok (.ob c ns l) (S'.take St.length))
    | _ => .bad) Q → Q .non H' := fun M' H' S' g w' h => by
    obtain ⟨Nn, eM, fN⟩ := g.ex
    subst eM
    have wsh : Wf Y A' (M ++ [xa]) (S'.take (M ++ [xa]).length) H' := w'.shrink
    have wsh2 : Wf Y A' M ((S'.take (M ++ [xa]).length).take M.length) H' := wsh.shrink
    rw [List.take_take, Nat.min_eq_left (by rw [List.length_append]; omega), hl] at wsh2
    split at h
    · rename_i c' ns l e0
      cases hk : decide (c' = c) && lows St.length l && decide (ns.length = l.length) with
      | false => rw [hk] at h; exact h.elim
      | true =>
        rw [hk] at h
        rw [Bool.and_eq_true, Bool.and_eq_true] at hk
        have hc := of_decide_eq_true hk.1.1
        subst hc
        obtain ⟨_, h⟩ := h
        have hx : (M ++ [xa] ++ Nn)[St.length]? = some xa := by
          rw [List.append_assoc, ← hl, List.getElem?_append_right (Nat.le_refl _), Nat.sub_self]
          rfl
        obtain ⟨dx, fvs, q1, _, q2⟩ := w'.cell _ _ _ hx e0
        refine h H' dx fvs (fun a o na ha => g.ext a o (fun z => na ?_) ha) wsh2 q1 ?_
        · rcases List.mem_append.mp z with z | z
          · exact List.mem_cons_of_mem _ z
          · rw [List.mem_singleton] at z
            rw [z]
            exact List.mem_cons_self
        · have t1 : (M ++ [xa] ++ Nn).take St.length = M := by
            rw [List.append_assoc, ← hl, List.take_append_of_le_length (Nat.le_refl _), List.take_length]
          rw [t1] at q2
          exact Reps.move (fun _ _ z => z) (fun a o n h => ⟨h, fun z => n (by
            rcases z with z | z
            · exact .inl z
            · exact .inr (List.mem_append_left _ (List.mem_append_left _ z)))⟩) _ _ q2
    · exact h.elim
  unfold runI at hp
  simp only at hp
  revert hp
  cases execs C b ((D.mr St.length :: ds).map some ++ List.replicate (N.length - (ds.length + 1)) none) (St ++ [.ins c [] []]) with
  | nx ρ' S' => exact fun hp M' σ' H' g he' w' => fini M' H' S' g w' hp
  | rt d S' =>
    cases d <;> first | exact fun hp => hp.elim | skip
    intro hp M' v H' g rv w'
    have := fini M' H' S' g w' hp
    rw [rep_non rv]
    exact this
  | ex e S' =>
    intro hp M' H' g w'
    obtain ⟨Nn, eM, fN⟩ := g.ex
    subst eM
    have wsh : Wf Y A' (M ++ [xa]) (S'.take (M ++ [xa]).length) H' := w'.shrink
    have wsh2 : Wf Y A' M ((S'.take (M ++ [xa]).length).take M.length) H' := wsh.shrink
    rw [List.take_take, Nat.min_eq_left (by rw [List.length_append]; omega), hl] at wsh2
    refine hp H' (fun a o na ha => g.ext a o (fun z => na ?_) ha) wsh2
    rcases List.mem_append.mp z with z | z
    · exact List.mem_cons_of_mem _ z
    · rw [List.mem_singleton] at z
      rw [z]
      exact List.mem_cons_self
  | bk ρ' S' => exact fun hp => hp.elim
  | ct ρ' S' => exact fun hp => hp.elim
  | bad => exact fun hp => hp.elim
end
end Dz

set_option Elab.async false
set_option linter.all false
set_option maxRecDepth 100000
set_option maxHeartbeats 4000000
namespace Dz
open PySem PySem.Spec PyProof.Rows L2

/-! ### a law's defs as a table -/
/-- opq: a def that is never run -/
inductive Kd where | fn | ini (c : Nat) | mth (c : Nat) | opq
inductive CV where | int (i : Int) | str (z : Str) | sts (l : List Str) | itp (l : List Int)
structure Ent where
  d : He.DefD
  N : List Str
  ps : List Str
  muts : List Nat
  b : Ss
  kd : Kd
structure Lw where
  ents : List Ent
  clsN : List Str
  cons : List (Str × CV)
  excs : List Str
  flds : List (Nat × Str)
def idxF {α : Type} (f : α → Nat → Option (Str × Nat)) : List α → Nat → List (Str × Nat)
  | [], _ => []
  | a :: l, i => match f a i with | some q => q :: idxF f l (i + 1) | none => idxF f l (i + 1)
def idxG {α β : Type} (f : α → Nat → Option β) : List α → Nat → List β
  | [], _ => []
  | a :: l, i => match f a i with | some q => q :: idxG f l (i + 1) | none => idxG f l (i + 1)
theorem idxG_mem {α β : Type} {f : α → Nat → Option β} : ∀ {l : List α} {i : Nat} {q : β}, q ∈ idxG f l i → ∃ j a, l[j]? = some a ∧ f a (i + j) = some q
  | [], _, _, h => by simp [idxG] at h
  | a :: l, i, q, h => by
    unfold idxG at h
    cases e : f a i with
    | none =>
      rw [e] at h
      obtain ⟨j, b, h1, h2⟩ := idxG_mem h
      exact ⟨j + 1, b, by simpa using h1, by rw [← h2]; congr 1; omega⟩
    | some z =>
      rw [e] at h
      rcases List.mem_cons.mp h with h | h
      · exact ⟨0, a, rfl, by rw [h]; exact e⟩
      · obtain ⟨j, b, h1, h2⟩ := idxG_mem h
        exact ⟨j + 1, b, by simpa using h1, by rw [← h2]; congr 1; omega⟩
theorem lookup_mem2 {β : Type} {a : Str} {o : β} : ∀ {l : List (Str × β)}, l.lookup a = some o → (a, o) ∈ l
  | [], h => by cases h
  | (b, u) :: r, h => by
    have h2 : (match a == b with | true => some u | false => r.lookup a) = some o := h
    cases q : (a == b) with
    | true =>
      rw [q] at h2
      have e : u = o := Option.some.inj h2
      rw [beq_iff_eq.mp q, e]
      exact List.mem_cons_self
    | false =>
      rw [q] at h2
      exact List.mem_cons_of_mem _ (lookup_mem2 h2)
def CV.dv : CV → D
  | .int i => .int i
  | .str z => .str z
  | .sts l => .tup (l.map .str)
  | .itp l => .tup (l.map .int)
def CV.v (K : PySem.W.Frag) (x : Str) : CV → V
  | .int i => .int i
  | .str z => .str z
  | .sts _ => .ref (He.ga K x)
  | .itp _ => .ref (He.ga K x)
def Lw.nm (L : Lw) (c : Nat) : Str := L.clsN.getD c ""
def Lw.kc (L : Lw) (e : Ent) : Kc where
  N := e.N
  fns := idxG (fun (a : Ent) i => match a.kd with | .fn => some (a.d.name, i) | .opq => some (a.d.name, i) | _ => none) L.ents 0
  cls := idxG (fun (a : Ent) i => match a.kd with | .ini c => some (L.nm c, (i, c)) | _ => none) L.ents 0
  mts := idxG (fun (a : Ent) i => match a.kd with | .mth c => some (a.d.name, (i, c)) | _ => none) L.ents 0
  cons := idxG (fun (a : Str × CV) i => some (a.1, i)) L.cons 0
  exs := idxG (fun (a : Str) i => some (a, i)) L.excs 0
  muts := e.muts
def Lw.ar (L : Lw) (id : Nat) : Nat := match L.ents[id]? with
  | some e => (match e.kd with | .ini _ => e.ps.length - 1 | _ => e.ps.length)
  | none => 0
def Lw.gd (L : Lw) (i : Nat) : D := match L.cons[i]? with
  | some (_, v) => v.dv
  | none => .non
def Lw.fo (L : Lw) (c : Nat) (f : Str) : Bool := decide ((c, f) ∈ L.flds)
def Lw.mkC (L : Lw) (φ : Nat → List D → Sto → R D) : Tc := { φ := φ, ar := L.ar, gd := L.gd, fo := L.fo }
def Lw.phi (L : Lw) : Nat → Nat → List D → Sto → R D
  | 0, _, _, _ => .bad
  | n + 1, id, ds, S => match L.ents[id]? with
    | some e => (match e.kd with
      | .ini c => runI (L.mkC (L.phi n)) e.N.length e.b c ds S
      | .opq => .bad
      | _ => run (L.mkC (L.phi n)) e.N.length e.b ds S)
    | none => .bad
abbrev Lw.C (L : Lw) (n : Nat) : Tc := L.mkC (L.phi n)
def Lw.Y (L : Lw) (K : PySem.W.Frag) : Tb where
  K := K
  sp := fun _ _ _ _ _ => False
  gv := fun i => match L.cons[i]? with | some (x, v) => v.v K x | none => .non
  Cs := fun c => He.ga K (L.nm c)
  ec := fun n => He.ga K (L.excs.getD n "")
  tP := (He.cT K ("law", none)).2
  qn := ((("law" : Str) ++ ".<locals>.") ++ "<lambda>")
def Lw.fa (L : Lw) : List He.Fa :=
  idxG (fun (a : Ent) _ => match a.kd with | .fn => some (.glo a.d.name) | .opq => some (.glo a.d.name) | .mth c => some (.meth (L.nm c) a.d.name) | .ini c => some (.mkr (L.nm c))) L.ents 0
  ++ idxG (fun (x : Str) _ => some (.glo x)) L.clsN 0 ++ idxG (fun (x : Str) _ => some (.cls x)) L.clsN 0
  ++ idxG (fun (q : Nat × Str) _ => some (.noat (L.nm q.1) q.2)) L.flds 0
  ++ idxG (fun (x : Str) _ => some (.glo x)) L.excs 0 ++ idxG (fun (x : Str) _ => some (.exc x)) L.excs 0
  ++ idxG (fun (x : Str) _ => some (.free x)) bltNames 0
  ++ idxG (fun (q : Str × CV) _ => match q.2 with | .int i => some (.int q.1 i) | .str z => some (.str q.1 z) | .sts _ => some (.glo q.1) | .itp _ => some (.glo q.1)) L.cons 0
def Lw.fn (L : Lw) : List He.DefD := L.ents.map (·.d)
def Lw.ex (L : Lw) (K : PySem.W.Frag) : Bool := L.cons.all fun q => match q.2 with
  | .sts l => He.tupB K q.1 (l.map .str)
  | .itp l => He.tupB K q.1 (l.map .int)
  | _ => true
theorem idxG_of {α β : Type} {f : α → Nat → Option β} : ∀ {l : List α} {i j : Nat} {a : α} {q : β}, l[j]? = some a → f a (i + j) = some q → q ∈ idxG f l i
  | [], _, _, _, _, h, _ => by simp at h
  | a :: l, i, 0, b, q, h, e => by
    simp at h; subst h
    unfold idxG
    rw [Nat.add_zero] at e
    rw [e]
    exact List.mem_cons_self
  | a :: l, i, j + 1, b, q, h, e => by
    have := idxG_of (f := f) (l := l) (i := i + 1) (j := j) (by simpa using h) (by rw [← e]; congr 1; omega)
    unfold idxG
    split
    · exact List.mem_cons_of_mem _ this
    · exact this
/-- what is looked at of one def -/
structure EOk (L : Lw) (e : Ent) : Prop where
  scope : FnScope e.N e.ps e.d.scope
  code : e.kd = .opq ∨ cSs (L.kc e) e.d.scope e.d.body = some e.b
  dfl : e.d.dfl = []
  bind : ∀ (kV doc pm : Value) (an : Option Addr) (cdv ct : Value) (us : List Value), us.length = e.ps.length → bindArgs (PySem.W.fnOf e.d.name e.d.qual e.d.params e.d.body e.d.scope .none kV doc pm an cdv ct) ⟨us, []⟩ = pure (e.ps.zip us)
  at_ : match e.kd with
    | .fn => e.d.at_ = (e.d.name, none)
    | .opq => e.d.at_ = (e.d.name, none)
    | .ini c => e.d.at_ = (L.nm c, some ("__init__" : Str)) ∧ e.ps.length ≠ 0 ∧ c < L.clsN.length
    | .mth c => e.d.at_ = (L.nm c, some e.d.name) ∧ c < L.clsN.length
structure LOk (L : Lw) : Prop where
  ents : ∀ e ∈ L.ents, EOk L e
  flds : ∀ q ∈ L.flds, q.1 < L.clsN.length
section
variable {L : Lw} {P : Program} {w : World} {K : PySem.W.Frag} {mg : Str → Option Value} {base h : Heap} {fa : List He.Fa} {fn : List He.DefD}
theorem fa1 {f : He.Fa} {A B : List He.Fa} (h : f ∈ A) : f ∈ A ++ B := List.mem_append_left _ h
theorem fa2 {f : He.Fa} {A B : List He.Fa} (h : f ∈ B) : f ∈ A ++ B := List.mem_append_right _ h
theorem nm_get {c : Nat} (h : c < L.clsN.length) : L.clsN[c]? = some (L.nm c) := by
  unfold Lw.nm
  rw [List.getD_eq_getElem?_getD, List.getElem?_eq_getElem h]
  rfl
theorem tb_ok (O : LOk L) (φ : Nat → List D → Sto → R D) (cf : ∀ f ∈ L.fa, f.ok K = true) (cx : L.ex K = true) : TbOk (L.Y K) (L.mkC φ) := by
  refine ⟨fun i B ml H => ?_, fun c f h => ?_, fun e EX ρ S A M σ H he w Q hp => hp.elim, fun id EX ρ S d A M σ H v he w r Q hp => hp.elim, fun k c b h => by cases h⟩
  · show Rep (L.Y K) B ml H (L.gd i) ((L.Y K).gv i)
    unfold Lw.gd Lw.Y
    simp only
    cases e : L.cons[i]? with
    | none => simp only [Rep]
    | some q =>
      obtain ⟨x, v⟩ := q
      cases v with
      | int i => simp only [CV.dv, CV.v, Rep]
      | str z => simp only [CV.dv, CV.v, Rep]
      | sts l =>
        have m := List.all_eq_true.mp cx (x, .sts l) (List.mem_of_getElem? e)
        have t := He.tupB_ok (show He.tupB K x (l.map .str) = true from m) (fun _ => none)
        rw [List.map_map] at t
        simp only [CV.dv, CV.v, Rep]
        exact ⟨_, _, rfl, .inr t, Reps.ofStrs l⟩
      | itp l =>
        have m := List.all_eq_true.mp cx (x, .itp l) (List.mem_of_getElem? e)
        have t := He.tupB_ok (show He.tupB K x (l.map .int) = true from m) (fun _ => none)
        rw [List.map_map] at t
        simp only [CV.dv, CV.v, Rep]
        exact ⟨_, _, rfl, .inr t, Reps.ofInts l⟩
  · have hm : (c, f) ∈ L.flds := of_decide_eq_true h
    have hc := O.flds _ hm
    obtain ⟨j, hj, ej⟩ := List.mem_iff_getElem.mp hm
    refine ⟨He.cls_ok (cf (.cls (L.nm c)) ?_), He.noat_ok (cf (.noat (L.nm c) f) ?_)⟩
    · exact fa1 (fa1 (fa1 (fa1 (fa1 (fa2 (idxG_of (nm_get hc) rfl))))))
    · exact fa1 (fa1 (fa1 (fa1 (fa2 (idxG_of (j := j) (a := (c, f)) (by rw [List.getElem?_eq_getElem hj, ej]) rfl)))))
/-- at a depth: each def's promise -/
def Lev (L : Lw) (P : Program) (w : World) (K : PySem.W.Frag) (mg : Str → Option Value) (base : Heap) (n : Nat) : Prop :=
  ∀ (id : Nat) (e : Ent), L.ents[id]? = some e → ∃ fd, Binds K fd e.ps [] ∧ FunD K e.d.name e.d.qual e.d.params e.d.body e.d.scope (e.d.dvs K) (e.d.kws K) (He.fAd K e.d.at_) fd ∧ match e.kd with
    | .ini c => FnOk P w K mg base (L2.CX P w) (2 * n) (He.fAd K e.d.at_) fd e.ps (SpI (L.Y K) (L.C n) id c)
    | _ => FnOk P w K mg base (L2.CX P w) (2 * n + 1) (He.fAd K e.d.at_) fd e.ps (SpOf (L.Y K) (L.C n) id)
theorem ent_fa {id : Nat} {e : Ent} (h : L.ents[id]? = some e) {f : He.Fa} (hf : (match e.kd with | .fn => some (.glo e.d.name) | .opq => some (.glo e.d.name) | .mth c => some (.meth (L.nm c) e.d.name) | .ini c => some (.mkr (L.nm c))) = some f) : f ∈ L.fa :=
  fa1 (fa1 (fa1 (fa1 (fa1 (fa1 (fa1 (idxG_of h hf)))))))
theorem prg_of (O : LOk L) (X : K.In h) (G : h.Ns mainGlobals mg) (cf : ∀ f ∈ L.fa, f.ok K = true) (cx : L.ex K = true) {n : Nat} (V : Lev L P w K mg base n) (e0 : Ent) : Prg P w K mg base (L.Y K) (L.C n) (L.kc e0) (2 * n + 1) := by
  refine ⟨rfl, tb_ok O _ cf cx, fun x id q => ?_, fun x id c q => ?_, fun m id c q => ?_, fun x i q => ?_, fun x hx => ?_, ⟨rfl, rfl⟩, fun x n q => ?_⟩
  · obtain ⟨j, e, h1, h2⟩ := idxG_mem (lookup_mem2 q)
    cases kd : e.kd with
    | fn =>
      rw [kd] at h2
      simp only [Option.some.injEq, Prod.mk.injEq, Nat.zero_add] at h2
      obtain ⟨rfl, rfl⟩ := h2
      obtain ⟨fd, b, F, v⟩ := V _ e h1
      rw [kd] at v
      have ea := (O.ents e (List.mem_of_getElem? h1)).at_
      rw [kd] at ea
      have ga := He.glo_ok X G (cf _ (ent_fa h1 (by rw [kd])))
      have e3 : He.fAd K e.d.at_ = He.ga K e.d.name := by rw [show e.d.at_ = (e.d.name, none) from ea]; rfl
      exact ⟨_, fd, e.ps, v, by rw [e3]; exact ga, F.kp, b⟩
    | opq =>
      rw [kd] at h2
      simp only [Option.some.injEq, Prod.mk.injEq, Nat.zero_add] at h2
      obtain ⟨rfl, rfl⟩ := h2
      obtain ⟨fd, b, F, v⟩ := V _ e h1
      rw [kd] at v
      have ea := (O.ents e (List.mem_of_getElem? h1)).at_
      rw [kd] at ea
      have ga := He.glo_ok X G (cf _ (ent_fa h1 (by rw [kd])))
      have e3 : He.fAd K e.d.at_ = He.ga K e.d.name := by rw [show e.d.at_ = (e.d.name, none) from ea]; rfl
      exact ⟨_, fd, e.ps, v, by rw [e3]; exact ga, F.kp, b⟩
    | ini c => rw [kd] at h2; cases h2
    | mth c => rw [kd] at h2; cases h2
  · obtain ⟨j, e, h1, h2⟩ := idxG_mem (lookup_mem2 q)
    cases kd : e.kd with
    | opq => rw [kd] at h2; cases h2
    | ini c =>
      rw [kd] at h2
      simp only [Option.some.injEq, Prod.mk.injEq, Nat.zero_add] at h2
      obtain ⟨rfl, rfl, rfl⟩ := h2
      obtain ⟨fd, b, F, v⟩ := V _ e h1
      rw [kd] at v
      have ea := (O.ents e (List.mem_of_getElem? h1)).at_
      rw [kd] at ea
      obtain ⟨ea, _, hc⟩ := ea
      have mk := He.mkr_ok (cf _ (ent_fa h1 (by rw [kd])))
      have e3 : He.fAd K e.d.at_ = He.ma K (He.ga K (L.nm c)) "__init__" := by rw [ea]; rfl
      exact ⟨_, fd, e.ps, 2 * n, Nat.le_refl _, by rw [e3]; exact mk, v, He.glo_ok X G (cf (.glo (L.nm c)) (fa1 (fa1 (fa1 (fa1 (fa1 (fa1 (fa2 (idxG_of (nm_get hc) rfl))))))))), b⟩
    | fn => rw [kd] at h2; cases h2
    | mth c => rw [kd] at h2; cases h2
  · obtain ⟨j, e, h1, h2⟩ := idxG_mem (lookup_mem2 q)
    cases kd : e.kd with
    | opq => rw [kd] at h2; cases h2
    | mth c =>
      rw [kd] at h2
      simp only [Option.some.injEq, Prod.mk.injEq, Nat.zero_add] at h2
      obtain ⟨rfl, rfl, rfl⟩ := h2
      obtain ⟨fd, b, F, v⟩ := V _ e h1
      rw [kd] at v
      have ea := (O.ents e (List.mem_of_getElem? h1)).at_
      rw [kd] at ea
      obtain ⟨ea, hc⟩ := ea
      have mk := He.meth_ok (cf _ (ent_fa h1 (by rw [kd])))
      have e3 : He.fAd K e.d.at_ = He.ma K (He.ga K (L.nm c)) e.d.name := by rw [ea]; rfl
      exact ⟨_, fd, e.ps, He.cls_ok (cf (.cls (L.nm c)) (fa1 (fa1 (fa1 (fa1 (fa1 (fa2 (idxG_of (nm_get hc) rfl)))))))), by rw [e3]; exact mk, v, b⟩
    | fn => rw [kd] at h2; cases h2
    | ini c => rw [kd] at h2; cases h2
  · obtain ⟨j, a, h1, h2⟩ := idxG_mem (lookup_mem2 q)
    simp only [Option.some.injEq, Prod.mk.injEq, Nat.zero_add] at h2
    obtain ⟨rfl, rfl⟩ := h2
    have hg : (L.Y K).gv j = a.2.v K a.1 := by
      unfold Lw.Y
      simp only
      rw [h1]
    obtain ⟨x, v⟩ := a
    rw [hg]
    cases v with
    | int i =>
      obtain ⟨t, e⟩ := He.int_ok X G (cf (.int x i) (fa2 (idxG_of h1 rfl)))
      exact ⟨_, e, t, rfl⟩
    | str z =>
      obtain ⟨t, e⟩ := He.str_ok X G (cf (.str x z) (fa2 (idxG_of h1 rfl)))
      exact ⟨_, e, t, rfl⟩
    | sts l => exact ⟨_, He.glo_ok X G (cf (.glo x) (fa2 (idxG_of h1 rfl))), rfl⟩
    | itp l => exact ⟨_, He.glo_ok X G (cf (.glo x) (fa2 (idxG_of h1 rfl))), rfl⟩
  · obtain ⟨j, hj, ej⟩ := List.mem_iff_getElem.mp hx
    exact He.free_ok X G (cf (.free x) (fa1 (fa2 (idxG_of (j := j) (by rw [List.getElem?_eq_getElem hj, ej]) rfl))))
  · obtain ⟨j, a, h1, h2⟩ := idxG_mem (lookup_mem2 q)
    simp only [Option.some.injEq, Prod.mk.injEq, Nat.zero_add] at h2
    obtain ⟨rfl, rfl⟩ := h2
    have hec : (L.Y K).ec j = He.ga K a := by
      show He.ga K (L.excs.getD j "") = _
      rw [List.getD_eq_getElem?_getD, h1]
      rfl
    rw [hec]
    exact ⟨He.glo_ok X G (cf (.glo a) (fa1 (fa1 (fa1 (fa2 (idxG_of h1 rfl)))))), He.exc_ok (cf (.exc a) (fa1 (fa1 (fa2 (idxG_of h1 rfl)))))⟩
theorem lev (O : LOk L) (X : K.In h) (G : h.Ns mainGlobals mg) (cf : ∀ f ∈ L.fa, f.ok K = true) (cx : L.ex K = true)
    (cd : ∀ e ∈ L.ents, ∃ fd, FunD K e.d.name e.d.qual e.d.params e.d.body e.d.scope (e.d.dvs K) (e.d.kws K) (He.fAd K e.d.at_) fd) : ∀ n, Lev L P w K mg base n
  | 0 => fun id e h1 => by
    obtain ⟨fd, F⟩ := cd e (List.mem_of_getElem? h1)
    have o := O.ents e (List.mem_of_getElem? h1)
    have F' := F
    unfold He.DefD.dvs at F'
    rw [o.dfl] at F'
    refine ⟨fd, F'.bindsN o.bind, F, ?_⟩
    cases e.kd with
    | ini c => exact ⟨fun vs H Q E z => by obtain ⟨_, _, _, _, _, _, _, _, _, _, z⟩ := z; exact z.elim, fun A outer s H args us vs Q E _ _ _ _ z => by obtain ⟨_, _, _, _, _, _, _, _, _, _, z⟩ := z; exact z.elim⟩
    | fn => exact ⟨fun vs H Q E z => by obtain ⟨_, _, _, _, _, _, _, z⟩ := z; exact z.elim, fun A outer s H args us vs Q E _ _ _ _ z => by obtain ⟨_, _, _, _, _, _, _, z⟩ := z; exact z.elim⟩
    | mth c => exact ⟨fun vs H Q E z => by obtain ⟨_, _, _, _, _, _, _, z⟩ := z; exact z.elim, fun A outer s H args us vs Q E _ _ _ _ z => by obtain ⟨_, _, _, _, _, _, _, z⟩ := z; exact z.elim⟩
    | opq => exact ⟨fun vs H Q E z => by obtain ⟨_, _, _, _, _, _, _, z⟩ := z; exact z.elim, fun A outer s H args us vs Q E _ _ _ _ z => by obtain ⟨_, _, _, _, _, _, _, z⟩ := z; exact z.elim⟩
  | n + 1 => fun id e h1 => by
    have V := lev O X G cf cx cd n
    obtain ⟨fd, F⟩ := cd e (List.mem_of_getElem? h1)
    have o := O.ents e (List.mem_of_getElem? h1)
    have F' := F
    unfold He.DefD.dvs at F'
    rw [o.dfl] at F'
    refine ⟨fd, F'.bindsN o.bind, F, ?_⟩
    have p := prg_of O X G cf cx V e
    have key : ∀ ds S, L.phi (n + 1) id ds S = match e.kd with
      | .ini c => runI (L.mkC (L.phi n)) e.N.length e.b c ds S
      | .opq => .bad
      | _ => run (L.mkC (L.phi n)) e.N.length e.b ds S := fun ds S => by
      show (match L.ents[id]? with
        | some e => (match e.kd with
          | .ini c => runI (L.mkC (L.phi n)) e.N.length e.b c ds S
          | .opq => .bad
          | _ => run (L.mkC (L.phi n)) e.N.length e.b ds S)
        | none => .bad) = _
      rw [h1]
    have har : L.ar id = match e.kd with | .ini _ => e.ps.length - 1 | _ => e.ps.length := by
      unfold Lw.ar
      rw [h1]
    have ea := o.at_
    have cd0 : e.kd ≠ .opq → cSs (L.kc e) e.d.scope e.d.body = some e.b := fun z => o.code.resolve_left z
    cases kd : e.kd with
    | opq =>
      have z0 : ∀ ds S, L.phi (n + 1) id ds S = .bad := fun ds S => by rw [key, kd]
      exact ⟨fun vs H Q E z => by
        obtain ⟨_, _, _, _, _, _, _, z⟩ := z
        rw [show (L.C (n + 1)).φ = L.phi (n + 1) from rfl, z0] at z
        exact z.elim, fun A outer s H args us vs Q E _ _ _ _ z => by
        obtain ⟨_, _, _, _, _, _, _, z⟩ := z
        rw [show (L.C (n + 1)).φ = L.phi (n + 1) from rfl, z0] at z
        exact z.elim⟩
    | ini c =>
      rw [kd] at har ea
      have hl : L.ar id + 1 = e.ps.length := by
        have := ea.2.1
        rw [har]
        simp only
        omega
      exact init_ok (C' := L.C (n + 1)) p F o.scope rfl (cd0 (by rw [kd]; exact nofun)) hl (fun ds S => by rw [show (L.C (n + 1)).φ id ds S = L.phi (n + 1) id ds S from rfl, key, kd])
    | fn =>
      rw [kd] at har
      exact (fn_ok (C' := L.C (n + 1)) p F o.scope rfl (cd0 (by rw [kd]; exact nofun)) har (fun ds S => by rw [show (L.C (n + 1)).φ id ds S = L.phi (n + 1) id ds S from rfl, key, kd])).mono (by omega)
    | mth c =>
      rw [kd] at har
      exact (fn_ok (C' := L.C (n + 1)) p F o.scope rfl (cd0 (by rw [kd]; exact nofun)) har (fun ds S => by rw [show (L.C (n + 1)).φ id ds S = L.phi (n + 1) id ds S from rfl, key, kd])).mono (by omega)
/-- the law's def: the script's list, True -/
theorem sp_law {C : Tc} {id : Nat} {H : Hp} {a : Addr} {ns : List Int} {S' : Sto} (har : C.ar id = 1) (hS : SqL K H a (ns.map V.int)) (r : C.φ id [.scr ns] [] = .ok (.bl true) S') : SpOf (L.Y K) C id [.ref a] H (fun v _ => v = .bl true) fun _ _ _ => False := by
  refine ⟨by rw [har]; rfl, fun _ => False, [], [], [.scr ns], ⟨rfl, List.nodup_nil, fun _ z => z.elim, (fun _ z => by cases z), fun i a c z => by simp at z⟩, Reps.cons ?_ Reps.nil, ?_⟩
  · simp only [Rep]
    refine ⟨a, rfl, ?_⟩
    rcases hS with h | h
    · exact .inl ⟨h, fun z => z.elim (fun z => z) fun z => by cases z⟩
    · exact .inr (.inr h)
  · rw [r]
    intro H2 e2 w2 v rv
    exact rep_bl rv
/-- the end of a law -/
theorem facts (O : LOk L) {n id : Nat} {e : Ent} {x : Str} (he : L.ents[id]? = some e) (hk : e.kd = .fn) (hps : e.ps = [x]) (X : K.In h) (G : h.Ns mainGlobals mg) {f : Addr} (hfa : mg e.d.name = some (.ref f)) (cf : ∀ f ∈ L.fa, f.ok K = true) (cx : L.ex K = true)
    (cd : ∀ e ∈ L.ents, ∃ fd, FunD K e.d.name e.d.qual e.d.params e.d.body e.d.scope (e.d.dvs K) (e.d.kws K) (He.fAd K e.d.at_) fd) :
    ∃ fd : FuncData, (∀ (s : Shared) (v : Value), BindsTo s fd ⟨[v], []⟩ [(x, v)]) ∧ ∀ base : Heap, K.In base → base.Ns mainGlobals mg → FnOk P w K mg base (L2.CX P w) (2 * n + 1) f fd [x] (SpOf (L.Y K) (L.C n) id) := by
  have o := O.ents e (List.mem_of_getElem? he)
  have ea := o.at_
  rw [hk] at ea
  have e3 : He.fAd K e.d.at_ = He.ga K e.d.name := by rw [show e.d.at_ = (e.d.name, none) from ea]; rfl
  have e4 := hfa.symm.trans (He.glo_ok X G (cf (.glo e.d.name) (ent_fa he (by rw [hk]))))
  cases e4
  obtain ⟨fd, F⟩ := cd e (List.mem_of_getElem? he)
  have F' := F
  unfold He.DefD.dvs at F'
  rw [o.dfl] at F'
  have b := F'.bindsA o.bind
  rw [hps] at b
  refine ⟨fd, fun s v => b s [v] rfl, fun base KB GB => ?_⟩
  obtain ⟨fd2, _, F2, v⟩ := lev (P := P) (w := w) (base := base) O X G cf cx cd n id e he
  rw [hk] at v
  have efd : fd2 = fd := by
    obtain ⟨_, _, _, _, _, _, _, _, _, _, _, lk, _⟩ := F.ex
    obtain ⟨_, _, _, _, _, _, _, _, _, _, _, lk2, _⟩ := F2.ex
    rw [lk] at lk2
    injection lk2 with lk2
    injection lk2 with _ _ lk2 _
    injection lk2 with lk2
    exact lk2.symm
  rw [efd, e3, hps] at v
  exact v
end
end Dz

set_option Elab.async false
set_option linter.all false
set_option maxRecDepth 100000
set_option maxHeartbeats 2000000
namespace Dz
open PySem PySem.Spec PyProof.Rows L2

/-! ### tables that tell more -/
mutual
def nc : D → Bool
  | .clo _ => false
  | .exv _ => false
  | .tup l => ncs l
  | .lst l => ncs l
  | .ob _ _ l => ncs l
  | .dct _ l => ncs l
  | .non => true
  | .bl _ => true
  | .int _ => true
  | .str _ => true
  | .scr _ => true
  | .mr _ => true
def ncs : List D → Bool
  | [] => true
  | d :: ds => nc d && ncs ds
end
def ncM : MO → Bool
  | .lst l => ncs l
  | .dct _ l => ncs l
  | .ins _ _ l => ncs l
  | .tab => true
def ncS : Sto → Bool
  | [] => true
  | c :: S => ncM c && ncS S
structure Up (Y Y' : Tb) : Prop where
  K : Y'.K = Y.K
  Cs : Y'.Cs = Y.Cs
  ec : Y'.ec = Y.ec
  gv : Y'.gv = Y.gv
  qn : Y'.qn = Y.qn
  tP : Y'.tP = Y.tP
  ho : Y.ho = none ∨ Y'.ho = Y.ho
  hot : Y.hot = none ∨ Y'.hot = Y.hot
section
variable {Y Y' : Tb} {A : Addr → Prop} {ml : List Addr} {H : Hp}
mutual
theorem Rep.up (u : Up Y Y') : ∀ (d : D) (v : V), Rep Y A ml H d v → Rep Y' A ml H d v
  | .non, v, h => by simp only [Rep] at h ⊢; exact h
  | .bl _, v, h => by simp only [Rep] at h ⊢; exact h
  | .int _, v, h => by simp only [Rep] at h ⊢; exact h
  | .str _, v, h => by simp only [Rep] at h ⊢; exact h
  | .tup l, v, h => by
    simp only [Rep] at h ⊢
    obtain ⟨a, vs, e, h1, h2⟩ := h
    exact ⟨a, vs, e, by rw [u.K]; exact h1, Reps.up u l vs h2⟩
  | .lst l, v, h => by
    simp only [Rep] at h ⊢
    obtain ⟨a, vs, e, h1, n, h2⟩ := h
    exact ⟨a, vs, e, h1, n, Reps.up u l vs h2⟩
  | .scr l, v, h => by
    simp only [Rep] at h ⊢
    rw [u.K]
    exact h
  | .ob c ns l, v, h => by
    simp only [Rep] at h ⊢
    obtain ⟨a, dx, vs, e, h1, n, h2⟩ := h
    exact ⟨a, dx, vs, e, by rw [u.Cs]; exact h1, n, Reps.up u l vs h2⟩
  | .dct ks l, v, h => by
    simp only [Rep] at h ⊢
    obtain ⟨a, vs, e, h1, n, hl, h2⟩ := h
    exact ⟨a, vs, e, h1, n, hl, Reps.up u l vs h2⟩
  | .mr i, v, h => by simp only [Rep] at h ⊢; exact h
  | .exv k, v, h => by
    simp only [Rep] at h ⊢
    obtain ⟨a, e, hv⟩ := h
    rcases u.hot with z | z
    · rw [z] at e; cases e
    · exact ⟨a, by rw [z]; exact e, hv⟩
  | .clo e, v, h => by
    simp only [Rep] at h ⊢
    obtain ⟨g, f, c, t, e0, e1, h1, n1, h2, n2, h3⟩ := h
    rcases u.ho with z | z
    · rw [z] at e0; cases e0
    · exact ⟨g, f, c, t, by rw [z]; exact e0, e1, h1, n1, by rw [u.qn]; exact h2, n2, h3⟩
theorem Reps.up (u : Up Y Y') : ∀ (ds : List D) (vs : List V), Reps Y A ml H ds vs → Reps Y' A ml H ds vs
  | [], vs, h => by rw [h.unnil]; exact Reps.nil
  | d :: ds, vs, h => by
    obtain ⟨v, ws, rfl, h1, h2⟩ := h.uncons
    exact Reps.cons (Rep.up u d v h1) (Reps.up u ds ws h2)
end
mutual
theorem Rep.dn (u : Up Y Y') : ∀ (d : D) (v : V), nc d = true → Rep Y' A ml H d v → Rep Y A ml H d v
  | .non, v, _, h => by simp only [Rep] at h ⊢; exact h
  | .bl _, v, _, h => by simp only [Rep] at h ⊢; exact h
  | .int _, v, _, h => by simp only [Rep] at h ⊢; exact h
  | .str _, v, _, h => by simp only [Rep] at h ⊢; exact h
  | .tup l, v, k, h => by
    simp only [nc] at k
    simp only [Rep] at h ⊢
    obtain ⟨a, vs, e, h1, h2⟩ := h
    exact ⟨a, vs, e, by rw [← u.K]; exact h1, Reps.dn u l vs k h2⟩
  | .lst l, v, k, h => by
    simp only [nc] at k
    simp only [Rep] at h ⊢
    obtain ⟨a, vs, e, h1, n, h2⟩ := h
    exact ⟨a, vs, e, h1, n, Reps.dn u l vs k h2⟩
  | .scr l, v, _, h => by
    simp only [Rep] at h ⊢
    rw [← u.K]
    exact h
  | .ob c ns l, v, k, h => by
    simp only [nc] at k
    simp only [Rep] at h ⊢
    obtain ⟨a, dx, vs, e, h1, n, h2⟩ := h
    exact ⟨a, dx, vs, e, by rw [← u.Cs]; exact h1, n, Reps.dn u l vs k h2⟩
  | .dct ks l, v, k, h => by
    simp only [nc] at k
    simp only [Rep] at h ⊢
    obtain ⟨a, vs, e, h1, n, hl, h2⟩ := h
    exact ⟨a, vs, e, h1, n, hl, Reps.dn u l vs k h2⟩
  | .mr i, v, _, h => by simp only [Rep] at h ⊢; exact h
  | .exv _, v, k, _ => by simp only [nc] at k; cases k
  | .clo _, v, k, _ => by simp only [nc] at k; cases k
theorem Reps.dn (u : Up Y Y') : ∀ (ds : List D) (vs : List V), ncs ds = true → Reps Y' A ml H ds vs → Reps Y A ml H ds vs
  | [], vs, _, h => by rw [h.unnil]; exact Reps.nil
  | d :: ds, vs, k, h => by
    simp only [ncs, Bool.and_eq_true] at k
    obtain ⟨v, ws, rfl, h1, h2⟩ := h.uncons
    exact Reps.cons (Rep.dn u d v k.1 h1) (Reps.dn u ds ws k.2 h2)
end
theorem RepM.up (u : Up Y Y') {c : MO} {a : Addr} (h : RepM Y A ml H c a) : RepM Y' A ml H c a := by
  cases c with
  | lst l => obtain ⟨vs, h, r⟩ := h; exact ⟨vs, h, Reps.up u _ _ r⟩
  | dct ks l => obtain ⟨vs, h, e, r⟩ := h; exact ⟨vs, h, e, Reps.up u _ _ r⟩
  | ins c ns l => obtain ⟨dx, vs, h, e, r⟩ := h; exact ⟨dx, vs, by rw [u.Cs]; exact h, e, Reps.up u _ _ r⟩
  | tab =>
    obtain ⟨e0, ps, h, t, r⟩ := h
    exact ⟨by rw [u.tP]; exact e0, ps, h, t, by rw [u.qn]; exact r⟩
theorem RepM.dn (u : Up Y Y') {c : MO} {a : Addr} (k : ncM c = true) (h : RepM Y' A ml H c a) : RepM Y A ml H c a := by
  cases c with
  | lst l => obtain ⟨vs, h, r⟩ := h; exact ⟨vs, h, Reps.dn u _ _ k r⟩
  | dct ks l => obtain ⟨vs, h, e, r⟩ := h; exact ⟨vs, h, e, Reps.dn u _ _ k r⟩
  | ins c ns l => obtain ⟨dx, vs, h, e, r⟩ := h; exact ⟨dx, vs, by rw [← u.Cs]; exact h, e, Reps.dn u _ _ k r⟩
  | tab =>
    obtain ⟨e0, ps, h, t, r⟩ := h
    exact ⟨by rw [← u.tP]; exact e0, ps, h, t, by rw [← u.qn]; exact r⟩
end
section
variable {Y Y' : Tb} {A : Addr → Prop} {M : List Addr} {S : Sto} {H : Hp}
theorem ncS_get : ∀ {S : Sto} {i : Nat} {c : MO}, ncS S = true → S[i]? = some c → ncM c = true
  | [], _, _, _, e => by simp at e
  | d :: S, 0, c, h, e => by
    simp only [ncS, Bool.and_eq_true] at h
    simp at e
    rw [← e]
    exact h.1
  | d :: S, i + 1, c, h, e => by
    simp only [ncS, Bool.and_eq_true] at h
    exact ncS_get (i := i) h.2 (by simpa using e)
theorem Wf.up (u : Up Y Y') (w : Wf Y A M S H) : Wf Y' A M S H := ⟨w.len, w.nd, w.tr, w.dj, fun i a c e1 e2 => RepM.up u (w.cell i a c e1 e2)⟩
theorem Wf.dn (u : Up Y Y') (k : ncS S = true) (w : Wf Y' A M S H) : Wf Y A M S H := ⟨w.len, w.nd, w.tr, w.dj, fun i a c e1 e2 => RepM.dn u (ncS_get k e2) (w.cell i a c e1 e2)⟩
theorem RepE.up (u : Up Y Y') {ρ : Env} {σ : SV} (h : RepE Y A M H ρ σ) : RepE Y' A M H ρ σ := ⟨h.1, fun i d x => by
  obtain ⟨v, h1, h2⟩ := h.2 i d x
  exact ⟨v, h1, Rep.up u d v h2⟩⟩
/-- a def's promise, called from where more is told -/
theorem SpOf.dn (u : Up Y Y') {C C' : Tc} {id : Nat} (ha : C'.ar id = C.ar id) (hφ : ∀ ds S, C'.φ id ds S = whenR (ncs ds && ncS S) (C.φ id ds S)) {vs : List V} {Q : VK} {E : XK} (h : SpOf Y' C' id vs H Q E) : SpOf Y C id vs H Q E := by
  obtain ⟨hl, A, M, S, ds, w, r, p⟩ := h
  rw [hφ] at p
  obtain ⟨k, p⟩ := whenR_P p
  rw [Bool.and_eq_true] at k
  refine ⟨by rw [hl, ha], A, M, S, ds, w.dn u k.2, Reps.dn u _ _ k.1 r, ?_⟩
  revert p
  cases C.φ id ds S with
  | bad => exact fun p => p
  | exc c S' =>
    intro p H' e w'
    have := p H' e (w'.up u)
    rw [u.ec] at this
    exact this
  | ok d S' => exact fun p H' e w' v rv => p H' e (w'.up u) v (Rep.up u _ _ rv)
end
end Dz

set_option Elab.async false
set_option linter.all false
set_option maxRecDepth 100000
set_option maxHeartbeats 2000000
namespace Dz
open PySem PySem.Spec PyProof.Rows L2 LamX

/-! ### lambdas that are values -/
/-- a lambda's names: its own parameter alone; else captured ones and globals -/
structure LamD (N : List Str) (sc scope : Scope) (x : Option Str) : Prop where
  kind : scope.kind = .function
  co : scope.isCoroutine = false
  gen : scope.isGenerator = false
  own : ∀ y ∈ scope.names, (y.2 = .local → x = some y.1) ∧ y.2 ≠ .cell
  free : ∀ y ∈ scope.names, y.2 = .free → sc.names.lookup y.1 = some .cell ∨ sc.names.lookup y.1 = some .free
  par : ∀ a, x = some a → a ∉ N ∧ scope.names.lookup a = some .local
theorem lamD_by {N : List Str} {sc scope : Scope} {x : Option Str} (h : lamDB N sc scope x = true) : LamD N sc scope x := by
  unfold lamDB at h
  simp only [Bool.and_eq_true, Bool.or_eq_true, Bool.not_eq_true', decide_eq_true_eq, decide_eq_false_iff_not, List.all_eq_true] at h
  obtain ⟨⟨⟨⟨h1, h2⟩, h3⟩, h4⟩, h5⟩ := h
  refine ⟨h1, h2, h3, fun y hy => ⟨fun z => ?_, (h4 y hy).1.2⟩, fun y hy e => ?_, fun a ea => ?_⟩
  · rcases (h4 y hy).1.1 with q | q
    · exact absurd z q
    · exact q
  · rcases (h4 y hy).2 with (z | z) | z
    · exact absurd e z
    · exact .inl z
    · exact .inr z
  · subst ea
    simp only [Bool.and_eq_true, Bool.not_eq_true', decide_eq_true_eq, decide_eq_false_iff_not] at h5
    exact h5
/-- the parameters of such a lambda -/
def ParOk (x : Option Str) (p : Arguments) : Prop := match x with
  | none => p = ⟨[], [], none, [], [], none, []⟩
  | some a => ∃ an ps k q, p = ⟨[], [⟨a, an, ps⟩], none, [], [], none, [.Constant (.int 0) k q]⟩
theorem par_by {p : Arguments} {x : Option Str} (h : lamP p = some x) : ParOk x p := by
  obtain ⟨a, b, c, d, e, f, g⟩ := p
  unfold lamP at h
  simp only at h
  split at h
  · rename_i hh
    simp only [Bool.and_eq_true, List.isEmpty_iff, Option.isNone_iff_eq_none] at hh
    obtain ⟨⟨⟨⟨rfl, rfl⟩, rfl⟩, rfl⟩, rfl⟩ := hh
    split at h
    · cases h
      rfl
    · rename_i ar k q
      cases h
      cases ar with
      | mk a1 a2 a3 => exact ⟨a2, a3, k, q, rfl⟩
    · cases h
  · cases h
def defV : Option Addr → Value
  | none => .none
  | some a => .ref a
def bndV (x : Option Str) (u : Value) : List (Str × Value) := match x with
  | none => []
  | some a => [(a, u)]
/-- what is looked at of a lambda's text: its body's form, in a def of the scope sc -/
structure LamT (ok : Option Str → E → Arguments → Expr → Scope → Prop) (N : List Str) (sc : Scope) : Prop where
  s : ∀ {x e params body scope}, ok x e params body scope → LamD N sc scope x
  p : ∀ {x e params body scope}, ok x e params body scope → ParOk x params
abbrev lamO (q : Str) (params : Arguments) (body : Expr) (scope : Scope) (clos : List (Str × Addr)) (dV doc pm : Value) (c' : Addr) (ctv : Value) : Obj := PySem.W.kdv_obj "<lambda>" q params (.expr body) scope clos dV doc pm c' ctv
/-- the object at f is a lambda of the text e -/
def CloO (ok : Option Str → E → Arguments → Expr → Scope → Prop) (q : Str) (cells : List (Str × Addr)) (e : E) (f c' : Addr) (t : Option Addr) : HO := .ext fun h => ∃ (x : Option Str) (params : Arguments) (body : Expr) (scope : Scope) (pm ctv doc : Value), ok x e params body scope ∧ x.isSome = t.isSome ∧
  h.get? f = some (lamO q params body scope (cloFrom cells scope.names []) (defV t) doc pm c' ctv)
section
variable {X : Cx} {pins : List (Addr × Obj)} {σ : L2.St} {H : Hp} {s : Shared} {ok : Option Str → E → Arguments → Expr → Scope → Prop} {e : E} {q : Str}
theorem inv_clo {x : Option Str} {t : Option Addr} {cells : List (Str × Addr)} {params : Arguments} {body : Expr} {scope : Scope} {pm ctv doc : Value} {c' : Addr} {t' : Nat} (I : Inv X pins σ H s) (hk : ok x e params body scope) (hx : x.isSome = t.isSome) :
    Inv X pins σ (upd H s.heap.objs.size (CloO ok q cells e s.heap.objs.size c' t)) { s with heap := s.heap.push (lamO q params body scope (cloFrom cells scope.names []) (defV t) doc pm c' ctv), toks := t' } := by
  refine I.laid (a := s.heap.objs.size) (fun b u e => Heap.get?_push_of_some _ e) (Nat.le_refl _) ?_
  have z : (s.heap.push (lamO q params body scope (cloFrom cells scope.names []) (defV t) doc pm c' ctv)).get? s.heap.objs.size = some (lamO q params body scope (cloFrom cells scope.names []) (defV t) doc pm c' ctv) := Heap.get?_push_size _ rfl
  exact ⟨⟨x, params, body, scope, pm, ctv, doc, hk, hx, z⟩, ⟨_, z⟩, fun h1 h2 ⟨x', pa, bo, sc, p, c, d, k, kx, y⟩ st => ⟨x', pa, bo, sc, p, c, d, k, kx, st _ y⟩⟩
/-- the reading of a lambda: its object is known from now on -/
def tLamX (P : Addr) (q : Str) (ho : Addr → Addr → Option Addr → HO) : TE := fun σ H Q => ∃ ps : Array Value, H P = some (.tbl ps) ∧ TriplesOk ps.toList ∧ (∀ (pos : Pos) (cv : Value), codeAmong pos ps.toList = some cv → ∃ c, cv = .ref c ∧ H c = some (CodeO c q)) ∧
  ∀ (f c' : Addr) (t : Option Addr) (ps1 : Array Value) (H1 : Hp), (∀ b o, b ≠ P → H b = some o → H1 b = some o) → H1 P = some (.tbl ps1) → TriplesOk ps1.toList →
    (∀ (pos : Pos) (cv : Value), codeAmong pos ps1.toList = some cv → (∃ pos' : Pos, codeAmong pos' ps.toList = some cv) ∨ (cv = .ref c' ∧ H c' = none)) → H f = none → H1 f = some (ho f c' t) → H1 c' = some (CodeO c' q) → (H c' = none ∨ ∃ pos' : Pos, codeAmong pos' ps.toList = some (.ref c')) →
    (∀ a, t = some a → H a = none ∧ H1 a = some (.tup [.int 0])) → Q (.ref f) H1
theorem LamD.has {N : List Str} {x : Option Str} {scope : Scope} (L : LamD N X.env.scope scope x) (ok : X.Ok) : ∀ y ∈ scope.names, y.2 = .free → ∃ c, X.env.cells.lookup y.1 = some c := fun y hy e => by
  rcases L.free y hy e with k | k
  · exact ok.has _ (.inl k)
  · exact ok.has _ (.inr k)
/-- the making behind the defaults -/
theorem lam_tail {x : Option Str} {t : Option Addr} {c P : Addr} {params : Arguments} {body : Expr} {scope : Scope} {pos : Pos} {N : List Str} {E : Value → Shared → Prop} {Q : VK} {H0 : Hp} (L : LamT ok N X.env.scope) (TB : TabB X.base X.mg c P) (hcode : X.env.code = .ref c) (hk : ok x e params body scope) (hx : x.isSome = t.isSome)
    (I : Inv X pins σ H s) (hH : ∀ b, H0 b ≠ none → H b = H0 b) (h0 : ∀ b, H b = none → H0 b = none) (ht0 : ∀ a, t = some a → H0 a = none ∧ H a = some (.tup [.int 0])) (h : tLamX P (X.env.qual ++ "<lambda>") (CloO ok (X.env.qual ++ "<lambda>") X.env.cells e) σ H0 Q) :
    wpAny (model X.prog X.w) X.A (makeTail "<lambda>" (X.env.qual ++ "<lambda>") params (.expr body) scope X.env (defV t) .none none pos pos.line) (EP X pins σ Q) E s := by
  obtain ⟨ps, hP0, ht, ha, h⟩ := h
  have keep : ∀ b o, H0 b = some o → H b = some o := fun b o e => by rw [hH b (by rw [e]; simp)]; exact e
  have hP : H P = some (.tbl ps) := keep _ _ hP0
  have ha' : ∀ (pos : Pos) (cv : Value), codeAmong pos ps.toList = some cv → ∃ c, cv = .ref c ∧ H c = some (CodeO c (X.env.qual ++ "<lambda>")) := fun pos cv e => by
    obtain ⟨c, e1, e2⟩ := ha pos cv e
    exact ⟨c, e1, keep _ _ e2⟩
  have hfree := (L.s hk).has I.ok
  have bP : s.heap.BuiltinsAt X.mg P := TB.bm.keeps I.bk
  have hP' : s.heap.get? P = some { cls := .none, data := .fields ps } := I.hok P _ hP
  cases hc : codeAmong pos ps.toList with
  | none =>
    refine PySem.W.kdv_makeTail (mg := X.mg) (c := c) (P := P) (ps := ps) (closure_ok hfree) I.ok.glob (I.mod.glob.keeps I.bk) hcode (TB.code.keeps I.bk) hP' ht hc TB.gP bP fun c' ctv doc h' tk hx2 hge hlt hrec htb => ?_
    obtain ⟨c2, oc, vs, tt, e2, hoc, hd, hv⟩ := hrec
    cases e2
    have nC : H c' = none := I.hok.fresh hge
    have I1 := inv_table (t' := tk) (more := #[rawInt pos.line, rawInt pos.col, .ref c']) (h' := h') I hP (fun b o hb e => hx2 b o hb e) htb hge ⟨oc, vs, tt, hoc, hd, hv⟩
    have nF := I1.hok.fresh (Nat.le_refl _)
    have I2 := inv_clo (q := X.env.qual ++ "<lambda>") (cells := X.env.cells) (c' := c') (t' := tk) (t := t) (pm := (X.mg "__name__").getD .none) (ctv := ctv) (doc := doc) I1 hk hx
    have eL : (ps ++ #[rawInt pos.line, rawInt pos.col, .ref c']).toList = ps.toList ++ [rawInt pos.line, rawInt pos.col, .ref c'] := by simp
    have keep1 : ∀ b o, b ≠ P → H b = some o → (upd (upd H P (.tbl (ps ++ #[rawInt pos.line, rawInt pos.col, .ref c']))) c' (CodeO c' (X.env.qual ++ "<lambda>"))) b = some o := fun b o n e => by
      rw [upd_ne (ne_of_none e nC), upd_ne n]
      exact e
    have nF2 : H h'.objs.size = none := I.hok.fresh (Nat.le_trans hge (Nat.le_of_lt hlt))
    have keep2 : ∀ b o, b ≠ P → H b = some o → (upd (upd (upd H P (.tbl (ps ++ #[rawInt pos.line, rawInt pos.col, .ref c']))) c' (CodeO c' (X.env.qual ++ "<lambda>"))) h'.objs.size (CloO ok (X.env.qual ++ "<lambda>") X.env.cells e h'.objs.size c' t)) b = some o := fun b o n e => by
      rw [upd_ne (ne_of_none e nF2)]
      exact keep1 b o n e
    refine ⟨.ref h'.objs.size, _, I2, rfl, h h'.objs.size c' t (ps ++ #[rawInt pos.line, rawInt pos.col, .ref c']) _ (fun b o n e => keep2 b o n (keep b o e)) ?_ (by rw [eL]; exact PySem.TriplesOk_snoc _ _ _ _ ht) (fun p' cv hcv => ?_) (h0 _ nF2) upd_same ?_ (.inl (h0 _ nC)) fun a ea => ⟨(ht0 a ea).1, keep2 a _ (fun z => ?_) (ht0 a ea).2⟩⟩
    · rw [upd_ne (ne_of_none hP nF2), upd_ne (ne_of_none hP nC), upd_same]
    · rw [eL] at hcv
      rcases among_app _ ht hcv with z | z
      · exact .inl ⟨p', z⟩
      · exact .inr ⟨z, h0 _ nC⟩
    · exact (upd_ne (Nat.ne_of_lt hlt)).trans upd_same
    · have := (ht0 a ea).1
      rw [z, hP0] at this
      cases this
  | some cv =>
    obtain ⟨c', e0, hco⟩ := ha' pos cv hc
    subst e0
    refine PySem.W.kdv_makeTailHit (mg := X.mg) (c := c) (P := P) (ps := ps) (closure_ok hfree) I.ok.glob (I.mod.glob.keeps I.bk) hcode (TB.code.keeps I.bk) hP' ht hc bP fun ctv doc h' tk hx2 hsz => ?_
    have I1 : Inv X pins σ H { s with heap := h', toks := tk } := I.kept hx2
    have nF : H h'.objs.size = none := I1.hok.fresh (Nat.le_refl _)
    have I2 := inv_clo (q := X.env.qual ++ "<lambda>") (cells := X.env.cells) (c' := c') (t' := tk) (t := t) (pm := (X.mg "__name__").getD .none) (ctv := ctv) (doc := doc) I1 hk hx
    have keep2 : ∀ b o, H b = some o → (upd H h'.objs.size (CloO ok (X.env.qual ++ "<lambda>") X.env.cells e h'.objs.size c' t)) b = some o := fun b o e => by
      rw [upd_ne (ne_of_none e nF)]
      exact e
    exact ⟨.ref h'.objs.size, _, I2, rfl, h h'.objs.size c' t ps _ (fun b o n e => keep2 b o (keep b o e)) (keep2 _ _ hP) ht (fun p' cv hcv => .inl ⟨p', hcv⟩) (h0 _ nF) upd_same (keep2 _ _ hco) (.inr ⟨pos, hc⟩) fun a ea => ⟨(ht0 a ea).1, keep2 a _ (ht0 a ea).2⟩⟩
theorem pe_lamX {x : Option Str} {c P : Addr} {params : Arguments} {body : Expr} {scope : Scope} {pos : Pos} {N : List Str} (L : LamT ok N X.env.scope) (TB : TabB X.base X.mg c P) (hcode : X.env.code = .ref c) (hk : ok x e params body scope) :
    PE X (.Lambda params body scope pos) (tLamX P (X.env.qual ++ "<lambda>") (CloO ok (X.env.qual ++ "<lambda>") X.env.cells e)) := by
  refine ⟨fun pins s σ H Q I h => ?_⟩
  have hp := L.p hk
  cases x with
  | none =>
    refine PySem.W.kla_eval (by rw [show params = _ from hp]; rfl) ?_
    rw [makeFunction_eq]
    simp only [List.zip_nil_right, List.filterMap_nil, List.isEmpty_nil, if_true, pure_bind]
    exact lam_tail (t := none) (H0 := H) L TB hcode hk rfl I (fun _ _ => rfl) (fun _ z => z) (fun a z => by cases z) h
  | some a =>
    obtain ⟨an, ap, k, q, ep⟩ := hp
    refine PySem.W.kdv_lam (by rw [ep]; rfl) (by rw [ep]) ?_
    rw [show params.defaults = [.Constant (.int 0) k q] by rw [ep]]
    refine PySem.W.kdv_all1 (thn ((pe_int (X := X) (i := 0) (j := k) (pos := q)).run pins s σ H (fun v H1 => v = .int 0 ∧ H1 = H) I ⟨rfl, rfl⟩) fun u s1 ⟨v, H1, I1, r1, q1⟩ => PySem.W.kdv_all0 ?_)
    obtain ⟨ev, eH⟩ := q1
    subst ev
    rw [eH] at I1
    rw [makeFunction_eq]
    simp only [List.zip_nil_right, List.filterMap_nil, List.isEmpty_nil, List.isEmpty_cons, Bool.false_eq_true, if_false, if_true, pure_bind]
    refine wpAny_bind (wpAny_newTextTuple ?_)
    have nT : H s1.heap.objs.size = none := I1.hok.fresh (Nat.le_refl _)
    have I2 : Inv X pins σ (upd H s1.heap.objs.size (.tup [.int 0])) { s1 with heap := s1.heap.push { cls := .type "tuple", data := .seq [u].toArray } } := by
      refine I1.laid (a := s1.heap.objs.size) (fun b u e => Heap.get?_push_of_some _ e) (Nat.le_refl _) ?_
      exact ⟨by decide, [u], .cons r1 .nil, _, Heap.get?_push_size _ rfl, rfl, _, rfl⟩
    refine lam_tail (t := some s1.heap.objs.size) (H0 := H) L TB hcode hk rfl I2 (fun b nb => upd_ne (fun z => nb (by rw [z]; exact nT))) (fun b z => ?_) (fun a ea => ?_) h
    · by_cases hb : b = s1.heap.objs.size
      · rw [hb]; exact nT
      · rwa [upd_ne hb] at z
    · cases ea
      exact ⟨nT, upd_same⟩
theorem lam_start3 {H HZ : Hp} {s1 : Shared} {x : Option Str} {u : Value} {A : Around} {outer : List PySem.Env} {E : XK} {scope : Scope} {f c' : Addr} {h₁ : Heap} {tk : Nat} (I : Inv X pins σ H s) (L : LamD X.N X.env.scope scope x) (e0 : Env0 X.prog X.w X.K X.mg X.base A outer s1 HZ) (hd : A.handled = none)
    (un : Un (frs X.stack) [] H HZ s.heap s1.heap) (hns : h₁.Ns s1.heap.objs.size fun y => (bndV x u).reverse.lookup y) (kp : ∀ b o, s1.heap.get? b = some o → h₁.get? b = some o) :
    Inv (lamCx X A outer s1 HZ E scope f c') [] σ HZ { s1 with heap := h₁, toks := tk } := by
  have hfree := L.has I.ok
  have cm : ∀ {y c}, (cloFrom X.env.cells scope.names []).lookup y = some c → X.env.cells.lookup y = some c := fun {y c} e => by
    rcases cloFrom_mem (PySem.mem_of_lookup e) with hm | ⟨h1, h2⟩
    · cases hm
    · obtain ⟨c1, hc⟩ := hfree _ h1 rfl
      have hc : X.env.cells.lookup y = some c1 := hc
      have e2 : c = c1 := by
        rw [h2, hc] <;> rfl
      rw [e2]
      exact hc
  have look : ∀ {y}, scope.names.lookup y = some .free → ∃ c, (cloFrom X.env.cells scope.names []).lookup y = some c := fun {y} hl => by
    have hy : (y, NameKind.free) ∈ scope.names := PySem.mem_of_lookup hl
    exact mem_lookup (cloFrom_has (cells := X.env.cells) (acc := []) hy)
  have cellK : ∀ {c : Addr} {v : Option Value}, H c = none → s.heap.IsCell c v → h₁.IsCell c v := fun {c v} n ⟨o, ho, hd⟩ => by
    obtain ⟨sl, q⟩ := un.any ho n (by simp)
    exact ⟨_, kp _ _ q, hd⟩
  have noA : ∀ b : Addr, b ∉ (lamCx X A outer s1 HZ E scope f c').ex := fun b z => absurd (show b ∈ ([] : List Addr) from z) (by simp)
  refine ⟨⟨e0.mod, L.kind, rfl, rfl, Nat.le_refl _, fun y z c e1 e2 => I.ok.inj y z c (cm e1) (cm e2), fun y hy => ?_, fun y c z _ => ?_, fun _ => hd, Around.frames_deeper e0.frames, .inr ⟨rfl, rfl⟩, fun b z => absurd z (noA b), e0.bs, e0.bsz, fun b _ _ => noA b,
      fun b z => absurd z (noA b), e0.funs, e0.frf⟩,
    rfl, e0.bare, Un.kept kp, ⟨_, hns, fun i y v e1 e2 e3 => ?_⟩, fun y c e => ?_, e0.hok.fresh (Nat.le_refl _), fun y c e => ?_, fun q hq => absurd (show q ∈ ([] : List (Addr × Obj)) ++ [] from hq) (by simp), e0.hok.kept kp, I.len⟩
  · have hy : scope.names.lookup y = some .cell ∨ scope.names.lookup y = some .free := hy
    rcases hy with hy | hy
    · exact absurd rfl (L.own _ (PySem.mem_of_lookup hy)).2
    · exact look hy
  · have z : false = true := z
    cases z
  · have e3 : Vis scope y := e3
    rcases e3 with k | k | k
    · have ex := (L.own _ (PySem.mem_of_lookup k)).1 rfl
      have e1 : X.N[i]? = some y := e1
      exact absurd (List.mem_of_getElem? e1) (L.par _ ex).1
    · exact absurd rfl (L.own _ (PySem.mem_of_lookup k)).2
    · obtain ⟨m, hn, hl⟩ := I.loc
      have hvis : Vis X.env.scope y := (L.free _ (PySem.mem_of_lookup k) rfl).elim (fun k => .inr (.inl k)) (fun k => .inr (.inr k))
      obtain ⟨w', r, q⟩ := hl i y v e1 e2 hvis
      obtain ⟨c2, h2⟩ := look k
      refine ⟨w', r, .inr ⟨.inr k, c2, h2, ?_⟩⟩
      have c1 := cm h2
      rcases q with ⟨k', _⟩ | ⟨_, c3, e', z⟩
      · have k' : X.env.scope.names.lookup y = some .local := k'
        rcases L.free _ (PySem.mem_of_lookup k) rfl with k2 | k2 <;> rw [show X.env.scope.names.lookup y = _ from k2] at k' <;> cases k'
      · rw [c1] at e'
        cases e'
        exact cellK (I.freeC y _ c1) z
  · obtain ⟨w', z⟩ := I.cell y c (cm e)
    exact ⟨w', cellK (I.freeC y c (cm e)) z⟩
  · obtain ⟨v, o, ho, hd⟩ := I.cell y c (cm e)
    exact un.free c o ho (I.freeC y c (cm e)) (by simp)
/-- what a lambda called with nothing binds -/
theorem lam_binds {X : Cx} {pins : List (Addr × Obj)} {σ : L2.St} {HZ : Hp} {s1 : Shared} {x : Option Str} {t : Option Addr} {q : Str} {params : Arguments} {body : Expr} {scope : Scope} {cl : List (Str × Addr)} {doc pm cdv ctv : Value} (I : Inv X pins σ HZ s1) (hp : ParOk x params) (hx : x.isSome = t.isSome) (ht : ∀ a, t = some a → HZ a = some (.tup [.int 0])) :
    ∃ u, BindsTo s1 (PySem.W.kdv_fn "<lambda>" q params (.expr body) scope cl (defV t) doc pm cdv ctv) ⟨[], []⟩ (bndV x u) := by
  cases x with
  | none =>
    cases t with
    | some a => cases hx
    | none => exact ⟨.none, BindsTo.of_eq (by rw [show params = _ from hp]; rfl)⟩
  | some a =>
    cases t with
    | none => cases hx
    | some T =>
      obtain ⟨an, ap, k, qq, rfl⟩ := hp
      obtain ⟨_, its, hv, oT, hT, _, nT, hD⟩ := I.hok T _ (ht T rfl)
      cases hv with
      | cons ru rr =>
        cases rr
        rename_i u
        refine ⟨u, BindsTo.of_defaults (T := T) rfl hT hD rfl ?_⟩
        simp [List.lookup, bndV]
/-- a(), in the def that is handed a lambda -/
theorem pe_actX {Ng : List Str} {qg : Str} {sg : Scope} {g : Addr} {cdg : Value} {k i : Nat} {a : Str} {pn : List (Addr × Obj)} {xe : Value → Shared → Prop} {W : WX} {tb : XK → E → TE} {p1 p2 : Pos}
    (L : LamT ok X.N X.env.scope) (I : Inv X pins σ H s)
    (tk : Takes ((cxOf C8.CX0 X.prog X.w X.K X.mg X.base Ng qg sg g cdg X.A X.stack s H C8.E0).tr pn xe) W) (hr : Room (k + 1) (X.A.deeper (envOfC qg sg s.heap.objs.size g cdg)))
    (hbody : ∀ (x : Option Str) (e : E) (params : Arguments) (body : Expr) (scope : Scope), ok x e params body scope → ∀ (A : Around) (outer : List PySem.Env) (s : Shared) (H : Hp) (E0 : XK) (f c' : Addr), Room k (A.deeper (lamEnv X scope s.heap.objs.size f c')) → PE (lamCx X A outer s H E0 scope f c') body (tb E0 e))
    (hN : Ng[i]? = some a) (hv : Vis sg a) (hd : (a == ("__debug__" : Str)) = false) (hcd : (a == ("__classdict__" : Str)) = false) :
    PE ((cxOf C8.CX0 X.prog X.w X.K X.mg X.base Ng qg sg g cdg X.A X.stack s H C8.E0).tr pn xe) (.Call (.Name a p1) [] [] p2)
      (fun σZ HZ Q => ∃ (e : E) (f c' : Addr) (t : Option Addr) (E0 : XK), (∀ cls d H', E0 cls d H' → W cls d σZ H') ∧ σZ[i]? = some (some (.ref f)) ∧ HZ f = some (CloO ok (X.env.qual ++ "<lambda>") X.env.cells e f c' t) ∧ HZ c' = some (CodeO c' (X.env.qual ++ "<lambda>")) ∧ (∀ a, t = some a → HZ a = some (.tup [.int 0])) ∧ tb E0 e σ HZ Q) := by
  refine ⟨fun pinsZ sZ σZ HZ Q IZ h => ?_⟩
  obtain ⟨e, f, c', t, E0, hW, hs, hf, hc, htu, ht⟩ := h
  refine wpAny_Call_Name_kw (thn ((pe_var (pos := p1) (i := i) hN hv hd hcd).run pinsZ sZ σZ HZ (fun v H1 => v = .ref f ∧ H1 = HZ) IZ ⟨.ref f, hs, rfl, rfl⟩) fun u s1 ⟨v, H1, I1, r1, q1⟩ => ?_)
  obtain ⟨ev, eH⟩ := q1
  subst ev
  rw [eH] at I1
  obtain rfl : u = Value.ref f := r1
  obtain ⟨⟨x, params, body, scope, pm, ctv, doc, hk, hxt, of1⟩, _, _⟩ := I1.hok f _ hf
  have L1 := L.s hk
  refine PySem.W.callWith_F0 ⟨_, _, _, _, of1⟩ ?_
  have un : Un (frs X.stack) [] H HZ s.heap s1.heap := I1.base
  obtain ⟨⟨oc, vs, tt, hoc, hdc, hvc⟩, _, _⟩ := I1.hok c' _ hc
  obtain ⟨u, hb⟩ := lam_binds (q := X.env.qual ++ "<lambda>") (body := body) (scope := scope) (cl := cloFrom X.env.cells scope.names []) (doc := doc) (pm := pm) (cdv := .ref c') (ctv := ctv) I1 (L.p hk) hxt htu
  have rc : codeAny (model X.prog X.w) (X.A.deeper (envOfC qg sg s.heap.objs.size g cdg)) (.call (.ref f) ⟨[], []⟩) (CR (L2.CX X.prog X.w) (envOfC qg sg s.heap.objs.size g cdg :: X.stack) X.prog X.w HZ s1 Q E0) s1 := by
    refine PySem.W.kla_callFunE hr.depth of1 rfl L1.co L1.gen rfl ⟨c', oc, vs, tt, rfl, hoc, hdc, hvc⟩ (hb _ _ _ _ ?_)
    refine wpAny_newFunctionEnv (fun y hy => (L1.own y hy).2) (fun y hy => ?_) (fun h₁ hns hsb => ⟨I1.nolimit.fresh _ hsb, ?_⟩) L1.kind
    · cases x with
      | none => cases hy
      | some a =>
        have ey : y = (a, u) := List.mem_singleton.mp hy
        rw [ey]
        exact (L1.par a rfl).2
    show codeAny _ _ (.expr body (lamEnv X scope s1.heap.objs.size f c')) _ _
    have kp : ∀ b o, s1.heap.get? b = some o → h₁.get? b = some o := fun b o e => hsb.extBut b o (Nat.ne_of_lt (Heap.lt_size e)) (Heap.get?_push_of_some _ e)
    have J : Inv (lamCx X (X.A.deeper (envOfC qg sg s.heap.objs.size g cdg)) (envOfC qg sg s.heap.objs.size g cdg :: X.stack) s1 HZ E0 scope f c') [] σ HZ { s1 with heap := h₁, toks := s1.toks + (bndV x u).length } :=
      lam_start3 I L1 I1.env0 hr.hd un hns kp
    refine PySem.W.kla_codeExpr (wpAny_mono ((hbody x e params body scope hk _ _ s1 HZ E0 f c' (hr.deeper _)).run [] _ _ HZ Q J ht) (fun v s' hq => ?_) fun e s' hq => hq)
    obtain ⟨w', H', J', rv, q⟩ := hq
    exact ⟨w', H', J'.os, J'.bare, J'.base, J'.hok, rv, q⟩
  refine wpAny_call (codeAny_mono rc fun r s' hq => ?_)
  cases r with
  | error e => exact tk _ _ (XE.of_call I1 hW hq)
  | ok fl =>
    cases fl with
    | ret u => exact I1.after hq
    | next => exact False.elim hq
    | brk => exact False.elim hq
    | cont => exact False.elim hq
/-- x(a), a lambda -/
theorem pe_wrgX {x a : Str} {g : Addr} {k : Nat} {pg : Arguments} {bg : List Stmt} {sg : Scope} {dV kV doc pm cdv ct oc : Value} {an od : Option Addr} {osl : Array (Option Value)} {Ng : List Str} {ae : Expr} {ta : TE} {RW : V → L2.St → Hp → VK → Prop}
    {p pos : Pos} (hg : Gl X x) (hm : X.mg x = some (.ref g)) (hk : PySem.W.keepIn X.K (.ref g) = true)
    (lk : X.K.lookup g = some ⟨oc, od, .func (PySem.W.fnOf x x pg bg sg dV kV doc pm an cdv ct), osl⟩) (hcg : PySem.W.codeIn X.K cdv x = true) (hb : L2.Binds X.K (PySem.W.fnOf x x pg bg sg dV kV doc pm an cdv ct) [a] []) (Sg : FnScope Ng [a] sg)
    (hr : Room (k + 1) X.A) (ha : PE X ae ta) (hst : star ae = false)
    (hG : ∀ (pins : List (Addr × Obj)) (f : Addr) (s : Shared) (σ : L2.St) (H : Hp) (Q : VK), Inv X pins σ H s → Room k (X.A.deeper (envOfC x sg s.heap.objs.size g cdv)) → RW (.ref f) σ H Q →
      ∃ t, PSs (cxOf C8.CX0 X.prog X.w X.K X.mg X.base Ng x sg g cdv X.A X.stack s H C8.E0) bg t ∧ t { nx := fun _ H' => Q .non H', rt := Q } (L2.start Ng [.ref f]) H)
    (hRW : ∀ v σ H Q, RW v σ H Q → ∃ f, v = .ref f) (hdb : (x == ("__debug__" : Str)) = false) :
    PE X (.Call (.Name x p) [ae] [] pos) (fun σ H Q => ta σ H fun v H1 => RW v σ H1 Q) := by
  refine ⟨fun pins s σ H Q I h => ?_⟩
  refine wpAny_Call_Name_kw (ld_glob I hg hm ?_ hdb)
  have pa := pa_cons ha pa_nil (star_each (es := []) (env := X.env) hst)
  refine PySem.W.callWith_K (h₀ := X.base) I.ok.mod.kin hk (thn (pa.run pos pins s σ H (fun vs H1 => match vs with | [v] => RW v σ H1 Q | _ => False) I h) fun us s1 ⟨vs, H1, I1, r, q⟩ => ⟨I1.kIn, ?_⟩) (star_each hst) rfl
  have hv : ∃ v, vs = [v] := by
    match vs, q with
    | [v], _ => exact ⟨v, rfl⟩
  obtain ⟨v, rfl⟩ := hv
  · obtain ⟨f, rfl⟩ := hRW _ _ _ _ q
    have rc : codeAny (model X.prog X.w) X.A (.call (.ref g) ⟨us, []⟩) (CR C8.CX0 X.stack X.prog X.w H1 s1 Q C8.E0) s1 := by
      refine run_ofS (N := Ng) (ps := [a]) (us := us) (vs := [.ref f]) lk hcg Sg hr I1.env0 ?_ r rfl fun hr' => ?_
      · have hb' := hb s1 us I1.kIn (by rw [List.append_nil, ← r.length]; rfl)
        rw [List.append_nil] at hb'
        exact hb'
      · exact hG pins f s1 σ H1 Q I1 hr' q
    refine wpAny_call (codeAny_mono rc fun r s2 hq => ?_)
    cases r with
    | error e => exact (show False from hq).elim
    | ok fl =>
      cases fl with
      | ret u => exact I1.after hq
      | next => exact False.elim hq
      | brk => exact False.elim hq
      | cont => exact False.elim hq
end
end Dz

set_option Elab.async false
set_option linter.all false
set_option maxRecDepth 100000
set_option maxHeartbeats 4000000
namespace Dz
open PySem PySem.Spec PyProof.Rows L2 LamX

/-! ### the suite of an except -/
def cH : Nat → Kc → Scope → Expr → Option E
  | 0, _, _, _ => none
  | n + 1, k, sc, e => match e with
    | .Constant c _ _ => constC c
    | .Name x _ => if visB sc x && plainN x then (slotF x k.N 0).map .var else none
    | .IfExp c a b _ => (match cH n k sc c, cH n k sc a, cH n k sc b with
      | some c', some a', some b' => if truthy1 c && !isLogic c' then some (.ite c' a' b') else (match c with
        | .Compare a1 [o] [b1] _ => (match cH n k sc a1, cH n k sc b1, isSet b1 with | some a2, some b2, false => some (.ite (.cmp (copC o) a2 b2) a' b') | _, _, _ => none)
        | _ => none)
      | _, _, _ => none)
    | .Compare a [o] [b] _ => (match cH n k sc a, cH n k sc b, isSet b with | some a', some b', false => some (.cmp (copC o) a' b') | _, _, _ => none)
    | .List es _ => (mapE (cH n k sc) es).map .lst
    | .Subscript a b _ => (match cH n k sc a, cH n k sc b, isSlice b with | some a', some b', false => some (.sub a' b') | _, _, _ => none)
    | .Call (.Name x _) [a, .Name t _] [] _ => (match cH n k sc a, k.exs.lookup t with
      | some a', some c => if x = "isinstance" ∧ globB sc x = true ∧ globB sc t = true ∧ plainN t = true then some (.ise a' c) else none
      | _, _ => none)
    | .Call (.Attribute o m apos) [e] [] pos => (match cH n k sc o, cH n k sc e, lmoC m with
      | some o', some e', some t => if (apos.endLine == pos.line) && !isCall o then some (.lms t o' e') else none
      | _, _, _ => none)
    | _ => none
def cHs (k : Kc) (sc : Scope) : List Stmt → Option Ss
  | [] => some .nil
  | .Return (some e) _ :: ss => (match cH 20 k sc e, cHs k sc ss with | some e', some ss' => some (.cons (.ret e') ss') | _, _ => none)
  | .Assign [.Name x _] e _ :: ss => (match cH 20 k sc e, cHs k sc ss, locB sc x, slotF x k.N 0, isComp e with
    | some e', some ss', true, some i, false => some (.cons (.asg (.nm i) e') ss')
    | _, _, _, _, _ => none)
  | _ => none
structure Hok (Y : Tb) (k : Kc) (sc : Scope) (X : Cx) : Prop where
  hK : X.K = Y.K
  hN : X.N = k.N
  nd : k.N.Nodup
  sc : X.env.scope = sc
  hu : X.A.units + 64 < cLine
  isi : X.mg "isinstance" = none
  exs : ∀ x n, k.exs.lookup x = some n → X.mg x = some (.ref (Y.ec n))
  ise : ∀ a n, Y.hot = some (a, n) → CallR X (.builtin "isinstance") (rIsE X.K (Y.ec n) a)
  fnT : ∀ x, X.fn x = true
section
variable {Y : Tb} {C : Tc} {k : Kc} {sc : Scope} {X : Cx} {EX : XK}
theorem cH_star : ∀ {n : Nat} {e : Expr} {m : E}, cH n k sc e = some m → star e = false
  | 0, e, m, h => by simp [cH] at h
  | n + 1, e, m, h => by
    cases e <;> first | rfl | skip
    simp [cH] at h
theorem h_glob (c : Hok Y k sc X) {x : Str} (h : globB sc x = true) : Gl X x := by
  unfold globB at h
  show X.env.scope.names.lookup x = some .globalImplicit
  rw [c.sc]
  split at h
  · assumption
  · cases h
theorem h_cop (c : Hok Y k sc X) (op : CmpOp) : OpR X (compareOp op) (cmpR Y.K (copC op)) := by
  rw [← c.hK]
  cases op
  · exact op_eq.or (op_eqD c.hu)
  · exact op_ne.or (op_neD c.hu)
  · exact op_lt
  · exact op_le
  · exact op_gt
  · exact op_ge
  · exact op_isN.or op_isBl
  · exact op_notN.or op_notBl
  · exact op_in_seq.or op_in_sign
  · exact op_notIn_seq.or op_notIn_sign
theorem ise_rule (c : Hok Y k sc X) (n : Nat) : CallR X (.builtin "isinstance") (rIseY Y n) := fun pins s σ H xs us Q I r h => by
  obtain ⟨a, k', b, hh, rfl, kk, q⟩ := h
  rw [← c.hK] at kk
  exact c.ise a k' hh pins s σ H _ us Q I r ⟨_, _, b, rfl, fun u r => r, kk, q⟩
theorem cH_ok (c : Hok Y k sc X) : ∀ (n : Nat) (e : Expr) (m : E), cH n k sc e = some m → PE X e (rdE Y C EX m)
  | 0, e, m, h => by simp [cH] at h
  | n + 1, e, m, h => by
    have ih := cH_ok c n
    have hf : PEc Y C EX X (cH n k sc) := fun e m h => ⟨ih e m h, cH_star h⟩
    simp only [cH] at h
    split at h
    · rename_i cc kk p
      unfold constC at h
      split at h <;> first | (cases h; simp only [rdE, cstV]) | cases h
      · exact pe_int
      · exact pe_bl
      · exact pe_non
      · exact pe_str
    · rename_i x p
      split at h
      · rename_i hv
        rw [Bool.and_eq_true] at hv
        cases e1 : slotF x k.N 0 with
        | none => simp [e1] at h
        | some i =>
          simp only [e1, Option.map_some, Option.some.injEq] at h
          subst h
          simp only [rdE]
          refine pe_var (by rw [c.hN]; exact slot_at e1) ?_ (plain_of hv.2).1 (plain_of hv.2).2
          rw [c.sc]
          exact vis_of hv.1
      · cases h
    · rename_i cc a b p
      split at h
      · rename_i c' a' b' e1 e2 e3
        split at h
        · rename_i hc
          cases h
          rw [Bool.and_eq_true, Bool.not_eq_true'] at hc
          simp only [rdE]
          refine pe_ifExp ?_ (ih _ _ e2) (ih _ _ e3)
          rw [rdT_of hc.2]
          exact pt_val (ih _ _ e1) (val_true hc.1)
        · split at h
          · split at h
            · rename_i a2 b2 q1 q2 q3
              cases h
              simp only [rdE, rdT]
              exact pe_ifExp (pt_cmpR (h_cop c _) (ih _ _ q1) (ih _ _ q2) (mark_of _ q3)) (ih _ _ e2) (ih _ _ e3)
            · cases h
          · cases h
      · cases h
    · split at h
      · rename_i a' b' e1 e2 e3
        cases h
        simp only [rdE]
        exact pe_cmpR (h_cop c _) (ih _ _ e1) (ih _ _ e2) (mark_of _ e3)
      · cases h
    · rename_i es p
      cases e1 : mapE (cH n k sc) es with
      | none => simp [e1] at h
      | some ms =>
        simp only [e1, Option.map_some, Option.some.injEq] at h
        subst h
        simp only [rdE]
        exact pe_lst (mapE_ok hf e1).1
    · split at h
      · rename_i a' b' e1 e2 e3
        cases h
        simp only [rdE]
        rw [← c.hK]
        exact pe_ix (sub_ok' (by have := c.hu; omega)) (ih _ _ e1) (ih _ _ e2) (plain_ix e3)
      · cases h
    · rename_i x p a t pt pos
      split at h
      · rename_i a' cn e1 e2
        split at h
        · rename_i hh
          obtain ⟨rfl, h1, h2, h3⟩ := hh
          cases h
          simp only [rdE]
          unfold tIse
          refine pe_callB (ise_rule c cn) (h_glob c h1) c.isi (by decide +kernel) (pa_cons (ih _ _ e1) (pa_cons (pe_glob (h_glob c h2) (c.exs _ _ e2) rfl (plain_of h3).1) pa_nil) (star_each (cH_star e1))) (by decide +kernel) (by decide +kernel) (star_each (cH_star e1)) rfl
        · cases h
      · cases h
    · rename_i o m' apos e' pos
      split at h
      · rename_i o2 e2 t e3 e4 e5
        split at h
        · rename_i hh
          cases h
          rw [Bool.and_eq_true, Bool.not_eq_true'] at hh
          have po := ih _ _ e3
          have pe := ih _ _ e4
          have se := cH_star e4
          have hs : ([e'] : List Expr).all (fun e => !star e) = true := by rw [List.all_cons, se]; rfl
          have few := few_of (pos := pos) (env := X.env) hs (show 1 < 29 by decide)
          simp only [rdE]
          rw [← c.hK]
          unfold lmoC at e5
          split at e5
          · rename_i ex; subst ex; cases e5
            exact pe_bm PySem.F.plainAttrs_list PySem.F.slot_list_index PySem.F.type_list_index mt_index po (pa_cons pe pa_nil (star_each se)) (abase_of hh.2) few hh.1 (star_each se) rfl
          split at e5
          · rename_i ex; subst ex; cases e5
            exact pe_bm PySem.F.plainAttrs_list PySem.F.slot_list_count PySem.F.type_list_count mt_cntV po (pa_cons pe pa_nil (star_each se)) (abase_of hh.2) few hh.1 (star_each se) rfl
          cases e5
        · cases h
      · cases h
    · cases h
theorem cHs_ok (c : Hok Y k sc X) : ∀ (ss : List Stmt) (m : Ss), cHs k sc ss = some m → PSs X ss (rdSs Y C EX m)
  | [], m, h => by
    simp only [cHs, Option.some.injEq] at h
    subst h
    simp only [rdSs]
    exact pss_nil
  | s :: ss, m, h => by
    unfold cHs at h
    split at h
    · cases ‹_ = []›
    · rename_i e p ss2 heq
      cases heq
      split at h
      · rename_i e' ss' e1 e2
        cases h
        simp only [rdSs, rdS]
        exact pss_cons (ps_ret (cH_ok c _ _ _ e1)) (cHs_ok c ss ss' e2)
      · cases h
    · rename_i x px e pos ss2 heq
      cases heq
      split at h
      · rename_i e' ss' i e1 e2 e3 e4 e5
        cases h
        simp only [rdSs, rdS, rdG]
        exact pss_cons (ps_set (by rw [c.hN]; exact c.nd) (by rw [c.hN]; exact slot_at e4) (by rw [c.sc]; exact loc_of e3) (cH_ok c _ _ _ e1) (noswap e5) (.inl (c.fnT x))) (cHs_ok c ss ss' e2)
      · cases h
    · cases h
end
end Dz

set_option Elab.async false
set_option linter.all false
set_option maxRecDepth 100000
set_option maxHeartbeats 4000000
namespace Dz
open PySem PySem.Spec PyProof.Rows L2 LamX

/-! ### a law that hands lambdas to a def that tries them -/
structure Wd where
  d : He.DefD
  N : List Str
  a : Str
  wi : Nat
  wn : Str
  cn : Str
  ci : Nat
  su : Ss
  c : Cst
structure Lx where
  L : Lw
  e : Ent
  W : Wd
def Lx.kx (X : Lx) : Kc := { X.L.kc X.e with wrs := [(X.W.d.name, 0)], lam := true, cls := [], mts := [] }
def Lx.kw (X : Lx) : Kc := { N := X.W.N, exs := (X.L.kc X.e).exs }
def wdC (k : Kc) (sc : Scope) (W : Wd) : List Stmt → Option (Ss × Cst)
  | [.Try [.Expr (.Call (.Name a _) [] [] _) _] [.ExceptHandler (some (.Name x _)) (some n) (b₀ :: suite) _] [] [] _, .Return (some (.Constant c _ _)) _] =>
    if a = W.a ∧ x = W.cn ∧ n = W.wn then (match cHs k sc (b₀ :: suite), constC c with
      | some s, some (.cst d) => some (s, d)
      | _, _ => none) else none
  | _ => none
structure WdOk (X : Lx) : Prop where
  scope : FnScope X.W.N [X.W.a] X.W.d.scope
  code : wdC X.kw X.W.d.scope X.W X.W.d.body = some (X.W.su, X.W.c)
  dfl : X.W.d.dfl = []
  bind : ∀ (kV doc pm : Value) (an : Option Addr) (cdv ct : Value) (us : List Value), us.length = [X.W.a].length → bindArgs (PySem.W.fnOf X.W.d.name X.W.d.qual X.W.d.params X.W.d.body X.W.d.scope .none kV doc pm an cdv ct) ⟨us, []⟩ = pure ([X.W.a].zip us)
  at_ : X.W.d.at_ = (X.W.d.name, none)
  qual : X.W.d.qual = X.W.d.name
  i0 : X.W.N[0]? = some X.W.a
  wi : X.W.N[X.W.wi]? = some X.W.wn
  va : visB X.W.d.scope X.W.a = true
  pa : plainN X.W.a = true
  loc : X.W.d.scope.names.lookup X.W.wn = some .local
  gc : globB X.W.d.scope X.W.cn = true
  pc : plainN X.W.cn = true
  ci : X.L.excs[X.W.ci]? = some X.W.cn
def Lx.sub (X : Lx) (k c : Nat) : Option Bool := if k < X.L.excs.length ∧ c < X.L.excs.length then some ((k == c) || (c == X.W.ci)) else none
def Lx.C0 (X : Lx) : Tc := { φ := fun _ _ _ => .bad, ar := fun _ => 0, gd := X.L.gd, fo := fun _ _ => false, sub := X.sub }
def Lx.resD (X : Lx) (k : Nat) : Option D := if k < X.L.excs.length then (match execs X.C0 X.W.su ((List.replicate X.W.N.length none).set X.W.wi (some (.exv k))) [] with
  | .rt d _ => (match flat d with | some _ => some d | none => none)
  | _ => none) else none
def Lx.wres (X : Lx) : R D → R D
  | .ok _ S => .ok (cstD X.W.c) S
  | .exc k S => (match X.resD k with | some d => .ok d S | none => .bad)
  | .bad => .bad
/-- in a lambda: no lambdas, no tries -/
def Lx.Cb (X : Lx) (n : Nat) : Tc := { φ := fun id ds S => whenR (ncs ds && ncS S) (X.L.phi n id ds S), ar := X.L.ar, gd := X.L.gd, fo := X.L.fo, sub := fun _ _ => none }
def lamR (e : E) (S : Sto) : R D := match S with
  | .tab :: _ => .ok (.clo e) S
  | _ => .bad
def Lx.C (X : Lx) (n : Nat) : Tc := { X.Cb n with
  lam := lamR
  wrg := fun _ d ρ S => match d with
    | .clo e => X.wres (ev (X.Cb n) e ρ S)
    | _ => .bad }
def Lx.phi (X : Lx) (n : Nat) (ds : List D) (S : Sto) : R D := run (X.C n) X.e.N.length X.e.b ds S
/-- what is looked at of the law's text -/
structure LxOk (X : Lx) : Prop where
  O : LOk X.L
  w : WdOk X
  scope : FnScope X.e.N X.e.ps X.e.d.scope
  code : cSs X.kx X.e.d.scope X.e.d.body = some X.e.b
  dfl : X.e.d.dfl = []
  bind : ∀ (kV doc pm : Value) (an : Option Addr) (cdv ct : Value) (us : List Value), us.length = X.e.ps.length → bindArgs (PySem.W.fnOf X.e.d.name X.e.d.qual X.e.d.params X.e.d.body X.e.d.scope .none kV doc pm an cdv ct) ⟨us, []⟩ = pure (X.e.ps.zip us)
  at_ : X.e.d.at_ = (("law" : Str), none)
  name : X.e.d.name = "law"
  qual : X.e.d.qual = "law"
/-! facts of the heap -/
def excB (K : PySem.W.Frag) (D : Addr) : Bool := He.eqO (PySem.W.findIn K (.ref D) "__getattribute__") (some (some (.builtin "BaseException.__getattribute__"))) && (He.eqO (PySem.W.findIn K (.ref D) "__getattr__") (some none)
  && (decide (PySem.W.subIn K (.ref D) (.type "BaseException") = some true) && (PySem.W.hasDictIn K D && (He.eqO (PySem.W.findIn K (.ref D) "__class__") (some (some (.builtin "object.__class__")))
  && (He.eqO (PySem.W.specialIn K (.builtin "object.__class__") "__get__") (some (some (.builtin "getset_descriptor.__get__"))) && (decide (PySem.W.takesIn K (.builtin "object.__class__") = some true) && decide (PySem.W.mroIn K D (.type "object") = some true)))))))
theorem excB_ok {K : PySem.W.Frag} {D : Addr} (h : excB K D = true) : ExcC K D := by
  unfold excB at h
  obtain ⟨h1, h⟩ := He.ba h
  obtain ⟨h2, h⟩ := He.ba h
  obtain ⟨h3, h⟩ := He.ba h
  obtain ⟨h4, h⟩ := He.ba h
  obtain ⟨h5, h⟩ := He.ba h
  obtain ⟨h6, h⟩ := He.ba h
  obtain ⟨h7, h8⟩ := He.ba h
  exact ⟨He.eqO_ok h1, He.eqO_ok h2, of_decide_eq_true h3, h4, He.eqO_ok h5, He.eqO_ok h6, of_decide_eq_true h7, of_decide_eq_true h8⟩
def pairsB (X : Lx) (K : PySem.W.Frag) : Bool := (List.range X.L.excs.length).all fun k => (List.range X.L.excs.length).all fun c =>
  decide (PySem.W.kitOne K (.ref ((X.L.Y K).ec k)) (.ref ((X.L.Y K).ec c)) = some ((k == c) || (c == X.W.ci)))
def Lx.ex (X : Lx) (K : PySem.W.Frag) : Bool := X.L.ex K && (pairsB X K && (List.range X.L.excs.length).all fun k => excB K ((X.L.Y K).ec k) && decide (PySem.W.exmOne K (.ref ((X.L.Y K).ec k)) (.ref ((X.L.Y K).ec X.W.ci)) = some true))
def Lx.fa (X : Lx) : List He.Fa := X.L.fa ++ [.glo X.W.d.name, .glo X.e.d.name]
def Lx.fn (X : Lx) : List He.DefD := X.L.fn ++ [X.W.d, X.e.d]

section
variable {Y Y' : Tb} {C C' : Tc}
theorem tb_up (T : TbOk Y C) (u : Up Y Y') (hg : C'.gd = C.gd) (hf : ∀ c f, C'.fo c f = true → C.fo c f = true) (h1 : ∀ e EX ρ S, GE Y' EX (Y'.rl e) ρ S (C'.lam e S))
    (h2 : ∀ id EX ρ S d (A : Addr → Prop) (M : List Addr) (σ : SV) (H : Hp) v, RepE Y' A M H ρ σ → Wf Y' A M S H → Rep Y' (Avd A M) M H d v → ∀ Q : VK, P Y' EX A M H (C'.wrg id d ρ S) (fun d _ H' => ∀ v, Rep Y' (Avd A M) M H' d v → Q v H') → Y'.rw id EX v σ H Q)
    (h3 : ∀ k c b, C'.sub k c = some b → PySem.W.kitOne Y'.K (.ref (Y'.ec k)) (.ref (Y'.ec c)) = some b) : TbOk Y' C' :=
  ⟨fun i B ml H => by rw [hg, u.gv]; exact Rep.up u _ _ (T.glo i B ml H), fun c f h => by rw [u.K, u.Cs]; exact T.fld c f (hf c f h), h1, h2, h3⟩
/-- where all stays, the cells stay -/
theorem Wf.stay {A : Addr → Prop} {M : List Addr} {S : Sto} {H H' : Hp} (w : Wf Y A M S H) (e : Ext [] H H') : Wf Y A M S H' := by
  have k : ∀ a o, H a = some o → H' a = some o := fun a o h => e a o (fun z => nomatch z) h
  refine ⟨w.len, w.nd, fun a ha z => ?_, w.dj, fun i a c e1 e2 => (w.cell i a c e1 e2).move (fun u e => k a u e) fun b u n e => ⟨k b u e, n⟩⟩
  cases q : H a with
  | none => exact w.tr a ha q
  | some u => rw [k a u q] at z; cases z
theorem Ext.of0 {M : List Addr} {H H' : Hp} (e : Ext [] H H') : Ext M H H' := fun a o _ h => e a o (fun z => nomatch z) h
end
section
variable {X : Lx} {K : PySem.W.Frag}
theorem ex_L (h : X.ex K = true) : X.L.ex K = true := (He.ba h).1
theorem ex_sub (h : X.ex K = true) {k c : Nat} {b : Bool} (e : X.sub k c = some b) : PySem.W.kitOne K (.ref ((X.L.Y K).ec k)) (.ref ((X.L.Y K).ec c)) = some b := by
  have h1 := (He.ba (He.ba h).2).1
  unfold Lx.sub at e
  split at e
  · rename_i hh
    cases e
    have h2 := List.all_eq_true.mp h1 k (List.mem_range.mpr hh.1)
    have h3 := List.all_eq_true.mp h2 c (List.mem_range.mpr hh.2)
    exact of_decide_eq_true h3
  · cases e
theorem ex_exc (h : X.ex K = true) {k : Nat} (hk : k < X.L.excs.length) : ExcC K ((X.L.Y K).ec k) ∧ PySem.W.exmOne K (.ref ((X.L.Y K).ec k)) (.ref ((X.L.Y K).ec X.W.ci)) = some true := by
  have h1 := (He.ba (He.ba h).2).2
  have h2 := He.ba (List.all_eq_true.mp h1 k (List.mem_range.mpr hk))
  exact ⟨excB_ok h2.1, of_decide_eq_true h2.2⟩
end
end Dz

set_option Elab.async false
set_option linter.all false
set_option maxRecDepth 100000
set_option maxHeartbeats 4000000
namespace Dz
open PySem PySem.Spec PyProof.Rows L2 LamX

/-- a lambda's text, of a def of the scope sc -/
def okX (X : Lx) (sc : Scope) : Option Str → E → Arguments → Expr → Scope → Prop := fun x e params body scope => lamP params = some x ∧ lamDB X.e.N sc scope x = true ∧ ∃ n, cE n X.kx.inB scope body = some e
theorem lamT (X : Lx) (sc : Scope) : LamT (okX X sc) X.e.N sc := ⟨fun h => lamD_by h.2.1, fun h => par_by h.1⟩
def qL : Str := (("law" : Str) ++ ".<locals>.") ++ "<lambda>"
def hoX (X : Lx) (cells : List (Str × Addr)) : E → Addr → Addr → Option Addr → HO := CloO (okX X X.e.d.scope) qL cells
def Yb (X : Lx) (K : PySem.W.Frag) (cells : List (Str × Addr)) : Tb := { X.L.Y K with ho := some (hoX X cells) }
def Yh (X : Lx) (K : PySem.W.Frag) (a : Addr) (k : Nat) : Tb := { X.L.Y K with hot := some (a, k) }
def EW (X : Lx) (K : PySem.W.Frag) (Q : VK) : XK := fun cls d H => ∃ k x y, cls = .ref ((X.L.Y K).ec k) ∧ d = none ∧ X.resD k = some x ∧ flat x = some y ∧ ∀ H', Ext [] H H' → Q y H'
def rwX (X : Lx) (K : PySem.W.Frag) (n : Nat) (cells : List (Str × Addr)) : V → L2.St → Hp → VK → Prop := fun v σ H Q => ∃ e f c' t, v = .ref f ∧ H f = some (hoX X cells e f c' t) ∧ H c' = some (CodeO c' qL) ∧ (∀ a, t = some a → H a = some (.tup [.int 0])) ∧
  rdE (Yb X K cells) (X.Cb n) (EW X K Q) e σ H (fun _ H' => Q (cstV X.W.c) H')
def Yx (X : Lx) (K : PySem.W.Frag) (n : Nat) (cells : List (Str × Addr)) : Tb := { Yb X K cells with rl := fun e => tLamX (X.L.Y K).tP qL (hoX X cells e), rw := fun _ _ => rwX X K n cells }
theorem up_b (X : Lx) (K : PySem.W.Frag) (cells : List (Str × Addr)) : Up (X.L.Y K) (Yb X K cells) := ⟨rfl, rfl, rfl, rfl, rfl, rfl, .inl rfl, .inl rfl⟩
theorem up_x (X : Lx) (K : PySem.W.Frag) (n : Nat) (cells : List (Str × Addr)) : Up (X.L.Y K) (Yx X K n cells) := ⟨rfl, rfl, rfl, rfl, rfl, rfl, .inl rfl, .inl rfl⟩
theorem up_xb (X : Lx) (K : PySem.W.Frag) (n : Nat) (cells : List (Str × Addr)) : Up (Yx X K n cells) (Yb X K cells) := ⟨rfl, rfl, rfl, rfl, rfl, rfl, .inr rfl, .inl rfl⟩
theorem up_bx (X : Lx) (K : PySem.W.Frag) (n : Nat) (cells : List (Str × Addr)) : Up (Yb X K cells) (Yx X K n cells) := ⟨rfl, rfl, rfl, rfl, rfl, rfl, .inr rfl, .inl rfl⟩
theorem up_h (X : Lx) (K : PySem.W.Frag) (a : Addr) (k : Nat) : Up (X.L.Y K) (Yh X K a k) := ⟨rfl, rfl, rfl, rfl, rfl, rfl, .inl rfl, .inl rfl⟩
theorem rl_none (X : Lx) (K : PySem.W.Frag) (e : E) (EX : XK) (ρ : Env) (S : Sto) (Y : Tb) (t : TE) : GE Y EX t ρ S .bad := fun A M σ H he w Q hp => hp.elim
theorem cst_flat (c : Cst) : flat (cstD c) = some (cstV c) := by cases c <;> rfl
section
variable {X : Lx} {K : PySem.W.Frag} {n : Nat} {cells : List (Str × Addr)}
theorem tb_b (O : LOk X.L) (cf : ∀ f ∈ X.L.fa, f.ok K = true) (cx : X.ex K = true) : TbOk (Yb X K cells) (X.Cb n) :=
  tb_up (C := X.L.mkC (X.L.phi n)) (tb_ok O _ cf (ex_L cx)) (up_b X K cells) rfl (fun c f h => h) (fun e EX ρ S => rl_none X K e EX ρ S _ _) (fun id EX ρ S d A M σ H v he w r Q hp => hp.elim) (fun k c b h => by cases h)
theorem tb_h (O : LOk X.L) (cf : ∀ f ∈ X.L.fa, f.ok K = true) (cx : X.ex K = true) {a : Addr} {k : Nat} : TbOk (Yh X K a k) X.C0 :=
  tb_up (C := X.L.mkC (X.L.phi 0)) (tb_ok O _ cf (ex_L cx)) (up_h X K a k) rfl (fun c f h => by cases h) (fun e EX ρ S => rl_none X K e EX ρ S _ _) (fun id EX ρ S d A M σ H v he w r Q hp => hp.elim) (fun k c b h => ex_sub cx h)
/-- a lambda made: the table's cell tells more, its object is known -/
theorem lam_made {σ : SV} {A : Addr → Prop} {M : List Addr} {S : Sto} {H : Hp} (w : Wf (Yx X K n cells) A M (.tab :: S) H) {Q : VK} {e : E}
    (h : ∀ H', Ext M H H' → Wf (Yx X K n cells) A M (.tab :: S) H' → ∀ v, Rep (Yx X K n cells) (Avd A M) M H' (.clo e) v → Q v H') : tLamX (X.L.Y K).tP qL (hoX X cells e) σ H Q := by
  have hM : ∃ P0 M0, M = P0 :: M0 := by
    have := w.len
    cases M with
    | nil => cases this
    | cons a l => exact ⟨a, l, rfl⟩
  obtain ⟨P0, M0, rfl⟩ := hM
  obtain ⟨eP, ps, hP, ht, hc⟩ := w.cell 0 P0 .tab rfl rfl
  have eP : P0 = (X.L.Y K).tP := eP
  rw [← eP]
  refine ⟨ps, hP, ht, fun pos cv e1 => ?_, fun f c' t ps1 H1 k0 hP1 ht1 hc1 nf hf1 hc'1 hc' htu => ?_⟩
  · obtain ⟨c, e2, e3, _⟩ := hc pos cv e1
    exact ⟨c, e2, e3⟩
  · have ext : Ext (P0 :: M0) H H1 := fun b o nb hb => k0 b o (fun z => nb (by rw [z]; exact List.mem_cons_self)) hb
    have nP : P0 ∉ M0 := (List.nodup_cons.mp w.nd).1
    have kA : ∀ b o, ¬ Avd A (P0 :: M0) b → H b = some o → H1 b = some o := fun b o nb hb => k0 b o (fun z => nb (.inr (by rw [z]; exact List.mem_cons_self))) hb
    have nc' : ¬ Avd A (P0 :: M0) c' := by
      rcases hc' with z | ⟨pos', z⟩
      · exact w.fresh z
      · obtain ⟨c2, e2, _, n2⟩ := hc pos' _ z
        cases e2
        exact n2
    have w1 : Wf (Yx X K n cells) A (P0 :: M0) (.tab :: S) H1 := by
      refine ⟨w.len, w.nd, fun a ha z => ?_, w.dj, fun i a c e1 e2 => ?_⟩
      · cases q : H a with
        | none => exact w.tr a ha q
        | some u =>
          rw [k0 a u (fun z => w.dj P0 List.mem_cons_self (by rw [← z]; exact ha)) q] at z
          cases z
      · cases i with
        | zero =>
          cases e1
          cases e2
          refine ⟨eP, ps1, hP1, ht1, fun pos cv e3 => ?_⟩
          rcases hc1 pos cv e3 with ⟨pos', z⟩ | ⟨z, z2⟩
          · obtain ⟨c, e4, e5, e6⟩ := hc pos' cv z
            exact ⟨c, e4, k0 c _ (fun z => by
              rw [z, hP] at e5
              exact codeO_ne _ (Option.some.inj e5).symm) e5, e6⟩
          · exact ⟨c', z, hc'1, nc'⟩
        | succ i =>
          have r := w.cell (i + 1) a c e1 e2
          have ma : a ∈ M0 := List.mem_of_getElem? (show M0[i]? = some a from e1)
          exact r.move (fun u e => k0 a u (fun z => nP (by rw [← z]; exact ma)) e) fun b u nb e => ⟨kA b u nb e, nb⟩
    refine h H1 ext w1 _ ?_
    simp only [Rep]
    exact ⟨_, f, c', t, rfl, rfl, hf1, w.fresh nf, hc'1, nc', fun a ea => ⟨(htu a ea).2, w.fresh (htu a ea).1⟩⟩
theorem tb_x (O : LOk X.L) (cf : ∀ f ∈ X.L.fa, f.ok K = true) (cx : X.ex K = true) : TbOk (Yx X K n cells) (X.C n) := by
  refine tb_up (C := X.L.mkC (X.L.phi n)) (tb_ok O _ cf (ex_L cx)) (up_x X K n cells) rfl (fun c f h => h) (fun e EX ρ S A M σ H he w Q hp => ?_) (fun id EX ρ S d A M σ H v he w r Q hp => ?_) (fun k c b h => by cases h)
  · have hp : P (Yx X K n cells) EX A M H (lamR e S) (fun d _ H' => ∀ v, Rep (Yx X K n cells) (Avd A M) M H' d v → Q v H') := hp
    unfold lamR at hp
    split at hp
    · exact lam_made (σ := σ) w hp
    · exact hp.elim
  · cases d with
    | clo e =>
      have hp : P (Yx X K n cells) EX A M H (X.wres (ev (X.Cb n) e ρ S)) (fun d _ H' => ∀ v, Rep (Yx X K n cells) (Avd A M) M H' d v → Q v H') := hp
      simp only [Rep] at r
      obtain ⟨g, f, c', t, eg, rfl, hf, _, hc, _, htu⟩ := r
      have eg : hoX X cells = g := Option.some.inj eg
      subst eg
      refine ⟨e, f, c', t, rfl, hf, hc, fun a ea => (htu a ea).1, ?_⟩
      refine ge (tb_b O cf cx) e _ ρ S A M σ H (he.up (up_xb X K n cells)) (w.up (up_xb X K n cells)) _ ?_
      revert hp
      cases ev (X.Cb n) e ρ S with
      | bad => exact fun hp => hp
      | ok d S' => exact fun hp H' e1 w1 v r1 => hp H' e1 (w1.up (up_bx X K n cells)) _ (flat_rep' (cst_flat _))
      | exc k S' =>
        intro hp H' e1 w1
        have hp : P (Yx X K n cells) EX A M H (match X.resD k with | some d => R.ok d S' | none => .bad) (fun d _ H' => ∀ v, Rep (Yx X K n cells) (Avd A M) M H' d v → Q v H') := hp
        cases q : X.resD k with
        | none => rw [q] at hp; exact hp.elim
        | some d =>
          rw [q] at hp
          have hfl : ∃ y, flat d = some y := by
            unfold Lx.resD at q
            split at q
            · split at q
              · split at q
                · rename_i y hy
                  cases q
                  exact ⟨y, hy⟩
                · cases q
              · cases q
            · cases q
          obtain ⟨y, hy⟩ := hfl
          exact ⟨k, d, y, rfl, rfl, q, hy, fun H2 e2 => hp H2 (e1.trans e2.of0) ((w1.up (up_bx X K n cells)).stay e2) _ (flat_rep' hy)⟩
    | _ => exact hp.elim
end
end Dz

set_option Elab.async false
set_option linter.all false
set_option maxRecDepth 100000
set_option maxHeartbeats 4000000
namespace Dz
open PySem PySem.Spec PyProof.Rows L2 LamX

theorem wdC_form {k : Kc} {sc : Scope} {W : Wd} {body : List Stmt} {s : Ss} {c : Cst} (h : wdC k sc W body = some (s, c)) : ∃ p1 p2 p3 p4 p5 p6 kk p7 p8 cc b₀ suite,
    body = [.Try [.Expr (.Call (.Name W.a p1) [] [] p2) p3] [.ExceptHandler (some (.Name W.cn p4)) (some W.wn) (b₀ :: suite) p5] [] [] p6, .Return (some (.Constant cc kk p7)) p8] ∧ cHs k sc (b₀ :: suite) = some s ∧ constC cc = some (.cst c) := by
  unfold wdC at h
  split at h
  · rename_i a p1 p2 p3 x p4 n b₀ suite p5 p6 cc kk p7 p8
    split at h
    · rename_i hh
      obtain ⟨rfl, rfl, rfl⟩ := hh
      split at h
      · rename_i s' d e1 e2
        cases h
        exact ⟨_, _, _, _, _, _, _, _, _, _, _, _, rfl, e1, e2⟩
      · cases h
    · cases h
  · cases h
theorem pe_const {Xc : Cx} {cc : Const} {kk : Nat} {p : Pos} {c : Cst} (h : constC cc = some (.cst c)) : PE Xc (.Constant cc kk p) (tC (cstV c)) := by
  unfold constC at h
  split at h <;> first | (cases h; simp only [cstV]) | cases h
  · exact pe_int
  · exact pe_bl
  · exact pe_non
  · exact pe_str
def actT (Xc : Cx) (X : Lx) (K : PySem.W.Frag) (n : Nat) (σ : L2.St) (Wq : WX) : TE := fun σZ HZ Q => ∃ (e : E) (f c' : Addr) (t : Option Addr) (E0 : XK), (∀ cls d H', E0 cls d H' → Wq cls d σZ H') ∧ σZ[0]? = some (some (.ref f)) ∧
  HZ f = some (CloO (okX X Xc.env.scope) (Xc.env.qual ++ "<lambda>") Xc.env.cells e f c' t) ∧ HZ c' = some (CodeO c' (Xc.env.qual ++ "<lambda>")) ∧ (∀ a, t = some a → HZ a = some (.tup [.int 0])) ∧ rdE (Yb X K Xc.env.cells) (X.Cb n) E0 e σ HZ Q
def tsX (X : Lx) (K : PySem.W.Frag) : Addr → Value → Option Addr → TS := fun a cls d D σ H => ∃ k, cls = .ref ((X.L.Y K).ec k) ∧ d = none ∧ k < X.L.excs.length ∧ rdSs (Yh X K a k) X.C0 C8.E0 X.W.su D σ H
/-- the def that tries what it is handed -/
theorem wrong_ok {X : Lx} {K : PySem.W.Frag} {n m : Nat} {Xc : Cx} {g : Addr} {cdv : Value} (ox : LxOk X) (cf : ∀ f ∈ X.L.fa, f.ok K = true) (cx : X.ex K = true) (hK : Xc.K = K) (hsc : Xc.env.scope = X.e.d.scope) (hq : Xc.env.qual ++ "<lambda>" = qL)
    (hex : ∀ x i, (X.L.kc X.e).exs.lookup x = some i → Xc.mg x = some (.ref ((X.L.Y K).ec i))) (hcn : Xc.mg X.W.cn = some (.ref ((X.L.Y K).ec X.W.ci))) (hisi : Xc.mg "isinstance" = none)
    (hN : Xc.N = X.e.N) (hbody : ∀ (x : Option Str) (e : E) (params : Arguments) (body : Expr) (scope : Scope), okX X Xc.env.scope x e params body scope → ∀ (A : Around) (outer : List PySem.Env) (s : Shared) (H : Hp) (E0 : XK) (f c' : Addr), Room m (A.deeper (lamEnv Xc scope s.heap.objs.size f c')) → PE (lamCx Xc A outer s H E0 scope f c') body (rdE (Yb X K Xc.env.cells) (X.Cb n) E0 e))
    (pins : List (Addr × Obj)) (f : Addr) (s : Shared) (σ : L2.St) (H : Hp) (Q : VK) (I : Inv Xc pins σ H s) (hr : Room (m + 1) (Xc.A.deeper (envOfC X.W.d.name X.W.d.scope s.heap.objs.size g cdv))) (h : rwX X K n Xc.env.cells (.ref f) σ H Q) :
    ∃ t, PSs (cxOf C8.CX0 Xc.prog Xc.w Xc.K Xc.mg Xc.base X.W.N X.W.d.name X.W.d.scope g cdv Xc.A Xc.stack s H C8.E0) X.W.d.body t ∧ t { nx := fun _ H' => Q .non H', rt := Q } (L2.start X.W.N [.ref f]) H := by
  obtain ⟨e, f', c', t, ev, hf, hc, htu, ht⟩ := h
  cases ev
  have w := ox.w
  obtain ⟨p1, p2, p3, p4, p5, p6, kk, p7, p8, cc, b₀, suite, hb, hs, hcc⟩ := wdC_form w.code
  rw [hb]
  have S := w.scope
  have hgl : Gl (cxOf C8.CX0 Xc.prog Xc.w Xc.K Xc.mg Xc.base X.W.N X.W.d.name X.W.d.scope g cdv Xc.A Xc.stack s H C8.E0) X.W.cn := by
    have := w.gc
    unfold globB at this
    show X.W.d.scope.names.lookup X.W.cn = some .globalImplicit
    split at this
    · assumption
    · cases this
  refine ⟨_, pss_cons (ps_try_as (X := cxOf C8.CX0 Xc.prog Xc.w Xc.K Xc.mg Xc.base X.W.N X.W.d.name X.W.d.scope g cdv Xc.A Xc.stack s H C8.E0) (c := .ref ((X.L.Y K).ec X.W.ci)) (i := X.W.wi) (n := X.W.wn) (Wout := fun _ _ _ _ => False) (tb := fun Wq => tDrop (actT Xc X K n σ Wq)) (ts := tsX X K)
    rfl rfl S.nd w.wi w.loc ⟨hgl, (plain_of w.pc).1, .inl hcn⟩ LamX.takes0 (fun Wq pn xe tk _ => pss_one (ps_expr (pe_actX (tb := fun E0 e => rdE (Yb X K Xc.env.cells) (X.Cb n) E0 e) (hN ▸ lamT X _) I tk hr hbody w.i0 (vis_of w.va) (plain_of w.pa).1 (plain_of w.pa).2) (by rfl)))
    (fun a oe cls d pn hz hfl => ⟨fun pins s' σ' H' D I' h' => ?_⟩)) (pss_one (ps_ret (pe_const hcc))), ?_⟩
  · obtain ⟨k, rfl, rfl, hk, h'⟩ := h'
    refine (cHs_ok (Y := Yh X K a k) (C := X.C0) (X := (cxOf C8.CX0 Xc.prog Xc.w Xc.K Xc.mg Xc.base X.W.N X.W.d.name X.W.d.scope g cdv Xc.A Xc.stack s H C8.E0).suite a ((a, oe) :: pn)) (k := X.kw) (sc := X.W.d.scope) (EX := C8.E0) ⟨hK, rfl, S.nd, rfl, ?_, hisi, hex, fun a' n' e' => ?_, fun _ => rfl⟩ _ _ hs).run pins s' σ' H' D I' h'
    · have := hr.un
      show (Xc.A.deeper (envOfC X.W.d.name X.W.d.scope s.heap.objs.size g cdv)).units + 64 < cLine
      omega
    · cases e'
      have q0 : ∀ K', K' = K → ExcC K' ((X.L.Y K).ec k) := fun K' z => by rw [z]; exact (ex_exc cx hk).1
      have q := q0 Xc.K hK
      have := call_isE (X := cxOf C8.CX0 Xc.prog Xc.w Xc.K Xc.mg Xc.base X.W.N X.W.d.name X.W.d.scope g cdv Xc.A Xc.stack s H C8.E0) (pn := pn) (a := a) q hz hfl
      exact this
  · refine ⟨e, f, c', t, EW X K Q, fun cls d H' hw => ?_, ?_, ?_, ?_, htu, ?_⟩
    · obtain ⟨k, x, y, rfl, rfl, hres, hfl, hQ⟩ := hw
      have hk : k < X.L.excs.length := by
        unfold Lx.resD at hres
        split at hres
        · assumption
        · cases hres
      refine ⟨true, ?_, fun _ a ha => ⟨k, rfl, rfl, hk, ?_⟩, fun z => by cases z⟩
      · show PySem.W.exmOne Xc.K _ _ = _
        rw [hK]
        exact (ex_exc cx hk).2
      · have hl : X.W.N.length = (L2.start X.W.N [V.ref f]).length := by
          unfold L2.start
          have : 0 < X.W.N.length := (List.getElem?_eq_some_iff.mp w.i0).1
          simp
          omega
        refine gss (tb_h ox.O cf cx) X.W.su ((List.replicate X.W.N.length none).set X.W.wi (some (.exv k))) [] (fun _ => False) [] _ H' ⟨by rw [List.length_set, List.length_replicate, List.length_set]; exact hl, fun i d hi => ?_⟩ ⟨rfl, List.nodup_nil, fun _ z => z.elim, (fun _ z => by cases z), fun i a c z => by simp at z⟩ _ ?_
        · by_cases hi2 : X.W.wi = i
          · subst hi2
            have hlt := (List.getElem?_eq_some_iff.mp w.wi).1
            rw [List.getElem?_set_self (by rw [List.length_replicate]; exact hlt)] at hi
            cases hi
            refine ⟨.ref a, List.getElem?_set_self (by rw [← hl]; exact hlt), ?_⟩
            simp only [Rep]
            exact ⟨a, rfl, rfl⟩
          · rw [List.getElem?_set_ne hi2, List.getElem?_replicate] at hi
            split at hi <;> cases hi
        · unfold Lx.resD at hres
          rw [if_pos hk] at hres
          split at hres
          · rename_i d S' e1
            split at hres
            · rename_i y' hy
              cases hres
              rw [e1]
              intro M' v H2 g rv w2
              obtain ⟨rfl, _⟩ := flat_rep hfl rv
              exact hQ H2 g.ext
            · cases hres
          · cases hres
    · obtain ⟨N, eN⟩ : ∃ N, X.W.N = X.W.a :: N := by
        have := w.i0
        cases q : X.W.N with
        | nil => rw [q] at this; cases this
        | cons b l => rw [q] at this; cases this; exact ⟨l, rfl⟩
      rw [eN]
      rfl
    · rw [hq, hsc]
      exact hf
    · rw [hq]
      exact hc
    · exact ht
end Dz

set_option Elab.async false
set_option linter.all false
set_option maxRecDepth 100000
set_option maxHeartbeats 4000000
namespace Dz
open PySem PySem.Spec PyProof.Rows L2 LamX

def spL (X : Lx) (K : PySem.W.Frag) (n : Nat) : Sp := fun vs H Q _ => ∃ (a : Addr) (ns : List Int) (S' : Sto), vs = [.ref a] ∧ H (X.L.Y K).tP = some (.tbl #[]) ∧ SqL K H a (ns.map V.int) ∧ X.phi n [.scr ns] [.tab] = .ok (.bl true) S' ∧ ∀ H', Q (.bl true) H'
section
variable {X : Lx} {P : Program} {w : World} {K : PySem.W.Frag} {mg : Str → Option Value} {base h : Heap} {n : Nat}
theorem cok_b (ox : LxOk X) (p : Prg P w K mg base (X.L.Y K) (X.L.C n) (X.L.kc X.e) (2 * n + 1)) {Xc : Cx} (e1 : Xc.prog = P) (e2 : Xc.w = w) (e3 : Xc.K = K) (e4 : Xc.mg = mg) (e5 : Xc.base = base) (e6 : Xc.N = X.e.N) {cells : List (Str × Addr)}
    {scope : Scope} {A : Around} {outer : List PySem.Env} {s : Shared} {H : Hp} {E0 : XK} {f c' : Addr} (hr : Room (2 * n + 1) (A.deeper (lamEnv Xc scope s.heap.objs.size f c'))) :
    Cok (Yb X K cells) (X.Cb n) X.kx.inB (2 * n + 1) scope (lamCx Xc A outer s H E0 scope f c') E0 := by
  subst e1 e2 e3 e4 e5
  have tk : Takes (lamCx Xc A outer s H E0 scope f c') (fun cls d _ H => E0 cls d H) := takes_of rfl rfl rfl rfl
  refine ⟨rfl, e6, ox.scope.nd, rfl, rfl, hr, passes_call tk (fun _ _ _ _ h => h), fun x id q => ?_, fun x id c q => ?_, fun x id c q => ?_, p.cons, p.blt, (fun z => by cases z), fun x id z => by cases z⟩
  · obtain ⟨f, fd, ps, F, h1, h2, h3⟩ := p.fns x id q
    exact ⟨f, fd, ps, F.imp fun vs H Q E h => SpOf.dn (C := X.L.C n) (C' := X.Cb n) (up_b X Xc.K cells) rfl (fun ds S => rfl) h, h1, h2, h3⟩
  · cases q
  · cases q
theorem sok_x (ox : LxOk X) (cf : ∀ f ∈ X.fa, f.ok K = true) (cx : X.ex K = true) (KX : K.In h) (G : h.Ns mainGlobals mg) (KB : K.In base) (GB : base.Ns mainGlobals mg)
    (cw : ∃ fd, FunD K X.W.d.name X.W.d.qual X.W.d.params X.W.d.body X.W.d.scope (X.W.d.dvs K) (X.W.d.kws K) (He.fAd K X.W.d.at_) fd)
    (p : Prg P w K mg base (X.L.Y K) (X.L.C n) (X.L.kc X.e) (2 * n + 1)) {f c : Addr} (TB : TabB base mg c (X.L.Y K).tP) {A : Around} {outer : List PySem.Env} {s : Shared} {H : Hp} {E : XK}
    (hr : Room (2 * n + 3) (A.deeper (envOfC X.e.d.qual X.e.d.scope s.heap.objs.size f (.ref c)))) :
    Sok (Yx X K n (cxOf (L2.CX P w) P w K mg base X.e.N X.e.d.qual X.e.d.scope f (.ref c) A outer s H E).env.cells) (X.C n) X.kx (2 * n + 1) X.e.d.scope (cxOf (L2.CX P w) P w K mg base X.e.N X.e.d.qual X.e.d.scope f (.ref c) A outer s H E) E := by
  have S := ox.scope
  have tk : Takes (cxOf (L2.CX P w) P w K mg base X.e.N X.e.d.qual X.e.d.scope f (.ref c) A outer s H E) (fun cls d _ H => E cls d H) := takes_of rfl rfl rfl rfl
  have hq : (cxOf (L2.CX P w) P w K mg base X.e.N X.e.d.qual X.e.d.scope f (.ref c) A outer s H E).env.qual ++ "<lambda>" = qL := by
    show (X.e.d.qual ++ ".<locals>.") ++ "<lambda>" = qL
    rw [ox.qual]
    rfl
  have cfL : ∀ f ∈ X.L.fa, f.ok K = true := fun f hf => cf f (List.mem_append_left _ hf)
  refine ⟨⟨rfl, rfl, S.nd, rfl, rfl, hr.mono (by omega), passes_call tk (fun _ _ _ _ h => h), fun x id q => ?_, fun x id c q => ?_, fun x id c q => ?_, p.cons, p.blt, fun _ params body scope pos e m h1 h3 => ?_, fun x id q a ta pos px hg hdb ha hst => ?_⟩, S.kind, fun _ => rfl, passes_of rfl, tk, fun x n h => ?_⟩
  · obtain ⟨f, fd, ps, F, h1, h2, h3⟩ := p.fns x id q
    exact ⟨f, fd, ps, F.imp fun vs H Q E h => SpOf.dn (C := X.L.C n) (C' := X.C n) (up_x X K n _) rfl (fun ds S => rfl) h, h1, h2, h3⟩
  · cases q
  · cases q
  · obtain ⟨x, h0, h1⟩ : ∃ x, lamP params = some x ∧ lamDB X.e.N X.e.d.scope scope x = true := by
      unfold lamB at h1
      split at h1
      · exact ⟨_, by assumption, h1⟩
      · cases h1
    have q := pe_lamX (X := cxOf (L2.CX P w) P w K mg base X.e.N X.e.d.qual X.e.d.scope f (.ref c) A outer s H E) (pos := pos) (lamT X _) TB rfl (show okX X X.e.d.scope x e params body scope from ⟨h0, h1, m, h3⟩)
    rw [hq] at q
    exact q
  · have q : (match x == X.W.d.name with | true => some 0 | false => ([] : List (Str × Nat)).lookup x) = some id := q
    cases hb : (x == X.W.d.name) with
    | false => rw [hb] at q; cases q
    | true =>
      rw [hb] at q
      cases q
      have hx := beq_iff_eq.mp hb
      subst hx
      have w0 := ox.w
      obtain ⟨fd, F⟩ := cw
      have bnd := F
      unfold He.DefD.dvs at bnd
      rw [w0.dfl] at bnd
      have bnd := bnd.bindsN (ps := [X.W.a]) w0.bind
      have kp := F.kp
      rw [w0.qual] at F
      obtain ⟨oc, od, dV, kV, doc, pm, an, cdv, ct, osl, rfl, lk, hcd, _, _⟩ := F.ex
      have gl := He.glo_ok KX G (cf (.glo X.W.d.name) (List.mem_append_right _ (List.mem_cons_self)))
      have e3 : He.fAd K X.W.d.at_ = He.ga K X.W.d.name := by rw [w0.at_]; rfl
      rw [← e3] at gl
      refine pe_wrgX (RW := rwX X K n _) (k := 2 * n + 2) hg gl kp lk hcd bnd w0.scope (hr.mono (by omega)) ha hst (fun pins f' s' σ H' Q I hr' h' => ?_) (fun v σ H' Q h' => ?_) hdb
      · refine wrong_ok (m := 2 * n + 1) ox cfL cx rfl rfl hq (fun x i q => (p.exs x i q).1) ?_ (p.blt _ (by decide +kernel)) rfl (fun x e params body scope hk A2 outer2 s2 H2 E2 f2 c2 hr2 => ?_) pins f' s' σ H' Q I hr' h'
        · obtain ⟨j, hj⟩ : ∃ j, j = X.W.ci := ⟨_, rfl⟩
          have m1 : (He.Fa.glo X.W.cn) ∈ X.L.fa := fa1 (fa1 (fa1 (fa2 (idxG_of w0.ci rfl))))
          have := He.glo_ok KX G (cfL _ m1)
          have hec : (X.L.Y K).ec X.W.ci = He.ga K X.W.cn := by
            show He.ga K (X.L.excs.getD X.W.ci "") = _
            rw [List.getD_eq_getElem?_getD, w0.ci]
            rfl
          rw [hec]
          exact this
        · obtain ⟨_, _, m, hc⟩ := hk
          exact (c_all (Yb X K _) (X.Cb n) (2 * n + 1) m X.kx.inB scope).1 _ _ (cok_b ox p rfl rfl rfl rfl rfl rfl hr2) body e hc
      · obtain ⟨_, f', _, _, e, _⟩ := h'
        exact ⟨f', e⟩
  · obtain ⟨h1, h2, h3, h4, h5⟩ := p.exs x n h
    exact ⟨h1, h2, h3, h4, h5⟩
/-- the law -/
theorem lx_facts (ox : LxOk X) {x : Str} (hps : X.e.ps = [x]) (KX : K.In h) (G : h.Ns mainGlobals mg) {f : Addr} (hfa : mg ("law" : Str) = some (.ref f)) (cf : ∀ f ∈ X.fa, f.ok K = true) (cx : X.ex K = true)
    (cd : ∀ d ∈ X.fn, ∃ fd, FunD K d.name d.qual d.params d.body d.scope (d.dvs K) (d.kws K) (He.fAd K d.at_) fd) :
    ∃ fd : FuncData, (∀ (s : Shared) (v : Value), BindsTo s fd ⟨[v], []⟩ [(x, v)]) ∧ ∀ base : Heap, K.In base → base.Ns mainGlobals mg → TabB base mg (He.cT K (("law" : Str), none)).1 (He.cT K (("law" : Str), none)).2 → FnOk P w K mg base (L2.CX P w) (2 * n + 4) f fd [x] (spL X K n) := by
  have e3 : He.fAd K X.e.d.at_ = He.ga K "law" := by rw [ox.at_]; rfl
  have e4 := hfa.symm.trans (He.glo_ok KX G (cf (.glo "law") (by
    rw [← ox.name]
    exact List.mem_append_right _ (List.mem_cons_of_mem _ List.mem_cons_self))))
  cases e4
  obtain ⟨fd, F⟩ := cd X.e.d (List.mem_append_right _ (List.mem_cons_of_mem _ List.mem_cons_self))
  have cw := cd X.W.d (List.mem_append_right _ List.mem_cons_self)
  have F' := F
  unfold He.DefD.dvs at F'
  rw [ox.dfl] at F'
  have b := F'.bindsA ox.bind
  rw [hps] at b
  refine ⟨fd, fun s v => b s [v] rfl, fun base KB GB TB => ?_⟩
  have Vv := lev (P := P) (w := w) (base := base) ox.O KX G (fun f hf => cf f (List.mem_append_left _ hf)) (ex_L cx) (fun e he => cd e.d (List.mem_append_left _ (List.mem_map_of_mem he))) n
  have p := prg_of ox.O KX G (fun f hf => cf f (List.mem_append_left _ hf)) (ex_L cx) Vv X.e
  obtain ⟨oc, od, dV, kV, doc, pm, an, cdv, ct, osl, rfl, lk, hcd, _, _⟩ := F.ex
  have hcdv : ∃ c, cdv = .ref c := by
    unfold PySem.W.codeIn at hcd
    split at hcd
    · exact ⟨_, rfl⟩
    · cases hcd
  obtain ⟨c, rfl⟩ := hcdv
  have ec : (He.cT K (("law" : Str), none)).1 = c := by
    rw [ox.at_] at lk
    exact He.codeOf_eq lk rfl
  rw [ec] at TB
  have S := ox.scope
  rw [e3] at lk
  refine hps ▸ fn_of lk hcd S (fun vs H Q E h => ?_) fun A outer s H vs Q E hr h => ?_
  · obtain ⟨_, _, _, rfl, _⟩ := h
    rw [hps]
    rfl
  · obtain ⟨a, ns, S', rfl, hP, hS, hphi, hQ⟩ := h
    have so := sok_x (E := E) (outer := outer) (H := H) ox cf cx KX G KB GB cw p TB hr
    refine ⟨_, css_ok so ox.code, body_ok (A := fun _ => False) (M := [(X.L.Y K).tP]) (S := [.tab]) (ds := [.scr ns]) (tb_x ox.O (fun f hf => cf f (List.mem_append_left _ hf)) cx) ⟨rfl, by simp, fun _ z => z.elim, fun _ _ z => z, fun i a c e1 e2 => ?_⟩ (Reps.cons ?_ Reps.nil) ?_⟩
    · cases i with
      | zero =>
        cases e1
        cases e2
        exact ⟨rfl, #[], hP, True.intro, fun pos cv e => by
          unfold codeAmong at e
          cases e⟩
      | succ i => simp at e1
    · simp only [Rep]
      refine ⟨a, rfl, ?_⟩
      have na : ∀ l : List V, (H a = some (.lst l) ∨ ∃ o, H a = some o ∧ o ≠ .tbl #[]) → a ≠ (X.L.Y K).tP := fun l hh z => by
        rw [z, hP] at hh
        rcases hh with hh | ⟨o, hh, ho⟩
        · cases hh
        · exact ho (Option.some.inj hh).symm
      rcases hS with hh | hh
      · refine .inl ⟨hh, fun z => ?_⟩
        rcases z with z | z
        · exact z
        · rw [List.mem_singleton] at z
          rw [z] at hh
          rcases hh with hh | ⟨o, hh⟩
          · rw [hP] at hh; cases hh
          · rw [hP] at hh; cases hh
      · exact .inr (.inr hh)
    · have hphi : run (X.C n) X.e.N.length X.e.b [.scr ns] [.tab] = .ok (.bl true) S' := hphi
      rw [hphi]
      intro H2 e2 w2 v rv
      rw [rep_bl rv]
      exact hQ H2
end
end Dz

set_option Elab.async false
set_option linter.all false
set_option maxRecDepth 100000
set_option maxHeartbeats 2000000
namespace Dz
open PySem PySem.Spec PyProof.Rows L2

/-! ### a head looked at in parts -/
abbrev fragG (g : Addr → Option Obj) : PySem.W.Frag := He.frT g (He.asD g 5)
def pA (fa : List He.Fa) (g : Addr → Option Obj) : Bool := fa.all fun f => f.ok (fragG g)
def pF (fn : List He.DefD) (g : Addr → Option Obj) : Bool × List He.FnW := (fn.all fun d => d.ok (fragG g), fn.map fun d => He.fnW (fragG g) d.at_)
def pX (tf : List He.Defn) (ex : PySem.W.Frag → Bool) (g : Addr → Option Obj) : Bool := ex (fragG g) && He.tabsB g tf (fragG g)
theorem obs_join {fa : List He.Fa} {fn : List He.DefD} {tf : List He.Defn} {ex : PySem.W.Frag → Bool} {g : Addr → Option Obj} {w : World} {k j : Nat} (h1 : pA (fa.take k) g = true) (h2 : pA (fa.drop k) g = true)
    (h3 : pF (fn.take j) g = (true, (fn.take j).map He.DefD.val)) (h4 : pF (fn.drop j) g = (true, (fn.drop j).map He.DefD.val)) (h5 : pX tf ex g = true) : He.obsX 5 fa fn [] tf ex g = He.valX fn [] w := by
  unfold pA at h1 h2
  unfold pF at h3 h4
  unfold pX at h5
  have a : (fa.all fun f => f.ok (fragG g)) = true := by
    rw [← List.take_append_drop k fa, List.all_append, h1, h2]
    rfl
  have b1 := congrArg Prod.fst h3
  have b2 := congrArg Prod.fst h4
  have c1 := congrArg Prod.snd h3
  have c2 := congrArg Prod.snd h4
  have b : (fn.all fun d => d.ok (fragG g)) = true := by
    rw [← List.take_append_drop j fn, List.all_append]
    simp only at b1 b2
    rw [b1, b2]
    rfl
  have c : (fn.map fun d => He.fnW (fragG g) d.at_) = fn.map He.DefD.val := by
    rw [← List.take_append_drop j fn, List.map_append, List.map_append]
    simp only at c1 c2
    rw [c1, c2]
  have e : He.obsX 5 fa fn [] tf ex g = (((((fa.all fun f => f.ok (fragG g)) && fn.all fun d => d.ok (fragG g)), fn.map fun d => He.fnW (fragG g) d.at_), []), ex (fragG g) && He.tabsB g tf (fragG g)) := rfl
  rw [e, a, b, c, h5]
  rfl
theorem pA_run {R : Option PySem.W.SharedT} {l : List He.Fa} (k : Nat) (h1 : R.map (fun s => pA (l.take k) (HandSHeadRun.getT s)) = some true) (h2 : R.map (fun s => pA (l.drop k) (HandSHeadRun.getT s)) = some true) : R.map (fun s => pA l (HandSHeadRun.getT s)) = some true := by
  cases R with
  | none => cases h1
  | some s =>
    simp only [Option.map_some, Option.some.injEq] at h1 h2 ⊢
    unfold pA at h1 h2 ⊢
    rw [← List.take_append_drop k l, List.all_append, h1, h2]
    rfl
theorem pF_run {R : Option PySem.W.SharedT} {l : List He.DefD} (k : Nat) (h1 : R.map (fun s => pF (l.take k) (HandSHeadRun.getT s)) = some (true, (l.take k).map He.DefD.val)) (h2 : R.map (fun s => pF (l.drop k) (HandSHeadRun.getT s)) = some (true, (l.drop k).map He.DefD.val)) :
    R.map (fun s => pF l (HandSHeadRun.getT s)) = some (true, l.map He.DefD.val) := by
  cases R with
  | none => cases h1
  | some s =>
    simp only [Option.map_some, Option.some.injEq] at h1 h2 ⊢
    unfold pF at h1 h2 ⊢
    have b1 := congrArg Prod.fst h1
    have b2 := congrArg Prod.fst h2
    have c1 := congrArg Prod.snd h1
    have c2 := congrArg Prod.snd h2
    simp only at b1 b2 c1 c2
    have b : (l.all fun d => d.ok (fragG (HandSHeadRun.getT s))) = true := by
      rw [← List.take_append_drop k l, List.all_append, b1, b2]
      rfl
    have c : (l.map fun d => He.fnW (fragG (HandSHeadRun.getT s)) d.at_) = l.map He.DefD.val := by
      rw [← List.take_append_drop k l, List.map_append, List.map_append, c1, c2]
    rw [b, c]
theorem join_run {R : Option PySem.W.SharedT} {α β : Type} {A : PySem.W.SharedT → α} {B : PySem.W.SharedT → β} {a0 : α} {b0 : β} {fa : List He.Fa} {fn : List He.DefD} {tf : List He.Defn} {ex : PySem.W.Frag → Bool} {w : World} (k j : Nat)
    (h0 : R.map (fun s => (A s, B s)) = some (a0, b0)) (h1 : R.map (fun s => pA (fa.take k) (HandSHeadRun.getT s)) = some true) (h2 : R.map (fun s => pA (fa.drop k) (HandSHeadRun.getT s)) = some true)
    (h3 : R.map (fun s => pF (fn.take j) (HandSHeadRun.getT s)) = some (true, (fn.take j).map He.DefD.val)) (h4 : R.map (fun s => pF (fn.drop j) (HandSHeadRun.getT s)) = some (true, (fn.drop j).map He.DefD.val)) (h5 : R.map (fun s => pX tf ex (HandSHeadRun.getT s)) = some true) :
    R.map (fun s => (A s, B s, He.obsX 5 fa fn [] tf ex (HandSHeadRun.getT s))) = some (a0, b0, He.valX fn [] w) := by
  cases R with
  | none => cases h0
  | some s =>
    simp only [Option.map_some, Option.some.injEq, Prod.mk.injEq] at h0 h1 h2 h5
    have h3' : pF (fn.take j) (HandSHeadRun.getT s) = (true, (fn.take j).map He.DefD.val) := Option.some.inj h3
    have h4' : pF (fn.drop j) (HandSHeadRun.getT s) = (true, (fn.drop j).map He.DefD.val) := Option.some.inj h4
    simp only [Option.map_some]
    rw [h0.1, h0.2, obs_join (w := w) h1 h2 h3' h4' h5]
end Dz

set_option Elab.async false
set_option linter.all false
set_option maxRecDepth 100000
set_option maxHeartbeats 0
namespace K08
open PySem PySem.Spec PyProof.Rows L2 Dz
abbrev pg : Program := PySem.Challenge.pw_widthrules_k08_whole_refused
def top (i : Nat) : Stmt := pg.main.body.getD i (.Pass ⟨0, 0, 0, 0⟩)
def cbody : Stmt → List Stmt
  | .ClassDef _ _ _ b _ _ _ _ _ _ _ => b
  | _ => []
abbrev i_is_integer : Nat := 0
def b_is_integer : Ss := (.cons (.ret (.and (.isi (.var 0) .int) (.not (.isi (.var 0) .bool)))) .nil)
def e_is_integer : Ent := ⟨⟨("is_integer", none), "is_integer", "is_integer", defArgs (top 1), defBody (top 1), defScope (top 1), [], []⟩, ["value"], ["value"], [], b_is_integer, .fn⟩
abbrev i_is_in : Nat := 1
def b_is_in : Ss := (.cons (.ret (.and (.call 0 (.cons (.var 0) .nil)) (.chn .le .le (.var 1) (.var 0) (.var 2)))) .nil)
def e_is_in : Ent := ⟨⟨("is_in", none), "is_in", "is_in", defArgs (top 2), defBody (top 2), defScope (top 2), [], []⟩, ["value", "least", "most"], ["value", "least", "most"], [], b_is_in, .fn⟩
abbrev i_is_list : Nat := 2
def b_is_list : Ss := (.cons (.ret (.and (.isi (.var 0) .tuple) (.chn .le .le (.var 1) (.blt .len (.cons (.var 0) .nil)) (.var 2)))) .nil)
def e_is_list : Ent := ⟨⟨("is_list", none), "is_list", "is_list", defArgs (top 3), defBody (top 3), defScope (top 3), [], []⟩, ["value", "least", "most"], ["value", "least", "most"], [], b_is_list, .fn⟩
abbrev i_two_to : Nat := 3
def b_two_to : Ss := (.cons (.asg (.nm 1) (.cst (.int 1))) (.cons (.for_ (.nm 2) (.rg1 (.var 0)) (.cons (.asg (.nm 1) (.bin .mul (.var 1) (.cst (.int 2)))) .nil)) (.cons (.ret (.var 1)) .nil)))
def e_two_to : Ent := ⟨⟨("two_to", none), "two_to", "two_to", defArgs (top 18), defBody (top 18), defScope (top 18), [], []⟩, ["power", "result", "turn"], ["power"], [], b_two_to, .fn⟩
abbrev i_is_word : Nat := 4
def b_is_word : Ss := (.cons (.ret (.and (.isi (.var 0) .str) (.cmp .isin (.var 0) (.var 1)))) .nil)
def e_is_word : Ent := ⟨⟨("is_word", none), "is_word", "is_word", defArgs (top 19), defBody (top 19), defScope (top 19), [], []⟩, ["value", "words"], ["value", "words"], [], b_is_word, .fn⟩
abbrev i_is_format : Nat := 5
def b_is_format : Ss := (.cons (.ite (.or (.not (.call 2 (.cons (.var 0) (.cons (.cst (.int 4)) (.cons (.cst (.int 4)) .nil))))) (.not (.call 1 (.cons (.sub (.var 0) (.cst (.int 0))) (.cons (.glo 0) (.cons (.glo 1) .nil)))))) (.cons (.ret (.cst (.bl false))) .nil) .nil) (.cons (.ret (.and (.call 4 (.cons (.sub (.var 0) (.cst (.int 1))) (.cons (.glo 2) .nil))) (.and (.call 4 (.cons (.sub (.var 0) (.cst (.int 2))) (.cons (.glo 3) .nil))) (.call 4 (.cons (.sub (.var 0) (.cst (.int 3))) (.cons (.glo 4) .nil)))))) .nil))
def e_is_format : Ent := ⟨⟨("is_format", none), "is_format", "is_format", defArgs (top 20), defBody (top 20), defScope (top 20), [], []⟩, ["value"], ["value"], [], b_is_format, .fn⟩
abbrev i_need_format : Nat := 6
def b_need_format : Ss := (.cons (.ite (.not (.call 5 (.cons (.var 0) .nil))) (.cons (.raise 1) .nil) .nil) .nil)
def e_need_format : Ent := ⟨⟨("need_format", none), "need_format", "need_format", defArgs (top 21), defBody (top 21), defScope (top 21), [], []⟩, ["form"], ["form"], [], b_need_format, .fn⟩
abbrev i_low_of : Nat := 7
def b_low_of : Ss := (.cons (.ite (.cmp .eq (.sub (.var 0) (.cst (.int 1))) (.cst (.str "unsigned"))) (.cons (.ret (.cst (.int 0))) .nil) .nil) (.cons (.asg (.nm 1) (.call 3 (.cons (.bin .sub (.sub (.var 0) (.cst (.int 0))) (.cst (.int 1))) .nil))) (.cons (.ret (.ite (.cmp .eq (.sub (.var 0) (.cst (.int 1))) (.cst (.str "twos"))) (.bin .sub (.cst (.int 0)) (.var 1)) (.bin .sub (.cst (.int 1)) (.var 1)))) .nil)))
def e_low_of : Ent := ⟨⟨("low_of", none), "low_of", "low_of", defArgs (top 22), defBody (top 22), defScope (top 22), [], []⟩, ["form", "half"], ["form"], [], b_low_of, .fn⟩
abbrev i_high_of : Nat := 8
def b_high_of : Ss := (.cons (.ret (.bin .sub (.call 3 (.cons (.ite (.cmp .eq (.sub (.var 0) (.cst (.int 1))) (.cst (.str "unsigned"))) (.sub (.var 0) (.cst (.int 0))) (.bin .sub (.sub (.var 0) (.cst (.int 0))) (.cst (.int 1)))) .nil)) (.cst (.int 1)))) .nil)
def e_high_of : Ent := ⟨⟨("high_of", none), "high_of", "high_of", defArgs (top 23), defBody (top 23), defScope (top 23), [], []⟩, ["form"], ["form"], [], b_high_of, .fn⟩
abbrev i_has_number : Nat := 9
def b_has_number : Ss := (.cons (.ret (.call 1 (.cons (.var 1) (.cons (.call 7 (.cons (.var 0) .nil)) (.cons (.call 8 (.cons (.var 0) .nil)) .nil))))) .nil)
def e_has_number : Ent := ⟨⟨("has_number", none), "has_number", "has_number", defArgs (top 24), defBody (top 24), defScope (top 24), [], []⟩, ["form", "value"], ["form", "value"], [], b_has_number, .fn⟩
abbrev i_need_number : Nat := 10
def b_need_number : Ss := (.cons (.ite (.not (.call 9 (.cons (.var 0) (.cons (.var 1) .nil)))) (.cons (.raise 3) .nil) .nil) .nil)
def e_need_number : Ent := ⟨⟨("need_number", none), "need_number", "need_number", defArgs (top 25), defBody (top 25), defScope (top 25), [], []⟩, ["form", "value"], ["form", "value"], [], b_need_number, .fn⟩
abbrev i_lowest : Nat := 11
def b_lowest : Ss := (.cons (.exp (.call 6 (.cons (.var 0) .nil))) (.cons (.ret (.call 7 (.cons (.var 0) .nil))) .nil))
def e_lowest : Ent := ⟨⟨("lowest", none), "lowest", "lowest", defArgs (top 26), defBody (top 26), defScope (top 26), [], []⟩, ["form"], ["form"], [], b_lowest, .fn⟩
abbrev i_highest : Nat := 12
def b_highest : Ss := (.cons (.exp (.call 6 (.cons (.var 0) .nil))) (.cons (.ret (.call 8 (.cons (.var 0) .nil))) .nil))
def e_highest : Ent := ⟨⟨("highest", none), "highest", "highest", defArgs (top 27), defBody (top 27), defScope (top 27), [], []⟩, ["form"], ["form"], [], b_highest, .fn⟩
abbrev i_count_numbers : Nat := 13
def b_count_numbers : Ss := (.cons (.exp (.call 6 (.cons (.var 0) .nil))) (.cons (.ret (.bin .add (.bin .sub (.call 8 (.cons (.var 0) .nil)) (.call 7 (.cons (.var 0) .nil))) (.cst (.int 1)))) .nil))
def e_count_numbers : Ent := ⟨⟨("count_numbers", none), "count_numbers", "count_numbers", defArgs (top 28), defBody (top 28), defScope (top 28), [], []⟩, ["form"], ["form"], [], b_count_numbers, .fn⟩
abbrev i_is_number : Nat := 14
def b_is_number : Ss := (.cons (.exp (.call 6 (.cons (.var 0) .nil))) (.cons (.ret (.call 9 (.cons (.var 0) (.cons (.var 1) .nil)))) .nil))
def e_is_number : Ent := ⟨⟨("is_number", none), "is_number", "is_number", defArgs (top 29), defBody (top 29), defScope (top 29), [], []⟩, ["form", "value"], ["form", "value"], [], b_is_number, .fn⟩
abbrev i_is_prime : Nat := 15
def b_is_prime : Ss := (.cons (.asg (.nm 1) (.cst (.int 2))) (.cons (.whl (.cmp .le (.bin .mul (.var 1) (.var 1)) (.var 0)) (.cons (.ite (.cmp .eq (.bin .mod (.var 0) (.var 1)) (.cst (.int 0))) (.cons (.ret (.cst (.bl false))) .nil) .nil) (.cons (.aug 1 (.cst (.int 1))) .nil))) (.cons (.ret (.cst (.bl true))) .nil)))
def e_is_prime : Ent := ⟨⟨("is_prime", none), "is_prime", "is_prime", defArgs (top 31), defBody (top 31), defScope (top 31), [], []⟩, ["number", "divisor"], ["number"], [], b_is_prime, .fn⟩
abbrev i_is_mersenne_width : Nat := 16
def b_is_mersenne_width : Ss := (.cons (.ite (.or (.cmp .eq (.var 0) (.cst (.int 2))) (.not (.call 15 (.cons (.var 0) .nil)))) (.cons (.ret (.cmp .eq (.var 0) (.cst (.int 2)))) .nil) .nil) (.cons (.par 1 2 (.bin .sub (.call 3 (.cons (.var 0) .nil)) (.cst (.int 1))) (.cst (.int 4))) (.cons (.for_ (.nm 3) (.rg1 (.bin .sub (.var 0) (.cst (.int 2)))) (.cons (.asg (.nm 2) (.bin .mod (.bin .sub (.bin .mul (.var 2) (.var 2)) (.cst (.int 2))) (.var 1))) .nil)) (.cons (.ret (.cmp .eq (.var 2) (.cst (.int 0)))) .nil))))
def e_is_mersenne_width : Ent := ⟨⟨("is_mersenne_width", none), "is_mersenne_width", "is_mersenne_width", defArgs (top 32), defBody (top 32), defScope (top 32), [], []⟩, ["w", "number", "rest", "turn"], ["w"], [], b_is_mersenne_width, .fn⟩
abbrev i_factor_of : Nat := 17
def b_factor_of : Ss := (.cons (.asg (.nm 1) (.bin .sub (.call 3 (.cons (.var 0) .nil)) (.cst (.int 1)))) (.cons (.ite (.call 16 (.cons (.var 0) .nil)) (.cons (.ret (.var 1)) .nil) .nil) (.cons (.asg (.nm 2) (.cst (.int 3))) (.cons (.whl (.cmp .ne (.bin .mod (.var 1) (.var 2)) (.cst (.int 0))) (.cons (.aug 2 (.cst (.int 2))) .nil)) (.cons (.ret (.var 2)) .nil)))))
def e_factor_of : Ent := ⟨⟨("factor_of", none), "factor_of", "factor_of", defArgs (top 33), defBody (top 33), defScope (top 33), [], []⟩, ["w", "number", "divisor"], ["w"], [], b_factor_of, .fn⟩
abbrev i_quotient_of : Nat := 18
def b_quotient_of : Ss := (.cons (.asg (.nm 3) (.bin .fdiv (.var 1) (.var 2))) (.cons (.asg (.nm 4) (.bin .sub (.var 1) (.bin .mul (.var 2) (.var 3)))) (.cons (.ite (.or (.cmp .eq (.var 4) (.cst (.int 0))) (.cmp .eq (.var 0) (.cst (.str "floor")))) (.cons (.ret (.var 3)) .nil) .nil) (.cons (.ite (.cmp .eq (.var 0) (.cst (.str "ceiling"))) (.cons (.ret (.bin .add (.var 3) (.cst (.int 1)))) .nil) .nil) (.cons (.ite (.cmp .eq (.var 0) (.cst (.str "zero"))) (.cons (.ret (.ite (.cmp .ne (.cmp .lt (.var 1) (.cst (.int 0))) (.cmp .lt (.var 2) (.cst (.int 0)))) (.bin .add (.var 3) (.cst (.int 1))) (.var 3))) .nil) .nil) (.cons (.ite (.cmp .eq (.var 0) (.cst (.str "euclid"))) (.cons (.ret (.ite (.cmp .gt (.var 2) (.cst (.int 0))) (.var 3) (.bin .add (.var 3) (.cst (.int 1))))) .nil) .nil) (.cons (.asg (.nm 5) (.bin .sub (.bin .mul (.cst (.int 2)) (.blt .abs (.cons (.var 4) .nil))) (.blt .abs (.cons (.var 2) .nil)))) (.cons (.ite (.cmp .eq (.var 5) (.cst (.int 0))) (.cons (.ret (.bin .add (.var 3) (.bin .mod (.var 3) (.cst (.int 2))))) .nil) .nil) (.cons (.ret (.ite (.cmp .gt (.var 5) (.cst (.int 0))) (.bin .add (.var 3) (.cst (.int 1))) (.var 3))) .nil)))))))))
def e_quotient_of : Ent := ⟨⟨("quotient_of", none), "quotient_of", "quotient_of", defArgs (top 37), defBody (top 37), defScope (top 37), [], []⟩, ["division", "a", "b", "whole", "rest", "gap"], ["division", "a", "b"], [], b_quotient_of, .fn⟩
abbrev i_reckoner_init : Nat := 19
def b_reckoner_init : Ss := (.cons (.asg (.tup (.cons (.fld (.var 0) "low") (.cons (.fld (.var 0) "high") .nil))) (.tup (.cons (.call 7 (.cons (.var 1) .nil)) (.cons (.call 8 (.cons (.var 1) .nil)) .nil)))) (.cons (.asg (.tup (.cons (.fld (.var 0) "overflow") (.cons (.fld (.var 0) "division") .nil))) (.tup (.cons (.sub (.var 1) (.cst (.int 2))) (.cons (.sub (.var 1) (.cst (.int 3))) .nil)))) .nil))
def e_reckoner_init : Ent := ⟨⟨("Reckoner", some "__init__"), "__init__", "Reckoner.__init__", defArgs ((cbody (top 38)).getD 0 (.Pass ⟨0, 0, 0, 0⟩)), defBody ((cbody (top 38)).getD 0 (.Pass ⟨0, 0, 0, 0⟩)), defScope ((cbody (top 38)).getD 0 (.Pass ⟨0, 0, 0, 0⟩)), [], []⟩, ["self", "form"], ["self", "form"], [], b_reckoner_init, .ini 0⟩
abbrev i_reckoner_fit : Nat := 20
def b_reckoner_fit : Ss := (.cons (.ite (.chn .le .le (.fld (.var 0) "low") (.var 1) (.fld (.var 0) "high")) (.cons (.ret (.var 1)) .nil) .nil) (.cons (.ite (.cmp .eq (.fld (.var 0) "overflow") (.cst (.str "trap"))) (.cons (.ret (.glo 5)) .nil) .nil) (.cons (.ite (.cmp .eq (.fld (.var 0) "overflow") (.cst (.str "saturate"))) (.cons (.ret (.ite (.cmp .lt (.var 1) (.fld (.var 0) "low")) (.fld (.var 0) "low") (.fld (.var 0) "high"))) .nil) .nil) (.cons (.ret (.bin .add (.bin .mod (.bin .sub (.var 1) (.fld (.var 0) "low")) (.bin .add (.bin .sub (.fld (.var 0) "high") (.fld (.var 0) "low")) (.cst (.int 1)))) (.fld (.var 0) "low"))) .nil))))
def e_reckoner_fit : Ent := ⟨⟨("Reckoner", some "fit"), "fit", "Reckoner.fit", defArgs ((cbody (top 38)).getD 1 (.Pass ⟨0, 0, 0, 0⟩)), defBody ((cbody (top 38)).getD 1 (.Pass ⟨0, 0, 0, 0⟩)), defScope ((cbody (top 38)).getD 1 (.Pass ⟨0, 0, 0, 0⟩)), [], []⟩, ["self", "value"], ["self", "value"], [], b_reckoner_fit, .mth 0⟩
abbrev i_reckoner_add : Nat := 21
def b_reckoner_add : Ss := (.cons (.ret (.ite (.cmp .isin (.glo 5) (.tup (.cons (.var 1) (.cons (.var 2) .nil)))) (.glo 5) (.mth 20 0 "fit" (.var 0) (.cons (.bin .add (.var 1) (.var 2)) .nil)))) .nil)
def e_reckoner_add : Ent := ⟨⟨("Reckoner", some "add"), "add", "Reckoner.add", defArgs ((cbody (top 38)).getD 2 (.Pass ⟨0, 0, 0, 0⟩)), defBody ((cbody (top 38)).getD 2 (.Pass ⟨0, 0, 0, 0⟩)), defScope ((cbody (top 38)).getD 2 (.Pass ⟨0, 0, 0, 0⟩)), [], []⟩, ["self", "a", "b"], ["self", "a", "b"], [], b_reckoner_add, .mth 0⟩
abbrev i_reckoner_subtract : Nat := 22
def b_reckoner_subtract : Ss := (.cons (.ret (.ite (.cmp .isin (.glo 5) (.tup (.cons (.var 1) (.cons (.var 2) .nil)))) (.glo 5) (.mth 20 0 "fit" (.var 0) (.cons (.bin .sub (.var 1) (.var 2)) .nil)))) .nil)
def e_reckoner_subtract : Ent := ⟨⟨("Reckoner", some "subtract"), "subtract", "Reckoner.subtract", defArgs ((cbody (top 38)).getD 3 (.Pass ⟨0, 0, 0, 0⟩)), defBody ((cbody (top 38)).getD 3 (.Pass ⟨0, 0, 0, 0⟩)), defScope ((cbody (top 38)).getD 3 (.Pass ⟨0, 0, 0, 0⟩)), [], []⟩, ["self", "a", "b"], ["self", "a", "b"], [], b_reckoner_subtract, .mth 0⟩
abbrev i_reckoner_multiply : Nat := 23
def b_reckoner_multiply : Ss := (.cons (.ret (.ite (.cmp .isin (.glo 5) (.tup (.cons (.var 1) (.cons (.var 2) .nil)))) (.glo 5) (.mth 20 0 "fit" (.var 0) (.cons (.bin .mul (.var 1) (.var 2)) .nil)))) .nil)
def e_reckoner_multiply : Ent := ⟨⟨("Reckoner", some "multiply"), "multiply", "Reckoner.multiply", defArgs ((cbody (top 38)).getD 4 (.Pass ⟨0, 0, 0, 0⟩)), defBody ((cbody (top 38)).getD 4 (.Pass ⟨0, 0, 0, 0⟩)), defScope ((cbody (top 38)).getD 4 (.Pass ⟨0, 0, 0, 0⟩)), [], []⟩, ["self", "a", "b"], ["self", "a", "b"], [], b_reckoner_multiply, .mth 0⟩
abbrev i_reckoner_negate : Nat := 24
def b_reckoner_negate : Ss := (.cons (.ret (.ite (.cmp .eq (.var 1) (.glo 5)) (.glo 5) (.mth 20 0 "fit" (.var 0) (.cons (.bin .sub (.cst (.int 0)) (.var 1)) .nil)))) .nil)
def e_reckoner_negate : Ent := ⟨⟨("Reckoner", some "negate"), "negate", "Reckoner.negate", defArgs ((cbody (top 38)).getD 5 (.Pass ⟨0, 0, 0, 0⟩)), defBody ((cbody (top 38)).getD 5 (.Pass ⟨0, 0, 0, 0⟩)), defScope ((cbody (top 38)).getD 5 (.Pass ⟨0, 0, 0, 0⟩)), [], []⟩, ["self", "a"], ["self", "a"], [], b_reckoner_negate, .mth 0⟩
abbrev i_reckoner_divide : Nat := 25
def b_reckoner_divide : Ss := (.cons (.ret (.ite (.cmp .isin (.glo 5) (.tup (.cons (.var 1) (.cons (.var 2) .nil)))) (.glo 5) (.mth 20 0 "fit" (.var 0) (.cons (.call 18 (.cons (.fld (.var 0) "division") (.cons (.var 1) (.cons (.var 2) .nil)))) .nil)))) .nil)
def e_reckoner_divide : Ent := ⟨⟨("Reckoner", some "divide"), "divide", "Reckoner.divide", defArgs ((cbody (top 38)).getD 6 (.Pass ⟨0, 0, 0, 0⟩)), defBody ((cbody (top 38)).getD 6 (.Pass ⟨0, 0, 0, 0⟩)), defScope ((cbody (top 38)).getD 6 (.Pass ⟨0, 0, 0, 0⟩)), [], []⟩, ["self", "a", "b"], ["self", "a", "b"], [], b_reckoner_divide, .mth 0⟩
abbrev i_reckoner_remainder : Nat := 26
def b_reckoner_remainder : Ss := (.cons (.ret (.mth 20 0 "fit" (.var 0) (.cons (.bin .sub (.var 1) (.bin .mul (.var 2) (.call 18 (.cons (.fld (.var 0) "division") (.cons (.var 1) (.cons (.var 2) .nil)))))) .nil))) .nil)
def e_reckoner_remainder : Ent := ⟨⟨("Reckoner", some "remainder"), "remainder", "Reckoner.remainder", defArgs ((cbody (top 38)).getD 7 (.Pass ⟨0, 0, 0, 0⟩)), defBody ((cbody (top 38)).getD 7 (.Pass ⟨0, 0, 0, 0⟩)), defScope ((cbody (top 38)).getD 7 (.Pass ⟨0, 0, 0, 0⟩)), [], []⟩, ["self", "a", "b"], ["self", "a", "b"], [], b_reckoner_remainder, .mth 0⟩
abbrev i_need_pair : Nat := 27
def b_need_pair : Ss := (.cons (.exp (.call 6 (.cons (.var 0) .nil))) (.cons (.exp (.call 10 (.cons (.var 0) (.cons (.var 1) .nil)))) (.cons (.exp (.call 10 (.cons (.var 0) (.cons (.var 2) .nil)))) (.cons (.ret (.mk 19 0 (.cons (.var 0) .nil))) .nil))))
def e_need_pair : Ent := ⟨⟨("need_pair", none), "need_pair", "need_pair", defArgs (top 39), defBody (top 39), defScope (top 39), [], []⟩, ["form", "a", "b"], ["form", "a", "b"], [], b_need_pair, .fn⟩
abbrev i_fit : Nat := 28
def b_fit : Ss := (.cons (.exp (.call 6 (.cons (.var 0) .nil))) (.cons (.ite (.not (.call 1 (.cons (.var 1) (.cons (.bin .sub (.cst (.int 0)) (.glo 6)) (.cons (.glo 6) .nil))))) (.cons (.raise 2) .nil) .nil) (.cons (.ret (.mth 20 0 "fit" (.mk 19 0 (.cons (.var 0) .nil)) (.cons (.var 1) .nil))) .nil)))
def e_fit : Ent := ⟨⟨("fit", none), "fit", "fit", defArgs (top 40), defBody (top 40), defScope (top 40), [], []⟩, ["form", "value"], ["form", "value"], [], b_fit, .fn⟩
abbrev i_add : Nat := 29
def b_add : Ss := (.cons (.ret (.mth 21 0 "add" (.call 27 (.cons (.var 0) (.cons (.var 1) (.cons (.var 2) .nil)))) (.cons (.var 1) (.cons (.var 2) .nil)))) .nil)
def e_add : Ent := ⟨⟨("add", none), "add", "add", defArgs (top 41), defBody (top 41), defScope (top 41), [], []⟩, ["form", "a", "b"], ["form", "a", "b"], [], b_add, .fn⟩
abbrev i_subtract : Nat := 30
def b_subtract : Ss := (.cons (.ret (.mth 22 0 "subtract" (.call 27 (.cons (.var 0) (.cons (.var 1) (.cons (.var 2) .nil)))) (.cons (.var 1) (.cons (.var 2) .nil)))) .nil)
def e_subtract : Ent := ⟨⟨("subtract", none), "subtract", "subtract", defArgs (top 42), defBody (top 42), defScope (top 42), [], []⟩, ["form", "a", "b"], ["form", "a", "b"], [], b_subtract, .fn⟩
abbrev i_multiply : Nat := 31
def b_multiply : Ss := (.cons (.ret (.mth 23 0 "multiply" (.call 27 (.cons (.var 0) (.cons (.var 1) (.cons (.var 2) .nil)))) (.cons (.var 1) (.cons (.var 2) .nil)))) .nil)
def e_multiply : Ent := ⟨⟨("multiply", none), "multiply", "multiply", defArgs (top 43), defBody (top 43), defScope (top 43), [], []⟩, ["form", "a", "b"], ["form", "a", "b"], [], b_multiply, .fn⟩
abbrev i_negate : Nat := 32
def b_negate : Ss := (.cons (.exp (.call 6 (.cons (.var 0) .nil))) (.cons (.exp (.call 10 (.cons (.var 0) (.cons (.var 1) .nil)))) (.cons (.ret (.mth 24 0 "negate" (.mk 19 0 (.cons (.var 0) .nil)) (.cons (.var 1) .nil))) .nil)))
def e_negate : Ent := ⟨⟨("negate", none), "negate", "negate", defArgs (top 44), defBody (top 44), defScope (top 44), [], []⟩, ["form", "a"], ["form", "a"], [], b_negate, .fn⟩
abbrev i_divide : Nat := 33
def b_divide : Ss := (.cons (.asg (.nm 3) (.call 27 (.cons (.var 0) (.cons (.var 1) (.cons (.var 2) .nil))))) (.cons (.ite (.cmp .eq (.var 2) (.cst (.int 0))) (.cons (.raise 6) .nil) .nil) (.cons (.ret (.mth 25 0 "divide" (.var 3) (.cons (.var 1) (.cons (.var 2) .nil)))) .nil)))
def e_divide : Ent := ⟨⟨("divide", none), "divide", "divide", defArgs (top 45), defBody (top 45), defScope (top 45), [], []⟩, ["form", "a", "b", "reckoner"], ["form", "a", "b"], [], b_divide, .fn⟩
abbrev i_remainder : Nat := 34
def b_remainder : Ss := (.cons (.asg (.nm 3) (.call 27 (.cons (.var 0) (.cons (.var 1) (.cons (.var 2) .nil))))) (.cons (.ite (.cmp .eq (.var 2) (.cst (.int 0))) (.cons (.raise 6) .nil) .nil) (.cons (.ret (.mth 26 0 "remainder" (.var 3) (.cons (.var 1) (.cons (.var 2) .nil)))) .nil)))
def e_remainder : Ent := ⟨⟨("remainder", none), "remainder", "remainder", defArgs (top 46), defBody (top 46), defScope (top 46), [], []⟩, ["form", "a", "b", "reckoner"], ["form", "a", "b"], [], b_remainder, .fn⟩
abbrev i_need_rule : Nat := 35
def b_need_rule : Ss := (.cons (.ite (.or (.not (.isi (.var 0) .str)) (.cmp .notin (.var 0) (.glo 7))) (.cons (.raise 4) .nil) .nil) .nil)
def e_need_rule : Ent := ⟨⟨("need_rule", none), "need_rule", "need_rule", defArgs (top 52), defBody (top 52), defScope (top 52), [], []⟩, ["rule"], ["rule"], [], b_need_rule, .fn⟩
abbrev i_many_of : Nat := 36
def b_many_of : Ss := (.cons (.ret (.ite (.cmp .isin (.var 0) (.glo 8)) (.cst (.int 1)) (.ite (.cmp .isin (.var 0) (.glo 9)) (.cst (.int 3)) (.cst (.int 2))))) .nil)
def e_many_of : Ent := ⟨⟨("many_of", none), "many_of", "many_of", defArgs (top 53), defBody (top 53), defScope (top 53), [], []⟩, ["rule"], ["rule"], [], b_many_of, .fn⟩
abbrev i_rises : Nat := 37
def b_rises : Ss := (.cons (.ite (.cmp .isin (.glo 5) (.var 0)) (.cons (.ret (.cst (.bl false))) .nil) .nil) (.cons (.ret (.blt .all (.cons (.lc (.cmp .le (.sub (.var 0) (.bin .sub (.var 1) (.cst (.int 1)))) (.sub (.var 0) (.var 1))) 1 (.rg2 (.cst (.int 1)) (.blt .len (.cons (.var 0) .nil)))) .nil))) .nil))
def e_rises : Ent := ⟨⟨("rises", none), "rises", "rises", defArgs (top 54), defBody (top 54), defScope (top 54), [], []⟩, ["some", "index"], ["some"], [], b_rises, .fn⟩
abbrev i_trial_init : Nat := 38
def b_trial_init : Ss := (.cons (.asg (.fld (.var 0) "ops") (.mk 19 0 (.cons (.var 1) .nil))) .nil)
def e_trial_init : Ent := ⟨⟨("Trial", some "__init__"), "__init__", "Trial.__init__", defArgs ((cbody (top 55)).getD 0 (.Pass ⟨0, 0, 0, 0⟩)), defBody ((cbody (top 55)).getD 0 (.Pass ⟨0, 0, 0, 0⟩)), defScope ((cbody (top 55)).getD 0 (.Pass ⟨0, 0, 0, 0⟩)), [], []⟩, ["self", "form"], ["self", "form"], [], b_trial_init, .ini 1⟩
abbrev i_trial_single : Nat := 39
def b_trial_single : Ss := (.cons (.asg (.nm 3) (.fld (.var 0) "ops")) (.cons (.ite (.cmp .eq (.var 1) (.cst (.str "double negation"))) (.cons (.ret (.cmp .eq (.mth 24 0 "negate" (.var 3) (.cons (.mth 24 0 "negate" (.var 3) (.cons (.var 2) .nil)) .nil)) (.var 2))) .nil) .nil) (.cons (.ite (.cmp .eq (.var 1) (.cst (.str "shift"))) (.cons (.ret (.cmp .eq (.mth 25 0 "divide" (.var 3) (.cons (.var 2) (.cons (.cst (.int 2)) .nil))) (.bin .fdiv (.var 2) (.cst (.int 2))))) .nil) .nil) (.cons (.ite (.cmp .eq (.var 1) (.cst (.str "absolute value"))) (.cons (.ret (.call 37 (.cons (.lst (.cons (.cst (.int 0)) (.cons (.ite (.cmp .ge (.var 2) (.cst (.int 0))) (.var 2) (.mth 24 0 "negate" (.var 3) (.cons (.var 2) .nil))) .nil))) .nil))) .nil) .nil) (.cons (.ret (.call 37 (.cons (.lst (.cons (.cst (.int 0)) (.cons (.mth 23 0 "multiply" (.var 3) (.cons (.var 2) (.cons (.var 2) .nil))) .nil))) .nil))) .nil)))))
def e_trial_single : Ent := ⟨⟨("Trial", some "single"), "single", "Trial.single", defArgs ((cbody (top 55)).getD 1 (.Pass ⟨0, 0, 0, 0⟩)), defBody ((cbody (top 55)).getD 1 (.Pass ⟨0, 0, 0, 0⟩)), defScope ((cbody (top 55)).getD 1 (.Pass ⟨0, 0, 0, 0⟩)), [], []⟩, ["self", "rule", "a", "ops"], ["self", "rule", "a"], [], b_trial_single, .mth 1⟩
abbrev i_trial_pair : Nat := 40
def b_trial_pair : Ss := (.cons (.asg (.nm 4) (.fld (.var 0) "ops")) (.cons (.ite (.cmp .isin (.var 1) (.glo 10)) (.cons (.ret (.or (.cmp .eq (.var 3) (.cst (.int 0))) (.mth 41 1 "divided" (.var 0) (.cons (.var 1) (.cons (.var 2) (.cons (.var 3) .nil)))))) .nil) .nil) (.cons (.ite (.cmp .eq (.var 1) (.cst (.str "difference"))) (.cons (.ret (.cmp .eq (.mth 22 0 "subtract" (.var 4) (.cons (.var 2) (.cons (.var 3) .nil))) (.mth 21 0 "add" (.var 4) (.cons (.var 2) (.cons (.mth 24 0 "negate" (.var 4) (.cons (.var 3) .nil)) .nil))))) .nil) .nil) (.cons (.ite (.cmp .eq (.var 1) (.cst (.str "add back"))) (.cons (.ret (.cmp .eq (.mth 21 0 "add" (.var 4) (.cons (.mth 22 0 "subtract" (.var 4) (.cons (.var 2) (.cons (.var 3) .nil))) (.cons (.var 3) .nil))) (.var 2))) .nil) .nil) (.cons (.ite (.cmp .eq (.var 1) (.cst (.str "order by difference"))) (.cons (.asg (.nm 5) (.mth 22 0 "subtract" (.var 4) (.cons (.var 2) (.cons (.var 3) .nil)))) (.cons (.ret (.and (.cmp .ne (.var 5) (.glo 5)) (.cmp .eq (.cmp .lt (.var 2) (.var 3)) (.cmp .lt (.var 5) (.cst (.int 0)))))) .nil)) .nil) (.cons (.ite (.cmp .eq (.var 1) (.cst (.str "average"))) (.cons (.ret (.or (.cmp .gt (.var 2) (.var 3)) (.call 37 (.cons (.lst (.cons (.var 2) (.cons (.mth 21 0 "add" (.var 4) (.cons (.var 2) (.cons (.mth 25 0 "divide" (.var 4) (.cons (.mth 22 0 "subtract" (.var 4) (.cons (.var 3) (.cons (.var 2) .nil))) (.cons (.cst (.int 2)) .nil))) .nil))) (.cons (.var 3) .nil)))) .nil)))) .nil) .nil) (.cons (.ret (.or (.cmp .ne (.mth 23 0 "multiply" (.var 4) (.cons (.var 2) (.cons (.var 3) .nil))) (.cst (.int 0))) (.or (.cmp .eq (.var 2) (.cst (.int 0))) (.cmp .eq (.var 3) (.cst (.int 0)))))) .nil)))))))
def e_trial_pair : Ent := ⟨⟨("Trial", some "pair"), "pair", "Trial.pair", defArgs ((cbody (top 55)).getD 2 (.Pass ⟨0, 0, 0, 0⟩)), defBody ((cbody (top 55)).getD 2 (.Pass ⟨0, 0, 0, 0⟩)), defScope ((cbody (top 55)).getD 2 (.Pass ⟨0, 0, 0, 0⟩)), [], []⟩, ["self", "rule", "a", "b", "ops", "result"], ["self", "rule", "a", "b"], [], b_trial_pair, .mth 1⟩
abbrev i_trial_divided : Nat := 41
def b_trial_divided : Ss := (.cons (.asg (.nm 4) (.fld (.var 0) "ops")) (.cons (.ite (.cmp .eq (.var 1) (.cst (.str "division"))) (.cons (.ret (.cmp .eq (.mth 21 0 "add" (.var 4) (.cons (.mth 23 0 "multiply" (.var 4) (.cons (.mth 25 0 "divide" (.var 4) (.cons (.var 2) (.cons (.var 3) .nil))) (.cons (.var 3) .nil))) (.cons (.mth 26 0 "remainder" (.var 4) (.cons (.var 2) (.cons (.var 3) .nil))) .nil))) (.var 2))) .nil) .nil) (.cons (.ite (.cmp .eq (.var 1) (.cst (.str "remainder range"))) (.cons (.asg (.nm 5) (.mth 26 0 "remainder" (.var 4) (.cons (.var 2) (.cons (.var 3) .nil)))) (.cons (.ret (.and (.cmp .ne (.var 5) (.glo 5)) (.chn .le .lt (.cst (.int 0)) (.var 5) (.blt .abs (.cons (.var 3) .nil))))) .nil)) .nil) (.cons (.ret (.cmp .eq (.mth 25 0 "divide" (.var 4) (.cons (.mth 24 0 "negate" (.var 4) (.cons (.var 2) .nil)) (.cons (.var 3) .nil))) (.mth 24 0 "negate" (.var 4) (.cons (.mth 25 0 "divide" (.var 4) (.cons (.var 2) (.cons (.var 3) .nil))) .nil)))) .nil))))
def e_trial_divided : Ent := ⟨⟨("Trial", some "divided"), "divided", "Trial.divided", defArgs ((cbody (top 55)).getD 3 (.Pass ⟨0, 0, 0, 0⟩)), defBody ((cbody (top 55)).getD 3 (.Pass ⟨0, 0, 0, 0⟩)), defScope ((cbody (top 55)).getD 3 (.Pass ⟨0, 0, 0, 0⟩)), [], []⟩, ["self", "rule", "a", "b", "ops", "rest"], ["self", "rule", "a", "b"], [], b_trial_divided, .mth 1⟩
abbrev i_trial_triple : Nat := 42
def b_trial_triple : Ss := (.cons (.asg (.nm 5) (.fld (.var 0) "ops")) (.cons (.ite (.cmp .eq (.var 1) (.cst (.str "sum grouping"))) (.cons (.ret (.cmp .eq (.mth 21 0 "add" (.var 5) (.cons (.mth 21 0 "add" (.var 5) (.cons (.var 2) (.cons (.var 3) .nil))) (.cons (.var 4) .nil))) (.mth 21 0 "add" (.var 5) (.cons (.var 2) (.cons (.mth 21 0 "add" (.var 5) (.cons (.var 3) (.cons (.var 4) .nil))) .nil))))) .nil) .nil) (.cons (.ite (.cmp .eq (.var 1) (.cst (.str "product grouping"))) (.cons (.ret (.cmp .eq (.mth 23 0 "multiply" (.var 5) (.cons (.mth 23 0 "multiply" (.var 5) (.cons (.var 2) (.cons (.var 3) .nil))) (.cons (.var 4) .nil))) (.mth 23 0 "multiply" (.var 5) (.cons (.var 2) (.cons (.mth 23 0 "multiply" (.var 5) (.cons (.var 3) (.cons (.var 4) .nil))) .nil))))) .nil) .nil) (.cons (.ite (.cmp .eq (.var 1) (.cst (.str "distribution"))) (.cons (.ret (.cmp .eq (.mth 23 0 "multiply" (.var 5) (.cons (.var 2) (.cons (.mth 21 0 "add" (.var 5) (.cons (.var 3) (.cons (.var 4) .nil))) .nil))) (.mth 21 0 "add" (.var 5) (.cons (.mth 23 0 "multiply" (.var 5) (.cons (.var 2) (.cons (.var 3) .nil))) (.cons (.mth 23 0 "multiply" (.var 5) (.cons (.var 2) (.cons (.var 4) .nil))) .nil))))) .nil) .nil) (.cons (.ite (.cmp .eq (.var 1) (.cst (.str "monotone sum"))) (.cons (.ret (.or (.cmp .gt (.var 2) (.var 3)) (.call 37 (.cons (.lst (.cons (.mth 21 0 "add" (.var 5) (.cons (.var 2) (.cons (.var 4) .nil))) (.cons (.mth 21 0 "add" (.var 5) (.cons (.var 3) (.cons (.var 4) .nil))) .nil))) .nil)))) .nil) .nil) (.cons (.ret (.or (.cmp .eq (.var 2) (.cst (.int 0))) (.or (.cmp .eq (.var 3) (.var 4)) (.cmp .ne (.mth 23 0 "multiply" (.var 5) (.cons (.var 2) (.cons (.var 3) .nil))) (.mth 23 0 "multiply" (.var 5) (.cons (.var 2) (.cons (.var 4) .nil))))))) .nil))))))
def e_trial_triple : Ent := ⟨⟨("Trial", some "triple"), "triple", "Trial.triple", defArgs ((cbody (top 55)).getD 4 (.Pass ⟨0, 0, 0, 0⟩)), defBody ((cbody (top 55)).getD 4 (.Pass ⟨0, 0, 0, 0⟩)), defScope ((cbody (top 55)).getD 4 (.Pass ⟨0, 0, 0, 0⟩)), [], []⟩, ["self", "rule", "a", "b", "c", "ops"], ["self", "rule", "a", "b", "c"], [], b_trial_triple, .mth 1⟩
abbrev i_fits : Nat := 43
def b_fits : Ss := (.cons (.asg (.nm 3) (.mk 38 1 (.cons (.var 0) .nil))) (.cons (.ite (.cmp .isin (.var 1) (.glo 8)) (.cons (.ret (.mth 39 1 "single" (.var 3) (.cons (.var 1) (.cons (.sub (.var 2) (.cst (.int 0))) .nil)))) .nil) .nil) (.cons (.ite (.cmp .isin (.var 1) (.glo 9)) (.cons (.ret (.mth 42 1 "triple" (.var 3) (.cons (.var 1) (.cons (.sub (.var 2) (.cst (.int 0))) (.cons (.sub (.var 2) (.cst (.int 1))) (.cons (.sub (.var 2) (.cst (.int 2))) .nil)))))) .nil) .nil) (.cons (.ret (.mth 40 1 "pair" (.var 3) (.cons (.var 1) (.cons (.sub (.var 2) (.cst (.int 0))) (.cons (.sub (.var 2) (.cst (.int 1))) .nil))))) .nil))))
def e_fits : Ent := ⟨⟨("fits", none), "fits", "fits", defArgs (top 56), defBody (top 56), defScope (top 56), [], []⟩, ["form", "rule", "numbers", "trial"], ["form", "rule", "numbers"], [], b_fits, .fn⟩
abbrev i_arity : Nat := 44
def b_arity : Ss := (.cons (.exp (.call 35 (.cons (.var 0) .nil))) (.cons (.ret (.call 36 (.cons (.var 0) .nil))) .nil))
def e_arity : Ent := ⟨⟨("arity", none), "arity", "arity", defArgs (top 57), defBody (top 57), defScope (top 57), [], []⟩, ["rule"], ["rule"], [], b_arity, .fn⟩
abbrev i_holds_for : Nat := 45
def b_holds_for : Ss := (.cons (.exp (.call 6 (.cons (.var 0) .nil))) (.cons (.exp (.call 35 (.cons (.var 1) .nil))) (.cons (.ite (.or (.not (.isi (.var 2) .tuple)) (.cmp .ne (.blt .len (.cons (.var 2) .nil)) (.call 36 (.cons (.var 1) .nil)))) (.cons (.raise 5) .nil) .nil) (.cons (.ite (.not (.blt .all (.cons (.lc (.call 9 (.cons (.var 0) (.cons (.var 3) .nil))) 3 (.of (.var 2))) .nil))) (.cons (.raise 5) .nil) .nil) (.cons (.ret (.call 43 (.cons (.var 0) (.cons (.var 1) (.cons (.var 2) .nil))))) .nil)))))
def e_holds_for : Ent := ⟨⟨("holds_for", none), "holds_for", "holds_for", defArgs (top 58), defBody (top 58), defScope (top 58), [], []⟩, ["form", "rule", "numbers", "one"], ["form", "rule", "numbers"], [], b_holds_for, .fn⟩
abbrev i_holds_in : Nat := 46
def b_holds_in : Ss := (.cons (.ite (.cmp .isin (.var 1) (.glo 11)) (.cons (.ret (.call 47 (.cons (.var 0) (.cons (.var 1) .nil)))) .nil) .nil) (.cons (.ite (.or (.cmp .isin (.var 1) (.glo 10)) (.cmp .eq (.var 1) (.cst (.str "shift")))) (.cons (.ret (.call 48 (.cons (.var 0) (.cons (.var 1) .nil)))) .nil) .nil) (.cons (.ite (.cmp .isin (.var 1) (.glo 13)) (.cons (.ret (.call 49 (.cons (.var 0) (.cons (.var 1) .nil)))) .nil) .nil) (.cons (.ite (.cmp .isin (.var 1) (.glo 12)) (.cons (.ret (.or (.cmp .eq (.sub (.var 0) (.cst (.int 1))) (.cst (.str "symmetric"))) (.cmp .eq (.sub (.var 0) (.cst (.int 2))) (.cst (.str "wrap"))))) .nil) .nil) (.cons (.ite (.cmp .eq (.var 1) (.cst (.str "add back"))) (.cons (.ret (.cmp .eq (.sub (.var 0) (.cst (.int 2))) (.cst (.str "wrap")))) .nil) .nil) (.cons (.asg (.nm 2) (.and (.cmp .eq (.sub (.var 0) (.cst (.int 1))) (.cst (.str "symmetric"))) (.call 16 (.cons (.sub (.var 0) (.cst (.int 0))) .nil)))) (.cons (.ite (.cmp .eq (.var 1) (.cst (.str "zero product"))) (.cons (.ret (.or (.cmp .ne (.sub (.var 0) (.cst (.int 2))) (.cst (.str "wrap"))) (.var 2))) .nil) .nil) (.cons (.ret (.and (.cmp .eq (.sub (.var 0) (.cst (.int 2))) (.cst (.str "wrap"))) (.var 2))) .nil))))))))
def e_holds_in : Ent := ⟨⟨("holds_in", none), "holds_in", "holds_in", defArgs (top 63), defBody (top 63), defScope (top 63), [], []⟩, ["form", "rule", "field"], ["form", "rule"], [], b_holds_in, .fn⟩
abbrev i_grouped : Nat := 47
def b_grouped : Ss := (.cons (.par 2 3 (.sub (.var 0) (.cst (.int 1))) (.sub (.var 0) (.cst (.int 2)))) (.cons (.ite (.cmp .eq (.var 3) (.cst (.str "wrap"))) (.cons (.ret (.cst (.bl true))) .nil) .nil) (.cons (.ite (.cmp .eq (.var 1) (.cst (.str "sum grouping"))) (.cons (.ret (.cmp .eq (.var 2) (.cst (.str "unsigned")))) .nil) .nil) (.cons (.ite (.cmp .eq (.var 1) (.cst (.str "distribution"))) (.cons (.ret (.and (.cmp .eq (.var 3) (.cst (.str "saturate"))) (.cmp .eq (.var 2) (.cst (.str "unsigned"))))) .nil) .nil) (.cons (.ret (.and (.cmp .eq (.var 3) (.cst (.str "saturate"))) (.cmp .ne (.var 2) (.cst (.str "twos"))))) .nil)))))
def e_grouped : Ent := ⟨⟨("grouped", none), "grouped", "grouped", defArgs (top 64), defBody (top 64), defScope (top 64), [], []⟩, ["form", "rule", "signs", "overflow"], ["form", "rule"], [], b_grouped, .fn⟩
abbrev i_divided : Nat := 48
def b_divided : Ss := (.cons (.par3 2 3 4 (.sub (.var 0) (.cst (.int 1))) (.sub (.var 0) (.cst (.int 2))) (.sub (.var 0) (.cst (.int 3)))) (.cons (.asg (.nm 5) (.cmp .eq (.var 2) (.cst (.str "unsigned")))) (.cons (.ite (.cmp .eq (.var 1) (.cst (.str "division"))) (.cons (.ite (.or (.cmp .eq (.var 3) (.cst (.str "wrap"))) (.and (.cmp .eq (.var 2) (.cst (.str "symmetric"))) (.cmp .eq (.var 4) (.cst (.str "zero"))))) (.cons (.ret (.cst (.bl true))) .nil) .nil) (.cons (.ret (.and (.var 5) (.cmp .isin (.var 4) (.tup (.cons (.cst (.str "floor")) (.cons (.cst (.str "zero")) (.cons (.cst (.str "euclid")) .nil))))))) .nil)) .nil) (.cons (.ite (.cmp .eq (.var 1) (.cst (.str "remainder range"))) (.cons (.ret (.or (.cmp .eq (.var 4) (.cst (.str "euclid"))) (.and (.var 5) (.or (.cmp .isin (.var 4) (.tup (.cons (.cst (.str "floor")) (.cons (.cst (.str "zero")) .nil)))) (.cmp .eq (.var 3) (.cst (.str "saturate"))))))) .nil) .nil) (.cons (.ite (.cmp .eq (.var 1) (.cst (.str "shift"))) (.cons (.ret (.or (.cmp .isin (.var 4) (.tup (.cons (.cst (.str "floor")) (.cons (.cst (.str "euclid")) .nil)))) (.and (.var 5) (.cmp .eq (.var 4) (.cst (.str "zero")))))) .nil) .nil) (.cons (.ite (.var 5) (.cons (.ret (.or (.cmp .eq (.var 3) (.cst (.str "saturate"))) (.and (.cmp .eq (.var 3) (.cst (.str "trap"))) (.cmp .eq (.var 4) (.cst (.str "ceiling")))))) .nil) .nil) (.cons (.ret (.and (.cmp .eq (.var 2) (.cst (.str "symmetric"))) (.cmp .isin (.var 4) (.tup (.cons (.cst (.str "zero")) (.cons (.cst (.str "even")) .nil)))))) .nil)))))))
def e_divided : Ent := ⟨⟨("divided", none), "divided", "divided", defArgs (top 65), defBody (top 65), defScope (top 65), [], []⟩, ["form", "rule", "signs", "overflow", "division", "plain"], ["form", "rule"], [], b_divided, .fn⟩
abbrev i_ordered : Nat := 49
def b_ordered : Ss := (.cons (.par 2 3 (.sub (.var 0) (.cst (.int 1))) (.sub (.var 0) (.cst (.int 2)))) (.cons (.ite (.cmp .eq (.var 1) (.cst (.str "absolute value"))) (.cons (.ret (.or (.cmp .ne (.var 2) (.cst (.str "twos"))) (.cmp .eq (.var 3) (.cst (.str "saturate"))))) .nil) .nil) (.cons (.ite (.cmp .eq (.var 1) (.cst (.str "order by difference"))) (.cons (.ret (.and (.cmp .eq (.var 3) (.cst (.str "saturate"))) (.cmp .ne (.var 2) (.cst (.str "unsigned"))))) .nil) .nil) (.cons (.ite (.cmp .eq (.var 1) (.cst (.str "monotone sum"))) (.cons (.ret (.cmp .eq (.var 3) (.cst (.str "saturate")))) .nil) .nil) (.cons (.ite (.cmp .eq (.var 1) (.cst (.str "average"))) (.cons (.ret (.or (.cmp .eq (.var 2) (.cst (.str "unsigned"))) (.cmp .eq (.var 3) (.cst (.str "saturate"))))) .nil) .nil) (.cons (.ret (.or (.cmp .eq (.var 3) (.cst (.str "saturate"))) (.and (.cmp .eq (.var 2) (.cst (.str "unsigned"))) (.cmp .eq (.var 3) (.cst (.str "wrap")))))) .nil))))))
def e_ordered : Ent := ⟨⟨("ordered", none), "ordered", "ordered", defArgs (top 66), defBody (top 66), defScope (top 66), [], []⟩, ["form", "rule", "signs", "overflow"], ["form", "rule"], [], b_ordered, .fn⟩
abbrev i_breaker_init : Nat := 50
def b_breaker_init : Ss := (.cons (.asg (.tup (.cons (.fld (.var 0) "width") (.cons (.fld (.var 0) "signs") (.cons (.fld (.var 0) "overflow") (.cons (.fld (.var 0) "division") .nil))))) (.var 1)) (.cons (.asg (.tup (.cons (.fld (.var 0) "low") (.cons (.fld (.var 0) "high") .nil))) (.tup (.cons (.call 7 (.cons (.var 1) .nil)) (.cons (.call 8 (.cons (.var 1) .nil)) .nil)))) .nil))
def e_breaker_init : Ent := ⟨⟨("Breaker", some "__init__"), "__init__", "Breaker.__init__", defArgs ((cbody (top 67)).getD 0 (.Pass ⟨0, 0, 0, 0⟩)), defBody ((cbody (top 67)).getD 0 (.Pass ⟨0, 0, 0, 0⟩)), defScope ((cbody (top 67)).getD 0 (.Pass ⟨0, 0, 0, 0⟩)), [], []⟩, ["self", "form"], ["self", "form"], [], b_breaker_init, .ini 2⟩
abbrev i_breaker_grouped : Nat := 51
def b_breaker_grouped : Ss := (.cons (.ite (.cmp .eq (.var 1) (.cst (.str "sum grouping"))) (.cons (.ret (.tup (.cons (.fld (.var 0) "high") (.cons (.cst (.int 1)) (.cons (.neg (.cst (.int 1))) .nil))))) .nil) .nil) (.cons (.ite (.cmp .eq (.var 1) (.cst (.str "product grouping"))) (.cons (.ret (.ite (.cmp .eq (.fld (.var 0) "overflow") (.cst (.str "trap"))) (.tup (.cons (.fld (.var 0) "high") (.cons (.cst (.int 2)) (.cons (.cst (.int 0)) .nil)))) (.tup (.cons (.fld (.var 0) "low") (.cons (.neg (.cst (.int 1))) (.cons (.neg (.cst (.int 1))) .nil)))))) .nil) .nil) (.cons (.ret (.ite (.cmp .eq (.fld (.var 0) "overflow") (.cst (.str "trap"))) (.tup (.cons (.cst (.int 0)) (.cons (.fld (.var 0) "high") (.cons (.cst (.int 1)) .nil)))) (.tup (.cons (.cst (.int 2)) (.cons (.fld (.var 0) "high") (.cons (.neg (.cst (.int 1))) .nil)))))) .nil)))
def e_breaker_grouped : Ent := ⟨⟨("Breaker", some "grouped"), "grouped", "Breaker.grouped", defArgs ((cbody (top 67)).getD 1 (.Pass ⟨0, 0, 0, 0⟩)), defBody ((cbody (top 67)).getD 1 (.Pass ⟨0, 0, 0, 0⟩)), defScope ((cbody (top 67)).getD 1 (.Pass ⟨0, 0, 0, 0⟩)), [], []⟩, ["self", "rule"], ["self", "rule"], [], b_breaker_grouped, .mth 2⟩
abbrev i_breaker_signed : Nat := 52
def b_breaker_signed : Ss := (.cons (.ite (.cmp .eq (.var 1) (.cst (.str "double negation"))) (.cons (.ret (.ite (.cmp .eq (.fld (.var 0) "signs") (.cst (.str "twos"))) (.tup (.cons (.fld (.var 0) "low") .nil)) (.tup (.cons (.cst (.int 1)) .nil)))) .nil) .nil) (.cons (.ret (.ite (.cmp .eq (.fld (.var 0) "signs") (.cst (.str "twos"))) (.tup (.cons (.neg (.cst (.int 1))) (.cons (.fld (.var 0) "low") .nil))) (.tup (.cons (.cst (.int 1)) (.cons (.cst (.int 1)) .nil))))) .nil))
def e_breaker_signed : Ent := ⟨⟨("Breaker", some "signed"), "signed", "Breaker.signed", defArgs ((cbody (top 67)).getD 2 (.Pass ⟨0, 0, 0, 0⟩)), defBody ((cbody (top 67)).getD 2 (.Pass ⟨0, 0, 0, 0⟩)), defScope ((cbody (top 67)).getD 2 (.Pass ⟨0, 0, 0, 0⟩)), [], []⟩, ["self", "rule"], ["self", "rule"], [], b_breaker_signed, .mth 2⟩
abbrev i_breaker_whole : Nat := 53
def b_breaker_whole : Ss := (.cons (.ite (.cmp .eq (.fld (.var 0) "signs") (.cst (.str "twos"))) (.cons (.ret (.tup (.cons (.fld (.var 0) "low") (.cons (.neg (.cst (.int 1))) .nil)))) .nil) .nil) (.cons (.ite (.cmp .eq (.fld (.var 0) "signs") (.cst (.str "unsigned"))) (.cons (.ret (.ite (.cmp .eq (.fld (.var 0) "division") (.cst (.str "ceiling"))) (.tup (.cons (.cst (.int 1)) (.cons (.cst (.int 2)) .nil))) (.tup (.cons (.cst (.int 3)) (.cons (.cst (.int 2)) .nil))))) .nil) .nil) (.cons (.ret (.ite (.cmp .isin (.fld (.var 0) "division") (.tup (.cons (.cst (.str "floor")) (.cons (.cst (.str "euclid")) .nil)))) (.tup (.cons (.fld (.var 0) "low") (.cons (.cst (.int 2)) .nil))) (.tup (.cons (.fld (.var 0) "high") (.cons (.cst (.int 2)) .nil))))) .nil)))
def e_breaker_whole : Ent := ⟨⟨("Breaker", some "whole"), "whole", "Breaker.whole", defArgs ((cbody (top 67)).getD 3 (.Pass ⟨0, 0, 0, 0⟩)), defBody ((cbody (top 67)).getD 3 (.Pass ⟨0, 0, 0, 0⟩)), defScope ((cbody (top 67)).getD 3 (.Pass ⟨0, 0, 0, 0⟩)), [], []⟩, ["self"], ["self"], [], b_breaker_whole, .mth 2⟩
abbrev i_breaker_turned : Nat := 54
def b_breaker_turned : Ss := (.cons (.ite (.cmp .ne (.fld (.var 0) "signs") (.cst (.str "twos"))) (.cons (.ret (.tup (.cons (.cst (.int 1)) (.cons (.cst (.int 2)) .nil)))) .nil) .nil) (.cons (.ite (.or (.cmp .ne (.fld (.var 0) "overflow") (.cst (.str "saturate"))) (.cmp .notin (.fld (.var 0) "division") (.tup (.cons (.cst (.str "ceiling")) (.cons (.cst (.str "even")) .nil))))) (.cons (.ret (.tup (.cons (.fld (.var 0) "low") (.cons (.cst (.int 2)) .nil)))) .nil) .nil) (.cons (.ite (.cmp .eq (.fld (.var 0) "division") (.cst (.str "ceiling"))) (.cons (.ret (.tup (.cons (.cst (.int 1)) (.cons (.cst (.int 2)) .nil)))) .nil) .nil) (.cons (.ite (.cmp .eq (.bin .mod (.fld (.var 0) "width") (.cst (.int 2))) (.cst (.int 0))) (.cons (.ret (.tup (.cons (.fld (.var 0) "low") (.cons (.bin .fdiv (.bin .sub (.call 3 (.cons (.fld (.var 0) "width") .nil)) (.cst (.int 1))) (.cst (.int 3))) .nil)))) .nil) .nil) (.cons (.ret (.tup (.cons (.fld (.var 0) "low") (.cons (.bin .sub (.call 3 (.cons (.bin .fdiv (.bin .add (.fld (.var 0) "width") (.cst (.int 1))) (.cst (.int 2))) .nil)) (.cst (.int 2))) .nil)))) .nil)))))
def e_breaker_turned : Ent := ⟨⟨("Breaker", some "turned"), "turned", "Breaker.turned", defArgs ((cbody (top 67)).getD 4 (.Pass ⟨0, 0, 0, 0⟩)), defBody ((cbody (top 67)).getD 4 (.Pass ⟨0, 0, 0, 0⟩)), defScope ((cbody (top 67)).getD 4 (.Pass ⟨0, 0, 0, 0⟩)), [], []⟩, ["self"], ["self"], [], b_breaker_turned, .mth 2⟩
abbrev i_breaker_multiplied : Nat := 55
def b_breaker_multiplied : Ss := (.cons (.ite (.cmp .eq (.var 1) (.cst (.str "square"))) (.cons (.ite (.cmp .eq (.fld (.var 0) "overflow") (.cst (.str "trap"))) (.cons (.ret (.tup (.cons (.fld (.var 0) "high") .nil))) .nil) .nil) (.cons (.asg (.nm 2) (.call 3 (.cons (.bin .fdiv (.fld (.var 0) "width") (.cst (.int 2))) .nil))) (.cons (.ret (.ite (.cmp .eq (.bin .mod (.fld (.var 0) "width") (.cst (.int 2))) (.cst (.int 1))) (.tup (.cons (.var 2) .nil)) (.tup (.cons (.bin .sub (.var 2) (.cst (.int 1))) .nil)))) .nil))) .nil) (.cons (.ite (.and (.cmp .eq (.var 1) (.cst (.str "cancellation"))) (.cmp .ne (.fld (.var 0) "overflow") (.cst (.str "wrap")))) (.cons (.ret (.tup (.cons (.cst (.int 2)) (.cons (.fld (.var 0) "high") (.cons (.bin .sub (.fld (.var 0) "high") (.cst (.int 1))) .nil))))) .nil) .nil) (.cons (.par 3 4 (.cst (.int 2)) (.ite (.cmp .eq (.fld (.var 0) "signs") (.cst (.str "twos"))) (.fld (.var 0) "low") (.call 3 (.cons (.bin .sub (.fld (.var 0) "width") (.cst (.int 1))) .nil)))) (.cons (.ite (.cmp .eq (.fld (.var 0) "signs") (.cst (.str "symmetric"))) (.cons (.asg (.nm 3) (.call 17 (.cons (.fld (.var 0) "width") .nil))) (.cons (.asg (.nm 4) (.bin .fdiv (.bin .sub (.call 3 (.cons (.fld (.var 0) "width") .nil)) (.cst (.int 1))) (.var 3))) .nil)) .nil) (.cons (.ret (.ite (.cmp .eq (.var 1) (.cst (.str "zero product"))) (.tup (.cons (.var 3) (.cons (.var 4) .nil))) (.tup (.cons (.var 3) (.cons (.cst (.int 0)) (.cons (.var 4) .nil)))))) .nil)))))
def e_breaker_multiplied : Ent := ⟨⟨("Breaker", some "multiplied"), "multiplied", "Breaker.multiplied", defArgs ((cbody (top 67)).getD 5 (.Pass ⟨0, 0, 0, 0⟩)), defBody ((cbody (top 67)).getD 5 (.Pass ⟨0, 0, 0, 0⟩)), defScope ((cbody (top 67)).getD 5 (.Pass ⟨0, 0, 0, 0⟩)), [], []⟩, ["self", "rule", "root", "first", "second"], ["self", "rule"], [], b_breaker_multiplied, .mth 2⟩
abbrev i_breaker_numbers : Nat := 56
def b_breaker_numbers : Ss := (.cons (.ite (.cmp .isin (.var 1) (.glo 11)) (.cons (.ret (.mth 51 2 "grouped" (.var 0) (.cons (.var 1) .nil))) .nil) .nil) (.cons (.ite (.cmp .isin (.var 1) (.glo 12)) (.cons (.ret (.mth 52 2 "signed" (.var 0) (.cons (.var 1) .nil))) .nil) .nil) (.cons (.ite (.cmp .eq (.var 1) (.cst (.str "division"))) (.cons (.ret (.mth 53 2 "whole" (.var 0) .nil)) .nil) .nil) (.cons (.ite (.cmp .eq (.var 1) (.cst (.str "remainder range"))) (.cons (.ret (.sub (.dct ["floor", "zero", "ceiling", "even"] (.cons (.tup (.cons (.cst (.int 1)) (.cons (.neg (.cst (.int 2))) .nil))) (.cons (.tup (.cons (.neg (.cst (.int 1))) (.cons (.cst (.int 2)) .nil))) (.cons (.tup (.cons (.cst (.int 1)) (.cons (.cst (.int 2)) .nil))) (.cons (.tup (.cons (.cst (.int 3)) (.cons (.cst (.int 2)) .nil))) .nil))))) (.fld (.var 0) "division"))) .nil) .nil) (.cons (.ite (.cmp .eq (.var 1) (.cst (.str "negated quotient"))) (.cons (.ret (.mth 54 2 "turned" (.var 0) .nil)) .nil) .nil) (.cons (.ite (.cmp .eq (.var 1) (.cst (.str "shift"))) (.cons (.ret (.sub (.dct ["zero", "ceiling", "even"] (.cons (.tup (.cons (.neg (.cst (.int 1))) .nil)) (.cons (.tup (.cons (.cst (.int 1)) .nil)) (.cons (.tup (.cons (.cst (.int 3)) .nil)) .nil)))) (.fld (.var 0) "division"))) .nil) .nil) (.cons (.ite (.cmp .eq (.var 1) (.cst (.str "absolute value"))) (.cons (.ret (.tup (.cons (.fld (.var 0) "low") .nil))) .nil) .nil) (.cons (.ite (.cmp .eq (.var 1) (.cst (.str "monotone sum"))) (.cons (.ret (.tup (.cons (.bin .sub (.fld (.var 0) "high") (.cst (.int 1))) (.cons (.fld (.var 0) "high") (.cons (.cst (.int 1)) .nil))))) .nil) .nil) (.cons (.ite (.cmp .isin (.var 1) (.tup (.cons (.cst (.str "add back")) (.cons (.cst (.str "order by difference")) (.cons (.cst (.str "average")) .nil))))) (.cons (.ret (.tup (.cons (.fld (.var 0) "low") (.cons (.cst (.int 1)) .nil)))) .nil) .nil) (.cons (.ret (.mth 55 2 "multiplied" (.var 0) (.cons (.var 1) .nil))) .nil))))))))))
def e_breaker_numbers : Ent := ⟨⟨("Breaker", some "numbers"), "numbers", "Breaker.numbers", defArgs ((cbody (top 67)).getD 6 (.Pass ⟨0, 0, 0, 0⟩)), defBody ((cbody (top 67)).getD 6 (.Pass ⟨0, 0, 0, 0⟩)), defScope ((cbody (top 67)).getD 6 (.Pass ⟨0, 0, 0, 0⟩)), [], []⟩, ["self", "rule"], ["self", "rule"], [], b_breaker_numbers, .mth 2⟩
abbrev i_holds : Nat := 57
def b_holds : Ss := (.cons (.exp (.call 6 (.cons (.var 0) .nil))) (.cons (.exp (.call 35 (.cons (.var 1) .nil))) (.cons (.ret (.call 46 (.cons (.var 0) (.cons (.var 1) .nil)))) .nil)))
def e_holds : Ent := ⟨⟨("holds", none), "holds", "holds", defArgs (top 68), defBody (top 68), defScope (top 68), [], []⟩, ["form", "rule"], ["form", "rule"], [], b_holds, .fn⟩
abbrev i_counterexample : Nat := 58
def b_counterexample : Ss := (.cons (.exp (.call 6 (.cons (.var 0) .nil))) (.cons (.exp (.call 35 (.cons (.var 1) .nil))) (.cons (.ret (.ite (.call 46 (.cons (.var 0) (.cons (.var 1) .nil))) (.cst .non) (.mth 56 2 "numbers" (.mk 50 2 (.cons (.var 0) .nil)) (.cons (.var 1) .nil)))) .nil)))
def e_counterexample : Ent := ⟨⟨("counterexample", none), "counterexample", "counterexample", defArgs (top 69), defBody (top 69), defScope (top 69), [], []⟩, ["form", "rule"], ["form", "rule"], [], b_counterexample, .fn⟩
abbrev i_profile_of : Nat := 59
def b_profile_of : Ss := (.cons (.ret (.blt .tuple (.cons (.lcc (.var 1) 1 (.of (.glo 7)) (.call 46 (.cons (.var 0) (.cons (.var 1) .nil)))) .nil))) .nil)
def e_profile_of : Ent := ⟨⟨("profile_of", none), "profile_of", "profile_of", defArgs (top 72), defBody (top 72), defScope (top 72), [], []⟩, ["form", "rule"], ["form"], [], b_profile_of, .fn⟩
abbrev i_some_formats : Nat := 60
def b_some_formats : Ss := .nil
def e_some_formats : Ent := ⟨⟨("some_formats", none), "some_formats", "some_formats", defArgs (top 73), defBody (top 73), defScope (top 73), [], []⟩, ["found", "w", "signs", "overflow", "division"], [], [], b_some_formats, .opq⟩
abbrev i_parted : Nat := 61
def b_parted : Ss := (.cons (.for_ (.nm 2) (.of (.call 60 .nil)) (.cons (.ite (.and (.call 46 (.cons (.var 2) (.cons (.var 0) .nil))) (.not (.call 46 (.cons (.var 2) (.cons (.var 1) .nil))))) (.cons (.ret (.var 2)) .nil) .nil) .nil)) (.cons (.ret (.cst .non)) .nil))
def e_parted : Ent := ⟨⟨("parted", none), "parted", "parted", defArgs (top 74), defBody (top 74), defScope (top 74), [], []⟩, ["one", "other", "form"], ["one", "other"], [], b_parted, .fn⟩
abbrev i_profile : Nat := 62
def b_profile : Ss := (.cons (.exp (.call 6 (.cons (.var 0) .nil))) (.cons (.ret (.call 59 (.cons (.var 0) .nil))) .nil))
def e_profile : Ent := ⟨⟨("profile", none), "profile", "profile", defArgs (top 75), defBody (top 75), defScope (top 75), [], []⟩, ["form"], ["form"], [], b_profile, .fn⟩
abbrev i_implies : Nat := 63
def b_implies : Ss := (.cons (.exp (.call 35 (.cons (.var 0) .nil))) (.cons (.exp (.call 35 (.cons (.var 1) .nil))) (.cons (.ret (.cmp .is (.call 61 (.cons (.var 0) (.cons (.var 1) .nil))) (.cst .non))) .nil)))
def e_implies : Ent := ⟨⟨("implies", none), "implies", "implies", defArgs (top 76), defBody (top 76), defScope (top 76), [], []⟩, ["one", "other"], ["one", "other"], [], b_implies, .fn⟩
abbrev i_parting : Nat := 64
def b_parting : Ss := (.cons (.exp (.call 35 (.cons (.var 0) .nil))) (.cons (.exp (.call 35 (.cons (.var 1) .nil))) (.cons (.ret (.call 61 (.cons (.var 0) (.cons (.var 1) .nil)))) .nil)))
def e_parting : Ent := ⟨⟨("parting", none), "parting", "parting", defArgs (top 77), defBody (top 77), defScope (top 77), [], []⟩, ["one", "other"], ["one", "other"], [], b_parting, .fn⟩
abbrev i_write_format : Nat := 65
def b_write_format : Ss := (.cons (.exp (.call 6 (.cons (.var 0) .nil))) (.cons (.ret (.txt .join (.cst (.str " ")) (.lc (.blt .str (.cons (.var 1) .nil)) 1 (.of (.var 0))))) .nil))
def e_write_format : Ent := ⟨⟨("write_format", none), "write_format", "write_format", defArgs (top 79), defBody (top 79), defScope (top 79), [], []⟩, ["form", "item"], ["form"], [], b_write_format, .fn⟩
abbrev i_law_taken : Nat := 66
def b_law_taken : Ss := (.cons (.ite (.cmp .gt (.sub (.var 0) (.cst (.int 3))) (.cst (.int 0))) (.cons (.asg (.nm 2) (.bin .mod (.blt .int (.cons (.sub (.var 0) (.cst (.int 3))) .nil)) (.var 1))) (.cons (.asg (.sub (.var 0) (.cst (.int 3))) (.bin .fdiv (.sub (.var 0) (.cst (.int 3))) (.var 1))) (.cons (.ret (.var 2)) .nil))) .nil) (.cons (.asg (.sub (.var 0) (.cst (.int 1))) (.bin .add (.sub (.var 0) (.cst (.int 1))) (.cst (.int 1)))) (.cons (.ite (.cmp .gt (.sub (.var 0) (.cst (.int 1))) (.blt .len (.cons (.sub (.var 0) (.cst (.int 0))) .nil))) (.cons (.asg (.sub (.var 0) (.cst (.int 2))) (.bin .mod (.blt .int (.cons (.bin .add (.bin .mul (.sub (.var 0) (.cst (.int 2))) (.cst (.int 48271))) (.cst (.int 11))) .nil)) (.cst (.int 2147483647)))) (.cons (.ret (.bin .mod (.blt .int (.cons (.bin .fdiv (.sub (.var 0) (.cst (.int 2))) (.cst (.int 7))) .nil)) (.var 1))) .nil)) .nil) (.cons (.asg (.nm 3) (.sub (.sub (.var 0) (.cst (.int 0))) (.bin .sub (.sub (.var 0) (.cst (.int 1))) (.cst (.int 1))))) (.cons (.asg (.sub (.var 0) (.cst (.int 2))) (.bin .mod (.blt .int (.cons (.bin .add (.bin .add (.bin .mul (.sub (.var 0) (.cst (.int 2))) (.cst (.int 48271))) (.var 3)) (.cst (.int 11))) .nil)) (.cst (.int 2147483647)))) (.cons (.ite (.cmp .ge (.var 3) (.bin .pow (.cst (.int 10)) (.cst (.int 18)))) (.cons (.asg (.sub (.var 0) (.cst (.int 3))) (.bin .fdiv (.var 3) (.var 1))) .nil) .nil) (.cons (.ret (.bin .mod (.blt .int (.cons (.var 3) .nil)) (.var 1))) .nil)))))))
def e_law_taken : Ent := ⟨⟨("_law_taken", none), "_law_taken", "_law_taken", defArgs (top 81), defBody (top 81), defScope (top 81), [], []⟩, ["_law_row", "_law_many_here", "_law_found", "_law_cell"], ["_law_row", "_law_many_here"], [], b_law_taken, .fn⟩
abbrev i_law_pick : Nat := 67
def b_law_pick : Ss := (.cons (.ret (.sub (.var 1) (.call 66 (.cons (.var 0) (.cons (.blt .len (.cons (.var 1) .nil)) .nil))))) .nil)
def e_law_pick : Ent := ⟨⟨("_law_pick", none), "_law_pick", "_law_pick", defArgs (top 82), defBody (top 82), defScope (top 82), [], []⟩, ["_law_row", "_law_kinds"], ["_law_row", "_law_kinds"], [], b_law_pick, .fn⟩
abbrev i_law_format : Nat := 68
def b_law_format : Ss := (.cons (.asg (.nm 2) (.blt .min (.cons (.var 1) (.cons (.call 67 (.cons (.var 0) (.cons (.lst (.cons (.cst (.int 4)) (.cons (.cst (.int 5)) (.cons (.cst (.int 5)) (.cons (.cst (.int 6)) (.cons (.cst (.int 7)) (.cons (.cst (.int 8)) (.cons (.cst (.int 13)) (.cons (.cst (.int 64)) (.cons (.bin .add (.cst (.int 4)) (.call 66 (.cons (.var 0) (.cons (.cst (.int 61)) .nil)))) .nil)))))))))) .nil))) .nil)))) (.cons (.par 3 4 (.call 67 (.cons (.var 0) (.cons (.lst (.cons (.cst (.str "symmetric")) (.cons (.cst (.str "twos")) (.cons (.cst (.str "unsigned")) .nil)))) .nil))) (.call 67 (.cons (.var 0) (.cons (.lst (.cons (.cst (.str "saturate")) (.cons (.cst (.str "trap")) (.cons (.cst (.str "wrap")) .nil)))) .nil)))) (.cons (.ret (.tup (.cons (.var 2) (.cons (.var 3) (.cons (.var 4) (.cons (.call 67 (.cons (.var 0) (.cons (.lst (.cons (.cst (.str "ceiling")) (.cons (.cst (.str "euclid")) (.cons (.cst (.str "even")) (.cons (.cst (.str "floor")) (.cons (.cst (.str "zero")) .nil)))))) .nil))) .nil)))))) .nil)))
def e_law_format : Ent := ⟨⟨("_law_format", none), "_law_format", "_law_format", defArgs (top 83), defBody (top 83), defScope (top 83), [], []⟩, ["_law_row", "_law_most", "_law_w", "_law_signs", "_law_overflow"], ["_law_row", "_law_most"], [], b_law_format, .fn⟩
abbrev i_law_low : Nat := 69
def b_law_low : Ss := (.cons (.ret (.sub (.dct ["symmetric", "twos", "unsigned"] (.cons (.bin .sub (.cst (.int 1)) (.bin .shl (.cst (.int 1)) (.bin .sub (.sub (.var 0) (.cst (.int 0))) (.cst (.int 1))))) (.cons (.bin .sub (.cst (.int 0)) (.bin .shl (.cst (.int 1)) (.bin .sub (.sub (.var 0) (.cst (.int 0))) (.cst (.int 1))))) (.cons (.cst (.int 0)) .nil)))) (.sub (.var 0) (.cst (.int 1))))) .nil)
def e_law_low : Ent := ⟨⟨("_law_low", none), "_law_low", "_law_low", defArgs (top 84), defBody (top 84), defScope (top 84), [], []⟩, ["_law_form"], ["_law_form"], [], b_law_low, .fn⟩
abbrev i_law_high : Nat := 70
def b_law_high : Ss := (.cons (.ret (.bin .sub (.bin .shl (.cst (.int 1)) (.bin .sub (.sub (.var 0) (.cst (.int 0))) (.blt .int (.cons (.cmp .ne (.sub (.var 0) (.cst (.int 1))) (.cst (.str "unsigned"))) .nil)))) (.cst (.int 1)))) .nil)
def e_law_high : Ent := ⟨⟨("_law_high", none), "_law_high", "_law_high", defArgs (top 85), defBody (top 85), defScope (top 85), [], []⟩, ["_law_form"], ["_law_form"], [], b_law_high, .fn⟩
abbrev i_law_rules : Nat := 71
def b_law_rules : Ss := (.cons (.asg (.nm 0) (.lst (.cons (.cst (.str "sum grouping")) (.cons (.cst (.str "product grouping")) (.cons (.cst (.str "distribution")) (.cons (.cst (.str "double negation")) (.cons (.cst (.str "difference")) (.cons (.cst (.str "add back")) (.cons (.cst (.str "division")) .nil))))))))) (.cons (.asg (.nm 0) (.bin .add (.var 0) (.lst (.cons (.cst (.str "remainder range")) (.cons (.cst (.str "negated quotient")) (.cons (.cst (.str "shift")) (.cons (.cst (.str "absolute value")) (.cons (.cst (.str "order by difference")) (.cons (.cst (.str "monotone sum")) .nil))))))))) (.cons (.ret (.bin .add (.var 0) (.lst (.cons (.cst (.str "average")) (.cons (.cst (.str "square")) (.cons (.cst (.str "zero product")) (.cons (.cst (.str "cancellation")) .nil))))))) .nil)))
def e_law_rules : Ent := ⟨⟨("_law_rules", none), "_law_rules", "_law_rules", defArgs (top 86), defBody (top 86), defScope (top 86), [], []⟩, ["_law_some"], [], [], b_law_rules, .fn⟩
abbrev i_law_many : Nat := 72
def b_law_many : Ss := (.cons (.ite (.cmp .isin (.var 0) (.lst (.cons (.cst (.str "sum grouping")) (.cons (.cst (.str "product grouping")) (.cons (.cst (.str "distribution")) (.cons (.cst (.str "monotone sum")) (.cons (.cst (.str "cancellation")) .nil))))))) (.cons (.ret (.cst (.int 3))) .nil) .nil) (.cons (.ret (.ite (.cmp .isin (.var 0) (.lst (.cons (.cst (.str "double negation")) (.cons (.cst (.str "shift")) (.cons (.cst (.str "absolute value")) (.cons (.cst (.str "square")) .nil)))))) (.cst (.int 1)) (.cst (.int 2)))) .nil))
def e_law_many : Ent := ⟨⟨("_law_many", none), "_law_many", "_law_many", defArgs (top 87), defBody (top 87), defScope (top 87), [], []⟩, ["_law_rule"], ["_law_rule"], [], b_law_many, .fn⟩
abbrev i_law_number : Nat := 73
def b_law_number : Ss := (.cons (.par 2 3 (.call 69 (.cons (.var 1) .nil)) (.call 70 (.cons (.var 1) .nil))) (.cons (.asg (.nm 4) (.lst (.cons (.var 2) (.cons (.bin .add (.var 2) (.cst (.int 1))) (.cons (.var 3) (.cons (.bin .sub (.var 3) (.cst (.int 1))) (.cons (.cst (.int 0)) (.cons (.cst (.int 1)) (.cons (.cst (.int 2)) (.cons (.cst (.int 3)) (.cons (.blt .max (.cons (.var 2) (.cons (.bin .sub (.cst (.int 0)) (.cst (.int 1))) .nil))) (.cons (.blt .max (.cons (.var 2) (.cons (.bin .sub (.cst (.int 0)) (.cst (.int 2))) .nil))) (.cons (.bin .fdiv (.var 3) (.cst (.int 2))) (.cons (.bin .add (.bin .fdiv (.var 3) (.cst (.int 2))) (.cst (.int 1))) (.cons (.bin .add (.var 2) (.bin .fdiv (.var 3) (.cst (.int 3)))) .nil))))))))))))))) (.cons (.asg (.nm 5) (.bin .add (.var 2) (.call 66 (.cons (.var 0) (.cons (.blt .min (.cons (.bin .add (.bin .sub (.var 3) (.var 2)) (.cst (.int 1))) (.cons (.bin .pow (.cst (.int 10)) (.cst (.int 18))) .nil))) .nil))))) (.cons (.ret (.call 67 (.cons (.var 0) (.cons (.lst (.cons (.call 67 (.cons (.var 0) (.cons (.var 4) .nil))) (.cons (.var 5) (.cons (.call 66 (.cons (.var 0) (.cons (.blt .min (.cons (.bin .add (.var 3) (.cst (.int 1))) (.cons (.cst (.int 99)) .nil))) .nil))) .nil)))) .nil)))) .nil))))
def e_law_number : Ent := ⟨⟨("_law_number", none), "_law_number", "_law_number", defArgs (top 88), defBody (top 88), defScope (top 88), [], []⟩, ["_law_row", "_law_form", "_law_low_here", "_law_high_here", "_law_near", "_law_far"], ["_law_row", "_law_form"], [], b_law_number, .fn⟩
abbrev c_reckoner : Nat := 0
abbrev c_trial : Nat := 1
abbrev c_breaker : Nat := 2
def L : Lw := ⟨[e_is_integer, e_is_in, e_is_list, e_two_to, e_is_word, e_is_format, e_need_format, e_low_of, e_high_of, e_has_number, e_need_number, e_lowest, e_highest, e_count_numbers, e_is_number, e_is_prime, e_is_mersenne_width, e_factor_of, e_quotient_of, e_reckoner_init, e_reckoner_fit, e_reckoner_add, e_reckoner_subtract, e_reckoner_multiply, e_reckoner_negate, e_reckoner_divide, e_reckoner_remainder, e_need_pair, e_fit, e_add, e_subtract, e_multiply, e_negate, e_divide, e_remainder, e_need_rule, e_many_of, e_rises, e_trial_init, e_trial_single, e_trial_pair, e_trial_divided, e_trial_triple, e_fits, e_arity, e_holds_for, e_holds_in, e_grouped, e_divided, e_ordered, e_breaker_init, e_breaker_grouped, e_breaker_signed, e_breaker_whole, e_breaker_turned, e_breaker_multiplied, e_breaker_numbers, e_holds, e_counterexample, e_profile_of, e_some_formats, e_parted, e_profile, e_implies, e_parting, e_write_format, e_law_taken, e_law_pick, e_law_format, e_law_low, e_law_high, e_law_rules, e_law_many, e_law_number], ["Reckoner", "Trial", "Breaker"], [("LEAST_WIDTH", .int 4), ("MOST_WIDTH", .int 64), ("SIGNS", .sts ["symmetric", "twos", "unsigned"]), ("OVERFLOWS", .sts ["saturate", "trap", "wrap"]), ("DIVISIONS", .sts ["ceiling", "euclid", "even", "floor", "zero"]), ("TRAP", .str "trap"), ("MOST_INTEGER", .int 1000000000000000000000000000000000000000000000000000000000000), ("NAMES", .sts ["sum grouping", "product grouping", "distribution", "double negation", "difference", "add back", "division", "remainder range", "negated quotient", "shift", "absolute value", "order by difference", "monotone sum", "average", "square", "zero product", "cancellation"]), ("SINGLE", .sts ["double negation", "shift", "absolute value", "square"]), ("TRIPLE", .sts ["sum grouping", "product grouping", "distribution", "monotone sum", "cancellation"]), ("DIVIDED", .sts ["division", "remainder range", "negated quotient"]), ("GROUPS", .sts ["sum grouping", "product grouping", "distribution"]), ("SIGNED", .sts ["double negation", "difference"]), ("ORDERS", .sts ["absolute value", "order by difference", "monotone sum", "average", "square"])], ["WidthError", "BadFormat", "BadInteger", "BadNumber", "BadRule", "BadNumbers", "NotMade"], [(0, "low"), (0, "high"), (0, "overflow"), (0, "division"), (1, "ops"), (2, "width"), (2, "signs"), (2, "overflow"), (2, "division"), (2, "low"), (2, "high")]⟩
def b_wrong : Ss := (.cons (.asg (.nm 1) (.lst (.cons (.ise (.var 2) 1) (.cons (.ise (.var 2) 2) (.cons (.ise (.var 2) 3) (.cons (.ise (.var 2) 4) (.cons (.ise (.var 2) 5) .nil))))))) (.cons (.ret (.ite (.cmp .eq (.lms .count (.var 1) (.cst (.bl true))) (.cst (.int 1))) (.sub (.lst (.cons (.cst (.str "format")) (.cons (.cst (.str "integer")) (.cons (.cst (.str "number")) (.cons (.cst (.str "rule")) (.cons (.cst (.str "numbers")) .nil)))))) (.lms .index (.var 1) (.cst (.bl true)))) (.cst (.str "other")))) .nil))
def wd : Wd := ⟨⟨("_law_wrong", none), "_law_wrong", "_law_wrong", defArgs (top 89), defBody (top 89), defScope (top 89), [], []⟩, ["_law_work", "_law_known", "_law_e"], "_law_work", 2, "_law_e", "WidthError", 0, b_wrong, (.str "")⟩
def b_law : Ss := (.cons (.newL 1 (.cons (.var 0) (.cons (.cst (.int 0)) (.cons (.cst (.int 15308)) (.cons (.cst (.int 0)) .nil))))) (.cons (.asg (.nm 2) (.call 68 (.cons (.var 1) (.cons (.cst (.int 64)) .nil)))) (.cons (.asg (.nm 3) (.lst (.cons (.cst .non) (.cons (.tup .nil) (.cons (.blt .list (.cons (.var 2) .nil)) (.cons (.slt (.var 2) (.cst (.int 3))) (.cons (.bin .add (.var 2) (.tup (.cons (.cst (.int 0)) .nil))) (.cons (.bin .add (.tup (.cons (.cst (.int 3)) .nil)) (.slf (.var 2) (.cst (.int 1)))) (.cons (.bin .add (.tup (.cons (.cst (.int 65)) .nil)) (.slf (.var 2) (.cst (.int 1)))) (.cons (.bin .add (.tup (.cons (.cst (.bl true)) .nil)) (.slf (.var 2) (.cst (.int 1)))) (.cons (.bin .add (.tup (.cons (.cst (.int 8)) (.cons (.cst (.str "Twos")) .nil))) (.slf (.var 2) (.cst (.int 2)))) .nil))))))))))) (.cons (.asg (.nm 3) (.bin .add (.var 3) (.lst (.cons (.tup (.cons (.cst (.int 8)) (.cons (.cst (.str "twos")) (.cons (.cst (.str "wraps")) (.cons (.cst (.str "floor")) .nil))))) (.cons (.tup (.cons (.cst (.int 8)) (.cons (.cst (.str "twos")) (.cons (.cst (.str "wrap")) (.cons (.cst (.str "down")) .nil))))) (.cons (.tup (.cons (.cst (.int 8)) (.cons (.cst .non) (.cons (.cst (.str "wrap")) (.cons (.cst (.str "floor")) .nil))))) (.cons (.tup (.cons (.cst (.str "8")) (.cons (.cst (.str "twos")) (.cons (.cst (.str "wrap")) (.cons (.cst (.str "floor")) .nil))))) (.cons (.cst (.str "format")) (.cons (.cst (.int 8)) .nil))))))))) (.cons (.asg (.nm 4) (.sub (.var 3) (.call 66 (.cons (.var 1) (.cons (.cst (.int 15)) .nil))))) (.cons (.asg (.nm 5) (.lst (.cons (.lam (.call 11 (.cons (.var 4) .nil))) (.cons (.lam (.call 12 (.cons (.var 4) .nil))) (.cons (.lam (.call 13 (.cons (.var 4) .nil))) (.cons (.lam (.call 14 (.cons (.var 4) (.cons (.cst (.int 0)) .nil)))) (.cons (.lam (.call 28 (.cons (.var 4) (.cons (.cst .non) .nil)))) .nil))))))) (.cons (.asg (.nm 5) (.bin .add (.var 5) (.lst (.cons (.lam (.call 29 (.cons (.var 4) (.cons (.cst .non) (.cons (.cst .non) .nil))))) (.cons (.lam (.call 30 (.cons (.var 4) (.cons (.cst (.int 0)) (.cons (.cst (.int 0)) .nil))))) (.cons (.lam (.call 31 (.cons (.var 4) (.cons (.cst (.int 0)) (.cons (.cst (.int 0)) .nil))))) (.cons (.lam (.call 32 (.cons (.var 4) (.cons (.cst .non) .nil)))) .nil))))))) (.cons (.asg (.nm 5) (.bin .add (.var 5) (.lst (.cons (.lam (.call 33 (.cons (.var 4) (.cons (.cst (.int 0)) (.cons (.cst (.int 0)) .nil))))) (.cons (.lam (.call 34 (.cons (.var 4) (.cons (.cst (.int 0)) (.cons (.cst (.int 0)) .nil))))) (.cons (.lam (.call 45 (.cons (.var 4) (.cons (.cst .non) (.cons (.cst .non) .nil))))) (.cons (.lam (.call 57 (.cons (.var 4) (.cons (.cst .non) .nil)))) .nil))))))) (.cons (.asg (.nm 5) (.bin .add (.var 5) (.lst (.cons (.lam (.call 58 (.cons (.var 4) (.cons (.cst .non) .nil)))) (.cons (.lam (.call 62 (.cons (.var 4) .nil))) (.cons (.lam (.call 65 (.cons (.var 4) .nil))) .nil)))))) (.cons (.ite (.or (.cmp .ne (.wrg 0 (.sub (.var 5) (.call 66 (.cons (.var 1) (.cons (.cst (.int 16)) .nil))))) (.cst (.str "format"))) (.or (.cmp .isnot (.call 5 (.cons (.var 4) .nil)) (.cst (.bl false))) (.cmp .isnot (.call 5 (.cons (.var 2) .nil)) (.cst (.bl true))))) (.cons (.ret (.cst (.bl false))) .nil) .nil) (.cons (.asg (.tup (.cons (.nm 6) (.cons (.nm 3) .nil))) (.tup (.cons (.call 73 (.cons (.var 1) (.cons (.var 2) .nil))) (.cons (.lst (.cons (.cst .non) (.cons (.bin .add (.call 70 (.cons (.var 2) .nil)) (.cst (.int 1))) (.cons (.bin .sub (.call 69 (.cons (.var 2) .nil)) (.cst (.int 1))) (.cons (.cst (.bl true)) (.cons (.cst (.str "1")) (.cons (.tup (.cons (.cst (.int 1)) .nil)) (.cons (.lst (.cons (.cst (.int 1)) .nil)) (.cons (.cst (.str "trap")) .nil))))))))) .nil)))) (.cons (.asg (.nm 4) (.sub (.var 3) (.call 66 (.cons (.var 1) (.cons (.cst (.int 8)) .nil))))) (.cons (.asg (.nm 5) (.lst (.cons (.lam (.call 29 (.cons (.var 2) (.cons (.var 4) (.cons (.cst .non) .nil))))) (.cons (.lam (.call 29 (.cons (.var 2) (.cons (.var 6) (.cons (.var 4) .nil))))) (.cons (.lam (.call 30 (.cons (.var 2) (.cons (.var 4) (.cons (.cst (.int 0)) .nil))))) (.cons (.lam (.call 30 (.cons (.var 2) (.cons (.var 6) (.cons (.var 4) .nil))))) .nil)))))) (.cons (.asg (.nm 5) (.bin .add (.var 5) (.lst (.cons (.lam (.call 31 (.cons (.var 2) (.cons (.var 4) (.cons (.var 6) .nil))))) (.cons (.lam (.call 32 (.cons (.var 2) (.cons (.var 4) .nil)))) (.cons (.lam (.call 33 (.cons (.var 2) (.cons (.var 4) (.cons (.cst (.int 0)) .nil))))) (.cons (.lam (.call 33 (.cons (.var 2) (.cons (.var 6) (.cons (.var 4) .nil))))) .nil))))))) (.cons (.asg (.nm 5) (.bin .add (.var 5) (.lst (.cons (.lam (.call 34 (.cons (.var 2) (.cons (.var 4) (.cons (.cst (.int 0)) .nil))))) (.cons (.lam (.call 34 (.cons (.var 2) (.cons (.var 6) (.cons (.var 4) .nil))))) .nil))))) (.cons (.ite (.or (.cmp .ne (.wrg 0 (.sub (.var 5) (.call 66 (.cons (.var 1) (.cons (.cst (.int 10)) .nil))))) (.cst (.str "number"))) (.or (.cmp .isnot (.call 14 (.cons (.var 2) (.cons (.var 4) .nil))) (.cst (.bl false))) (.cmp .isnot (.call 14 (.cons (.var 2) (.cons (.var 6) .nil))) (.cst (.bl true))))) (.cons (.ret (.cst (.bl false))) .nil) .nil) (.cons (.ite (.cmp .ne (.wrg 0 (.lam (.call 28 (.cons (.var 2) (.cons (.call 67 (.cons (.var 1) (.cons (.lst (.cons (.cst .non) (.cons (.bin .add (.bin .pow (.cst (.int 10)) (.cst (.int 60))) (.cst (.int 1))) (.cons (.bin .sub (.bin .sub (.cst (.int 0)) (.bin .pow (.cst (.int 10)) (.cst (.int 60)))) (.cst (.int 1))) (.cons (.cst (.bl true)) (.cons (.cst (.str "0")) (.cons (.tup (.cons (.cst (.int 0)) .nil)) .nil))))))) .nil))) .nil))))) (.cst (.str "integer"))) (.cons (.ret (.cst (.bl false))) .nil) .nil) (.cons (.asg (.nm 4) (.call 67 (.cons (.var 1) (.cons (.lst (.cons (.cst .non) (.cons (.cst (.str "")) (.cons (.cst (.str "Shift")) (.cons (.cst (.str "sum")) (.cons (.cst (.int 0)) (.cons (.tup (.cons (.cst (.str "shift")) .nil)) (.cons (.cst (.str "square ")) .nil)))))))) .nil)))) (.cons (.asg (.nm 5) (.lst (.cons (.lam (.call 44 (.cons (.var 4) .nil))) (.cons (.lam (.call 45 (.cons (.var 2) (.cons (.var 4) (.cons (.cst .non) .nil))))) (.cons (.lam (.call 57 (.cons (.var 2) (.cons (.var 4) .nil)))) (.cons (.lam (.call 58 (.cons (.var 2) (.cons (.var 4) .nil)))) .nil)))))) (.cons (.asg (.nm 5) (.bin .add (.var 5) (.lst (.cons (.lam (.call 63 (.cons (.var 4) (.cons (.cst .non) .nil)))) (.cons (.lam (.call 63 (.cons (.cst (.str "shift")) (.cons (.var 4) .nil)))) (.cons (.lam (.call 64 (.cons (.var 4) (.cons (.cst .non) .nil)))) (.cons (.lam (.call 64 (.cons (.cst (.str "shift")) (.cons (.var 4) .nil)))) .nil))))))) (.cons (.ite (.cmp .ne (.wrg 0 (.sub (.var 5) (.call 66 (.cons (.var 1) (.cons (.cst (.int 8)) .nil))))) (.cst (.str "rule"))) (.cons (.ret (.cst (.bl false))) .nil) .nil) (.cons (.asg (.nm 7) (.call 67 (.cons (.var 1) (.cons (.call 71 .nil) .nil)))) (.cons (.asg (.nm 8) (.bin .mul (.tup (.cons (.var 6) .nil)) (.call 72 (.cons (.var 7) .nil)))) (.cons (.asg (.nm 4) (.call 67 (.cons (.var 1) (.cons (.lst (.cons (.cst .non) (.cons (.tup .nil) (.cons (.blt .list (.cons (.var 8) .nil)) (.cons (.bin .add (.var 8) (.tup (.cons (.var 6) .nil))) (.cons (.bin .mul (.tup (.cons (.bin .add (.call 70 (.cons (.var 2) .nil)) (.cst (.int 1))) .nil)) (.call 72 (.cons (.var 7) .nil))) (.cons (.var 6) (.cons (.bin .add (.slt (.var 8) (.neg (.cst (.int 1)))) (.tup (.cons (.cst .non) .nil))) (.cons (.bin .mul (.tup (.cons (.cst (.bl true)) .nil)) (.call 72 (.cons (.var 7) .nil))) .nil))))))))) .nil)))) (.cons (.ret (.cmp .eq (.wrg 0 (.lam (.call 45 (.cons (.var 2) (.cons (.var 7) (.cons (.var 4) .nil)))))) (.cst (.str "numbers")))) .nil)))))))))))))))))))))))))
def e_law : Ent := ⟨⟨("law", none), "law", "law", defArgs (top 90), defBody (top 90), defScope (top 90), [], []⟩, ["_law_script", "_law_row", "_law_form", "_law_odd", "_law_bad", "_law_works", "_law_one", "_law_rule", "_law_some"], ["_law_script"], [1], b_law, .fn⟩
def X : Lx := ⟨L, e_law, wd⟩
def nm0 : List Str := ["is_integer", "is_in", "is_list", "WidthError", "BadFormat", "BadInteger", "BadNumber", "BadRule", "BadNumbers", "NotMade", "LEAST_WIDTH", "MOST_WIDTH", "SIGNS", "OVERFLOWS", "DIVISIONS", "two_to", "is_word", "is_format", "need_format", "low_of", "high_of", "has_number", "need_number", "lowest", "highest", "count_numbers", "is_number", "is_prime", "is_mersenne_width", "factor_of"]
def nm1 : List Str := ["TRAP", "MOST_INTEGER", "quotient_of", "Reckoner", "need_pair", "fit", "add", "subtract", "multiply", "negate", "divide", "remainder", "NAMES", "SINGLE", "TRIPLE", "DIVIDED", "need_rule", "many_of", "rises", "Trial", "fits", "arity", "holds_for", "GROUPS", "SIGNED", "ORDERS", "holds_in", "grouped", "divided", "ordered"]
def nm2 : List Str := ["Breaker", "holds", "counterexample", "SHOWN", "profile_of", "some_formats", "parted", "profile", "implies", "parting", "write_format", "_law_taken", "_law_pick", "_law_format", "_law_low", "_law_high", "_law_rules", "_law_many", "_law_number", "_law_wrong"]
def loose : List Str := nm0 ++ nm1 ++ nm2
abbrev lawAt : Nat := 90
set_option autoImplicit false
end K08

section
set_option Elab.async false
set_option linter.all false
set_option maxRecDepth 100000
set_option maxHeartbeats 0
namespace K08
open PySem PySem.Spec PyProof.Rows L2 Dz
abbrev Rw : PySem.W.OpenRow := PySem.W.OpenLaw.row PySem.Challenge.rw_widthrules_k08_whole_refused
def fa : List He.Fa := X.fa
def fn : List He.DefD := X.fn
def tf : List He.Defn := [(("law" : Str), none)]
abbrev hk : PySem.W.Hook := He.hookX 5 fa fn [] tf X.ex
def ob (s : PySem.W.SharedT) : He.AlX := He.obsX 5 fa fn [] tf X.ex (HandSHeadRun.getT s)
theorem ob_eq (s : PySem.W.SharedT) : ob s = hk.obs s.abs := He.obsX_eq (HandSHeadRun.getT_eq s)
noncomputable abbrev Rn (w : World) (os : OsState) : Option PySem.W.SharedT := HandSHeadRun.endF (HandSHeadRun.stepQ (HandSHeadRun.denQ HandSHeadRun.tabQ) Rw.prog w) 8000 Rw.prog w os
theorem runA1 (w : World) (os : OsState) : (Rn w os).map (fun s => pA ((fa.take (fa.length / 2)).take ((fa.take (fa.length / 2)).length / 2)) (HandSHeadRun.getT s)) = some true := by kernel_rfl
theorem runA2 (w : World) (os : OsState) : (Rn w os).map (fun s => pA ((fa.take (fa.length / 2)).drop ((fa.take (fa.length / 2)).length / 2)) (HandSHeadRun.getT s)) = some true := by kernel_rfl
theorem runA0 (w : World) (os : OsState) : (Rn w os).map (fun s => pA (fa.take (fa.length / 2)) (HandSHeadRun.getT s)) = some true := pA_run ((fa.take (fa.length / 2)).length / 2) (runA1 w os) (runA2 w os)
theorem runA4 (w : World) (os : OsState) : (Rn w os).map (fun s => pA ((fa.drop (fa.length / 2)).take ((fa.drop (fa.length / 2)).length / 2)) (HandSHeadRun.getT s)) = some true := by kernel_rfl
theorem runA5 (w : World) (os : OsState) : (Rn w os).map (fun s => pA ((fa.drop (fa.length / 2)).drop ((fa.drop (fa.length / 2)).length / 2)) (HandSHeadRun.getT s)) = some true := by kernel_rfl
theorem runA3 (w : World) (os : OsState) : (Rn w os).map (fun s => pA (fa.drop (fa.length / 2)) (HandSHeadRun.getT s)) = some true := pA_run ((fa.drop (fa.length / 2)).length / 2) (runA4 w os) (runA5 w os)
theorem runF7 (w : World) (os : OsState) : (Rn w os).map (fun s => pF ((fn.take (fn.length / 2)).take ((fn.take (fn.length / 2)).length / 2)) (HandSHeadRun.getT s)) = some (true, ((fn.take (fn.length / 2)).take ((fn.take (fn.length / 2)).length / 2)).map He.DefD.val) := by kernel_rfl
theorem runF8 (w : World) (os : OsState) : (Rn w os).map (fun s => pF ((fn.take (fn.length / 2)).drop ((fn.take (fn.length / 2)).length / 2)) (HandSHeadRun.getT s)) = some (true, ((fn.take (fn.length / 2)).drop ((fn.take (fn.length / 2)).length / 2)).map He.DefD.val) := by kernel_rfl
theorem runF6 (w : World) (os : OsState) : (Rn w os).map (fun s => pF (fn.take (fn.length / 2)) (HandSHeadRun.getT s)) = some (true, (fn.take (fn.length / 2)).map He.DefD.val) := pF_run ((fn.take (fn.length / 2)).length / 2) (runF7 w os) (runF8 w os)
theorem runF10 (w : World) (os : OsState) : (Rn w os).map (fun s => pF ((fn.drop (fn.length / 2)).take ((fn.drop (fn.length / 2)).length / 2)) (HandSHeadRun.getT s)) = some (true, ((fn.drop (fn.length / 2)).take ((fn.drop (fn.length / 2)).length / 2)).map He.DefD.val) := by kernel_rfl
theorem runF11 (w : World) (os : OsState) : (Rn w os).map (fun s => pF ((fn.drop (fn.length / 2)).drop ((fn.drop (fn.length / 2)).length / 2)) (HandSHeadRun.getT s)) = some (true, ((fn.drop (fn.length / 2)).drop ((fn.drop (fn.length / 2)).length / 2)).map He.DefD.val) := by kernel_rfl
theorem runF9 (w : World) (os : OsState) : (Rn w os).map (fun s => pF (fn.drop (fn.length / 2)) (HandSHeadRun.getT s)) = some (true, (fn.drop (fn.length / 2)).map He.DefD.val) := pF_run ((fn.drop (fn.length / 2)).length / 2) (runF10 w os) (runF11 w os)
theorem runX (w : World) (os : OsState) : (Rn w os).map (fun s => pX tf X.ex (HandSHeadRun.getT s)) = some true := by kernel_rfl
theorem runT (w : World) : HandSHeadRun.RunEq Rw (PySem.W.view Rw.prog [lawAt]) hk ob 8000 loose w := by
  intro os
  exact join_run (fa.length / 2) (fn.length / 2) (by kernel_rfl) (runA0 w os) (runA3 w os) (runF6 w os) (runF9 w os) (runX w os)
theorem o_is_integer : EOk L e_is_integer := ⟨⟨by kernel_rfl, by kernel_rfl, by kernel_rfl, by decide +kernel, by kernel_rfl, by decide +kernel, by decide +kernel⟩, .inr (by kernel_rfl), rfl, fun _ _ _ _ _ _ us hl => match us, hl with | [_], _ => by rfl, rfl⟩
theorem o_is_in : EOk L e_is_in := ⟨⟨by kernel_rfl, by kernel_rfl, by kernel_rfl, by decide +kernel, by kernel_rfl, by decide +kernel, by decide +kernel⟩, .inr (by kernel_rfl), rfl, fun _ _ _ _ _ _ us hl => match us, hl with | [_, _, _], _ => by rfl, rfl⟩
theorem o_is_list : EOk L e_is_list := ⟨⟨by kernel_rfl, by kernel_rfl, by kernel_rfl, by decide +kernel, by kernel_rfl, by decide +kernel, by decide +kernel⟩, .inr (by kernel_rfl), rfl, fun _ _ _ _ _ _ us hl => match us, hl with | [_, _, _], _ => by rfl, rfl⟩
theorem o_two_to : EOk L e_two_to := ⟨⟨by kernel_rfl, by kernel_rfl, by kernel_rfl, by decide +kernel, by kernel_rfl, by decide +kernel, by decide +kernel⟩, .inr (by kernel_rfl), rfl, fun _ _ _ _ _ _ us hl => match us, hl with | [_], _ => by rfl, rfl⟩
theorem o_is_word : EOk L e_is_word := ⟨⟨by kernel_rfl, by kernel_rfl, by kernel_rfl, by decide +kernel, by kernel_rfl, by decide +kernel, by decide +kernel⟩, .inr (by kernel_rfl), rfl, fun _ _ _ _ _ _ us hl => match us, hl with | [_, _], _ => by rfl, rfl⟩
theorem o_is_format : EOk L e_is_format := ⟨⟨by kernel_rfl, by kernel_rfl, by kernel_rfl, by decide +kernel, by kernel_rfl, by decide +kernel, by decide +kernel⟩, .inr (by kernel_rfl), rfl, fun _ _ _ _ _ _ us hl => match us, hl with | [_], _ => by rfl, rfl⟩
theorem o_need_format : EOk L e_need_format := ⟨⟨by kernel_rfl, by kernel_rfl, by kernel_rfl, by decide +kernel, by kernel_rfl, by decide +kernel, by decide +kernel⟩, .inr (by kernel_rfl), rfl, fun _ _ _ _ _ _ us hl => match us, hl with | [_], _ => by rfl, rfl⟩
theorem o_low_of : EOk L e_low_of := ⟨⟨by kernel_rfl, by kernel_rfl, by kernel_rfl, by decide +kernel, by kernel_rfl, by decide +kernel, by decide +kernel⟩, .inr (by kernel_rfl), rfl, fun _ _ _ _ _ _ us hl => match us, hl with | [_], _ => by rfl, rfl⟩
theorem o_high_of : EOk L e_high_of := ⟨⟨by kernel_rfl, by kernel_rfl, by kernel_rfl, by decide +kernel, by kernel_rfl, by decide +kernel, by decide +kernel⟩, .inr (by kernel_rfl), rfl, fun _ _ _ _ _ _ us hl => match us, hl with | [_], _ => by rfl, rfl⟩
theorem o_has_number : EOk L e_has_number := ⟨⟨by kernel_rfl, by kernel_rfl, by kernel_rfl, by decide +kernel, by kernel_rfl, by decide +kernel, by decide +kernel⟩, .inr (by kernel_rfl), rfl, fun _ _ _ _ _ _ us hl => match us, hl with | [_, _], _ => by rfl, rfl⟩
theorem o_need_number : EOk L e_need_number := ⟨⟨by kernel_rfl, by kernel_rfl, by kernel_rfl, by decide +kernel, by kernel_rfl, by decide +kernel, by decide +kernel⟩, .inr (by kernel_rfl), rfl, fun _ _ _ _ _ _ us hl => match us, hl with | [_, _], _ => by rfl, rfl⟩
theorem o_lowest : EOk L e_lowest := ⟨⟨by kernel_rfl, by kernel_rfl, by kernel_rfl, by decide +kernel, by kernel_rfl, by decide +kernel, by decide +kernel⟩, .inr (by kernel_rfl), rfl, fun _ _ _ _ _ _ us hl => match us, hl with | [_], _ => by rfl, rfl⟩
theorem o_highest : EOk L e_highest := ⟨⟨by kernel_rfl, by kernel_rfl, by kernel_rfl, by decide +kernel, by kernel_rfl, by decide +kernel, by decide +kernel⟩, .inr (by kernel_rfl), rfl, fun _ _ _ _ _ _ us hl => match us, hl with | [_], _ => by rfl, rfl⟩
theorem o_count_numbers : EOk L e_count_numbers := ⟨⟨by kernel_rfl, by kernel_rfl, by kernel_rfl, by decide +kernel, by kernel_rfl, by decide +kernel, by decide +kernel⟩, .inr (by kernel_rfl), rfl, fun _ _ _ _ _ _ us hl => match us, hl with | [_], _ => by rfl, rfl⟩
theorem o_is_number : EOk L e_is_number := ⟨⟨by kernel_rfl, by kernel_rfl, by kernel_rfl, by decide +kernel, by kernel_rfl, by decide +kernel, by decide +kernel⟩, .inr (by kernel_rfl), rfl, fun _ _ _ _ _ _ us hl => match us, hl with | [_, _], _ => by rfl, rfl⟩
theorem o_is_prime : EOk L e_is_prime := ⟨⟨by kernel_rfl, by kernel_rfl, by kernel_rfl, by decide +kernel, by kernel_rfl, by decide +kernel, by decide +kernel⟩, .inr (by kernel_rfl), rfl, fun _ _ _ _ _ _ us hl => match us, hl with | [_], _ => by rfl, rfl⟩
theorem o_is_mersenne_width : EOk L e_is_mersenne_width := ⟨⟨by kernel_rfl, by kernel_rfl, by kernel_rfl, by decide +kernel, by kernel_rfl, by decide +kernel, by decide +kernel⟩, .inr (by kernel_rfl), rfl, fun _ _ _ _ _ _ us hl => match us, hl with | [_], _ => by rfl, rfl⟩
theorem o_factor_of : EOk L e_factor_of := ⟨⟨by kernel_rfl, by kernel_rfl, by kernel_rfl, by decide +kernel, by kernel_rfl, by decide +kernel, by decide +kernel⟩, .inr (by kernel_rfl), rfl, fun _ _ _ _ _ _ us hl => match us, hl with | [_], _ => by rfl, rfl⟩
theorem o_quotient_of : EOk L e_quotient_of := ⟨⟨by kernel_rfl, by kernel_rfl, by kernel_rfl, by decide +kernel, by kernel_rfl, by decide +kernel, by decide +kernel⟩, .inr (by kernel_rfl), rfl, fun _ _ _ _ _ _ us hl => match us, hl with | [_, _, _], _ => by rfl, rfl⟩
theorem o_reckoner_init : EOk L e_reckoner_init := ⟨⟨by kernel_rfl, by kernel_rfl, by kernel_rfl, by decide +kernel, by kernel_rfl, by decide +kernel, by decide +kernel⟩, .inr (by kernel_rfl), rfl, fun _ _ _ _ _ _ us hl => match us, hl with | [_, _], _ => by rfl, ⟨rfl, by decide, by decide⟩⟩
theorem o_reckoner_fit : EOk L e_reckoner_fit := ⟨⟨by kernel_rfl, by kernel_rfl, by kernel_rfl, by decide +kernel, by kernel_rfl, by decide +kernel, by decide +kernel⟩, .inr (by kernel_rfl), rfl, fun _ _ _ _ _ _ us hl => match us, hl with | [_, _], _ => by rfl, ⟨rfl, by decide⟩⟩
theorem o_reckoner_add : EOk L e_reckoner_add := ⟨⟨by kernel_rfl, by kernel_rfl, by kernel_rfl, by decide +kernel, by kernel_rfl, by decide +kernel, by decide +kernel⟩, .inr (by kernel_rfl), rfl, fun _ _ _ _ _ _ us hl => match us, hl with | [_, _, _], _ => by rfl, ⟨rfl, by decide⟩⟩
theorem o_reckoner_subtract : EOk L e_reckoner_subtract := ⟨⟨by kernel_rfl, by kernel_rfl, by kernel_rfl, by decide +kernel, by kernel_rfl, by decide +kernel, by decide +kernel⟩, .inr (by kernel_rfl), rfl, fun _ _ _ _ _ _ us hl => match us, hl with | [_, _, _], _ => by rfl, ⟨rfl, by decide⟩⟩
theorem o_reckoner_multiply : EOk L e_reckoner_multiply := ⟨⟨by kernel_rfl, by kernel_rfl, by kernel_rfl, by decide +kernel, by kernel_rfl, by decide +kernel, by decide +kernel⟩, .inr (by kernel_rfl), rfl, fun _ _ _ _ _ _ us hl => match us, hl with | [_, _, _], _ => by rfl, ⟨rfl, by decide⟩⟩
theorem o_reckoner_negate : EOk L e_reckoner_negate := ⟨⟨by kernel_rfl, by kernel_rfl, by kernel_rfl, by decide +kernel, by kernel_rfl, by decide +kernel, by decide +kernel⟩, .inr (by kernel_rfl), rfl, fun _ _ _ _ _ _ us hl => match us, hl with | [_, _], _ => by rfl, ⟨rfl, by decide⟩⟩
theorem o_reckoner_divide : EOk L e_reckoner_divide := ⟨⟨by kernel_rfl, by kernel_rfl, by kernel_rfl, by decide +kernel, by kernel_rfl, by decide +kernel, by decide +kernel⟩, .inr (by kernel_rfl), rfl, fun _ _ _ _ _ _ us hl => match us, hl with | [_, _, _], _ => by rfl, ⟨rfl, by decide⟩⟩
theorem o_reckoner_remainder : EOk L e_reckoner_remainder := ⟨⟨by kernel_rfl, by kernel_rfl, by kernel_rfl, by decide +kernel, by kernel_rfl, by decide +kernel, by decide +kernel⟩, .inr (by kernel_rfl), rfl, fun _ _ _ _ _ _ us hl => match us, hl with | [_, _, _], _ => by rfl, ⟨rfl, by decide⟩⟩
theorem o_need_pair : EOk L e_need_pair := ⟨⟨by kernel_rfl, by kernel_rfl, by kernel_rfl, by decide +kernel, by kernel_rfl, by decide +kernel, by decide +kernel⟩, .inr (by kernel_rfl), rfl, fun _ _ _ _ _ _ us hl => match us, hl with | [_, _, _], _ => by rfl, rfl⟩
theorem o_fit : EOk L e_fit := ⟨⟨by kernel_rfl, by kernel_rfl, by kernel_rfl, by decide +kernel, by kernel_rfl, by decide +kernel, by decide +kernel⟩, .inr (by kernel_rfl), rfl, fun _ _ _ _ _ _ us hl => match us, hl with | [_, _], _ => by rfl, rfl⟩
theorem o_add : EOk L e_add := ⟨⟨by kernel_rfl, by kernel_rfl, by kernel_rfl, by decide +kernel, by kernel_rfl, by decide +kernel, by decide +kernel⟩, .inr (by kernel_rfl), rfl, fun _ _ _ _ _ _ us hl => match us, hl with | [_, _, _], _ => by rfl, rfl⟩
theorem o_subtract : EOk L e_subtract := ⟨⟨by kernel_rfl, by kernel_rfl, by kernel_rfl, by decide +kernel, by kernel_rfl, by decide +kernel, by decide +kernel⟩, .inr (by kernel_rfl), rfl, fun _ _ _ _ _ _ us hl => match us, hl with | [_, _, _], _ => by rfl, rfl⟩
theorem o_multiply : EOk L e_multiply := ⟨⟨by kernel_rfl, by kernel_rfl, by kernel_rfl, by decide +kernel, by kernel_rfl, by decide +kernel, by decide +kernel⟩, .inr (by kernel_rfl), rfl, fun _ _ _ _ _ _ us hl => match us, hl with | [_, _, _], _ => by rfl, rfl⟩
theorem o_negate : EOk L e_negate := ⟨⟨by kernel_rfl, by kernel_rfl, by kernel_rfl, by decide +kernel, by kernel_rfl, by decide +kernel, by decide +kernel⟩, .inr (by kernel_rfl), rfl, fun _ _ _ _ _ _ us hl => match us, hl with | [_, _], _ => by rfl, rfl⟩
theorem o_divide : EOk L e_divide := ⟨⟨by kernel_rfl, by kernel_rfl, by kernel_rfl, by decide +kernel, by kernel_rfl, by decide +kernel, by decide +kernel⟩, .inr (by kernel_rfl), rfl, fun _ _ _ _ _ _ us hl => match us, hl with | [_, _, _], _ => by rfl, rfl⟩
theorem o_remainder : EOk L e_remainder := ⟨⟨by kernel_rfl, by kernel_rfl, by kernel_rfl, by decide +kernel, by kernel_rfl, by decide +kernel, by decide +kernel⟩, .inr (by kernel_rfl), rfl, fun _ _ _ _ _ _ us hl => match us, hl with | [_, _, _], _ => by rfl, rfl⟩
theorem o_need_rule : EOk L e_need_rule := ⟨⟨by kernel_rfl, by kernel_rfl, by kernel_rfl, by decide +kernel, by kernel_rfl, by decide +kernel, by decide +kernel⟩, .inr (by kernel_rfl), rfl, fun _ _ _ _ _ _ us hl => match us, hl with | [_], _ => by rfl, rfl⟩
theorem o_many_of : EOk L e_many_of := ⟨⟨by kernel_rfl, by kernel_rfl, by kernel_rfl, by decide +kernel, by kernel_rfl, by decide +kernel, by decide +kernel⟩, .inr (by kernel_rfl), rfl, fun _ _ _ _ _ _ us hl => match us, hl with | [_], _ => by rfl, rfl⟩
theorem o_rises : EOk L e_rises := ⟨⟨by kernel_rfl, by kernel_rfl, by kernel_rfl, by decide +kernel, by kernel_rfl, by decide +kernel, by decide +kernel⟩, .inr (by kernel_rfl), rfl, fun _ _ _ _ _ _ us hl => match us, hl with | [_], _ => by rfl, rfl⟩
theorem o_trial_init : EOk L e_trial_init := ⟨⟨by kernel_rfl, by kernel_rfl, by kernel_rfl, by decide +kernel, by kernel_rfl, by decide +kernel, by decide +kernel⟩, .inr (by kernel_rfl), rfl, fun _ _ _ _ _ _ us hl => match us, hl with | [_, _], _ => by rfl, ⟨rfl, by decide, by decide⟩⟩
theorem o_trial_single : EOk L e_trial_single := ⟨⟨by kernel_rfl, by kernel_rfl, by kernel_rfl, by decide +kernel, by kernel_rfl, by decide +kernel, by decide +kernel⟩, .inr (by kernel_rfl), rfl, fun _ _ _ _ _ _ us hl => match us, hl with | [_, _, _], _ => by rfl, ⟨rfl, by decide⟩⟩
theorem o_trial_pair : EOk L e_trial_pair := ⟨⟨by kernel_rfl, by kernel_rfl, by kernel_rfl, by decide +kernel, by kernel_rfl, by decide +kernel, by decide +kernel⟩, .inr (by kernel_rfl), rfl, fun _ _ _ _ _ _ us hl => match us, hl with | [_, _, _, _], _ => by rfl, ⟨rfl, by decide⟩⟩
theorem o_trial_divided : EOk L e_trial_divided := ⟨⟨by kernel_rfl, by kernel_rfl, by kernel_rfl, by decide +kernel, by kernel_rfl, by decide +kernel, by decide +kernel⟩, .inr (by kernel_rfl), rfl, fun _ _ _ _ _ _ us hl => match us, hl with | [_, _, _, _], _ => by rfl, ⟨rfl, by decide⟩⟩
theorem o_trial_triple : EOk L e_trial_triple := ⟨⟨by kernel_rfl, by kernel_rfl, by kernel_rfl, by decide +kernel, by kernel_rfl, by decide +kernel, by decide +kernel⟩, .inr (by kernel_rfl), rfl, fun _ _ _ _ _ _ us hl => match us, hl with | [_, _, _, _, _], _ => by rfl, ⟨rfl, by decide⟩⟩
theorem o_fits : EOk L e_fits := ⟨⟨by kernel_rfl, by kernel_rfl, by kernel_rfl, by decide +kernel, by kernel_rfl, by decide +kernel, by decide +kernel⟩, .inr (by kernel_rfl), rfl, fun _ _ _ _ _ _ us hl => match us, hl with | [_, _, _], _ => by rfl, rfl⟩
theorem o_arity : EOk L e_arity := ⟨⟨by kernel_rfl, by kernel_rfl, by kernel_rfl, by decide +kernel, by kernel_rfl, by decide +kernel, by decide +kernel⟩, .inr (by kernel_rfl), rfl, fun _ _ _ _ _ _ us hl => match us, hl with | [_], _ => by rfl, rfl⟩
theorem o_holds_for : EOk L e_holds_for := ⟨⟨by kernel_rfl, by kernel_rfl, by kernel_rfl, by decide +kernel, by kernel_rfl, by decide +kernel, by decide +kernel⟩, .inr (by kernel_rfl), rfl, fun _ _ _ _ _ _ us hl => match us, hl with | [_, _, _], _ => by rfl, rfl⟩
theorem o_holds_in : EOk L e_holds_in := ⟨⟨by kernel_rfl, by kernel_rfl, by kernel_rfl, by decide +kernel, by kernel_rfl, by decide +kernel, by decide +kernel⟩, .inr (by kernel_rfl), rfl, fun _ _ _ _ _ _ us hl => match us, hl with | [_, _], _ => by rfl, rfl⟩
theorem o_grouped : EOk L e_grouped := ⟨⟨by kernel_rfl, by kernel_rfl, by kernel_rfl, by decide +kernel, by kernel_rfl, by decide +kernel, by decide +kernel⟩, .inr (by kernel_rfl), rfl, fun _ _ _ _ _ _ us hl => match us, hl with | [_, _], _ => by rfl, rfl⟩
theorem o_divided : EOk L e_divided := ⟨⟨by kernel_rfl, by kernel_rfl, by kernel_rfl, by decide +kernel, by kernel_rfl, by decide +kernel, by decide +kernel⟩, .inr (by kernel_rfl), rfl, fun _ _ _ _ _ _ us hl => match us, hl with | [_, _], _ => by rfl, rfl⟩
theorem o_ordered : EOk L e_ordered := ⟨⟨by kernel_rfl, by kernel_rfl, by kernel_rfl, by decide +kernel, by kernel_rfl, by decide +kernel, by decide +kernel⟩, .inr (by kernel_rfl), rfl, fun _ _ _ _ _ _ us hl => match us, hl with | [_, _], _ => by rfl, rfl⟩
theorem o_breaker_init : EOk L e_breaker_init := ⟨⟨by kernel_rfl, by kernel_rfl, by kernel_rfl, by decide +kernel, by kernel_rfl, by decide +kernel, by decide +kernel⟩, .inr (by kernel_rfl), rfl, fun _ _ _ _ _ _ us hl => match us, hl with | [_, _], _ => by rfl, ⟨rfl, by decide, by decide⟩⟩
theorem o_breaker_grouped : EOk L e_breaker_grouped := ⟨⟨by kernel_rfl, by kernel_rfl, by kernel_rfl, by decide +kernel, by kernel_rfl, by decide +kernel, by decide +kernel⟩, .inr (by kernel_rfl), rfl, fun _ _ _ _ _ _ us hl => match us, hl with | [_, _], _ => by rfl, ⟨rfl, by decide⟩⟩
theorem o_breaker_signed : EOk L e_breaker_signed := ⟨⟨by kernel_rfl, by kernel_rfl, by kernel_rfl, by decide +kernel, by kernel_rfl, by decide +kernel, by decide +kernel⟩, .inr (by kernel_rfl), rfl, fun _ _ _ _ _ _ us hl => match us, hl with | [_, _], _ => by rfl, ⟨rfl, by decide⟩⟩
theorem o_breaker_whole : EOk L e_breaker_whole := ⟨⟨by kernel_rfl, by kernel_rfl, by kernel_rfl, by decide +kernel, by kernel_rfl, by decide +kernel, by decide +kernel⟩, .inr (by kernel_rfl), rfl, fun _ _ _ _ _ _ us hl => match us, hl with | [_], _ => by rfl, ⟨rfl, by decide⟩⟩
theorem o_breaker_turned : EOk L e_breaker_turned := ⟨⟨by kernel_rfl, by kernel_rfl, by kernel_rfl, by decide +kernel, by kernel_rfl, by decide +kernel, by decide +kernel⟩, .inr (by kernel_rfl), rfl, fun _ _ _ _ _ _ us hl => match us, hl with | [_], _ => by rfl, ⟨rfl, by decide⟩⟩
theorem o_breaker_multiplied : EOk L e_breaker_multiplied := ⟨⟨by kernel_rfl, by kernel_rfl, by kernel_rfl, by decide +kernel, by kernel_rfl, by decide +kernel, by decide +kernel⟩, .inr (by kernel_rfl), rfl, fun _ _ _ _ _ _ us hl => match us, hl with | [_, _], _ => by rfl, ⟨rfl, by decide⟩⟩
theorem o_breaker_numbers : EOk L e_breaker_numbers := ⟨⟨by kernel_rfl, by kernel_rfl, by kernel_rfl, by decide +kernel, by kernel_rfl, by decide +kernel, by decide +kernel⟩, .inr (by kernel_rfl), rfl, fun _ _ _ _ _ _ us hl => match us, hl with | [_, _], _ => by rfl, ⟨rfl, by decide⟩⟩
theorem o_holds : EOk L e_holds := ⟨⟨by kernel_rfl, by kernel_rfl, by kernel_rfl, by decide +kernel, by kernel_rfl, by decide +kernel, by decide +kernel⟩, .inr (by kernel_rfl), rfl, fun _ _ _ _ _ _ us hl => match us, hl with | [_, _], _ => by rfl, rfl⟩
theorem o_counterexample : EOk L e_counterexample := ⟨⟨by kernel_rfl, by kernel_rfl, by kernel_rfl, by decide +kernel, by kernel_rfl, by decide +kernel, by decide +kernel⟩, .inr (by kernel_rfl), rfl, fun _ _ _ _ _ _ us hl => match us, hl with | [_, _], _ => by rfl, rfl⟩
theorem o_profile_of : EOk L e_profile_of := ⟨⟨by kernel_rfl, by kernel_rfl, by kernel_rfl, by decide +kernel, by kernel_rfl, by decide +kernel, by decide +kernel⟩, .inr (by kernel_rfl), rfl, fun _ _ _ _ _ _ us hl => match us, hl with | [_], _ => by rfl, rfl⟩
theorem o_some_formats : EOk L e_some_formats := ⟨⟨by kernel_rfl, by kernel_rfl, by kernel_rfl, by decide +kernel, by kernel_rfl, by decide +kernel, by decide +kernel⟩, .inl rfl, rfl, fun _ _ _ _ _ _ us hl => match us, hl with | [], _ => by rfl, rfl⟩
theorem o_parted : EOk L e_parted := ⟨⟨by kernel_rfl, by kernel_rfl, by kernel_rfl, by decide +kernel, by kernel_rfl, by decide +kernel, by decide +kernel⟩, .inr (by kernel_rfl), rfl, fun _ _ _ _ _ _ us hl => match us, hl with | [_, _], _ => by rfl, rfl⟩
theorem o_profile : EOk L e_profile := ⟨⟨by kernel_rfl, by kernel_rfl, by kernel_rfl, by decide +kernel, by kernel_rfl, by decide +kernel, by decide +kernel⟩, .inr (by kernel_rfl), rfl, fun _ _ _ _ _ _ us hl => match us, hl with | [_], _ => by rfl, rfl⟩
theorem o_implies : EOk L e_implies := ⟨⟨by kernel_rfl, by kernel_rfl, by kernel_rfl, by decide +kernel, by kernel_rfl, by decide +kernel, by decide +kernel⟩, .inr (by kernel_rfl), rfl, fun _ _ _ _ _ _ us hl => match us, hl with | [_, _], _ => by rfl, rfl⟩
theorem o_parting : EOk L e_parting := ⟨⟨by kernel_rfl, by kernel_rfl, by kernel_rfl, by decide +kernel, by kernel_rfl, by decide +kernel, by decide +kernel⟩, .inr (by kernel_rfl), rfl, fun _ _ _ _ _ _ us hl => match us, hl with | [_, _], _ => by rfl, rfl⟩
theorem o_write_format : EOk L e_write_format := ⟨⟨by kernel_rfl, by kernel_rfl, by kernel_rfl, by decide +kernel, by kernel_rfl, by decide +kernel, by decide +kernel⟩, .inr (by kernel_rfl), rfl, fun _ _ _ _ _ _ us hl => match us, hl with | [_], _ => by rfl, rfl⟩
theorem o_law_taken : EOk L e_law_taken := ⟨⟨by kernel_rfl, by kernel_rfl, by kernel_rfl, by decide +kernel, by kernel_rfl, by decide +kernel, by decide +kernel⟩, .inr (by kernel_rfl), rfl, fun _ _ _ _ _ _ us hl => match us, hl with | [_, _], _ => by rfl, rfl⟩
theorem o_law_pick : EOk L e_law_pick := ⟨⟨by kernel_rfl, by kernel_rfl, by kernel_rfl, by decide +kernel, by kernel_rfl, by decide +kernel, by decide +kernel⟩, .inr (by kernel_rfl), rfl, fun _ _ _ _ _ _ us hl => match us, hl with | [_, _], _ => by rfl, rfl⟩
theorem o_law_format : EOk L e_law_format := ⟨⟨by kernel_rfl, by kernel_rfl, by kernel_rfl, by decide +kernel, by kernel_rfl, by decide +kernel, by decide +kernel⟩, .inr (by kernel_rfl), rfl, fun _ _ _ _ _ _ us hl => match us, hl with | [_, _], _ => by rfl, rfl⟩
theorem o_law_low : EOk L e_law_low := ⟨⟨by kernel_rfl, by kernel_rfl, by kernel_rfl, by decide +kernel, by kernel_rfl, by decide +kernel, by decide +kernel⟩, .inr (by kernel_rfl), rfl, fun _ _ _ _ _ _ us hl => match us, hl with | [_], _ => by rfl, rfl⟩
theorem o_law_high : EOk L e_law_high := ⟨⟨by kernel_rfl, by kernel_rfl, by kernel_rfl, by decide +kernel, by kernel_rfl, by decide +kernel, by decide +kernel⟩, .inr (by kernel_rfl), rfl, fun _ _ _ _ _ _ us hl => match us, hl with | [_], _ => by rfl, rfl⟩
theorem o_law_rules : EOk L e_law_rules := ⟨⟨by kernel_rfl, by kernel_rfl, by kernel_rfl, by decide +kernel, by kernel_rfl, by decide +kernel, by decide +kernel⟩, .inr (by kernel_rfl), rfl, fun _ _ _ _ _ _ us hl => match us, hl with | [], _ => by rfl, rfl⟩
theorem o_law_many : EOk L e_law_many := ⟨⟨by kernel_rfl, by kernel_rfl, by kernel_rfl, by decide +kernel, by kernel_rfl, by decide +kernel, by decide +kernel⟩, .inr (by kernel_rfl), rfl, fun _ _ _ _ _ _ us hl => match us, hl with | [_], _ => by rfl, rfl⟩
theorem o_law_number : EOk L e_law_number := ⟨⟨by kernel_rfl, by kernel_rfl, by kernel_rfl, by decide +kernel, by kernel_rfl, by decide +kernel, by decide +kernel⟩, .inr (by kernel_rfl), rfl, fun _ _ _ _ _ _ us hl => match us, hl with | [_, _], _ => by rfl, rfl⟩
theorem lok : LOk L := ⟨by
  intro e h
  simp only [L, List.mem_cons, List.not_mem_nil, or_false] at h
  rcases h with rfl | rfl | rfl | rfl | rfl | rfl | rfl | rfl | rfl | rfl | rfl | rfl | rfl | rfl | rfl | rfl | rfl | rfl | rfl | rfl | rfl | rfl | rfl | rfl | rfl | rfl | rfl | rfl | rfl | rfl | rfl | rfl | rfl | rfl | rfl | rfl | rfl | rfl | rfl | rfl | rfl | rfl | rfl | rfl | rfl | rfl | rfl | rfl | rfl | rfl | rfl | rfl | rfl | rfl | rfl | rfl | rfl | rfl | rfl | rfl | rfl | rfl | rfl | rfl | rfl | rfl | rfl | rfl | rfl | rfl | rfl | rfl | rfl | rfl
  · exact o_is_integer
  · exact o_is_in
  · exact o_is_list
  · exact o_two_to
  · exact o_is_word
  · exact o_is_format
  · exact o_need_format
  · exact o_low_of
  · exact o_high_of
  · exact o_has_number
  · exact o_need_number
  · exact o_lowest
  · exact o_highest
  · exact o_count_numbers
  · exact o_is_number
  · exact o_is_prime
  · exact o_is_mersenne_width
  · exact o_factor_of
  · exact o_quotient_of
  · exact o_reckoner_init
  · exact o_reckoner_fit
  · exact o_reckoner_add
  · exact o_reckoner_subtract
  · exact o_reckoner_multiply
  · exact o_reckoner_negate
  · exact o_reckoner_divide
  · exact o_reckoner_remainder
  · exact o_need_pair
  · exact o_fit
  · exact o_add
  · exact o_subtract
  · exact o_multiply
  · exact o_negate
  · exact o_divide
  · exact o_remainder
  · exact o_need_rule
  · exact o_many_of
  · exact o_rises
  · exact o_trial_init
  · exact o_trial_single
  · exact o_trial_pair
  · exact o_trial_divided
  · exact o_trial_triple
  · exact o_fits
  · exact o_arity
  · exact o_holds_for
  · exact o_holds_in
  · exact o_grouped
  · exact o_divided
  · exact o_ordered
  · exact o_breaker_init
  · exact o_breaker_grouped
  · exact o_breaker_signed
  · exact o_breaker_whole
  · exact o_breaker_turned
  · exact o_breaker_multiplied
  · exact o_breaker_numbers
  · exact o_holds
  · exact o_counterexample
  · exact o_profile_of
  · exact o_some_formats
  · exact o_parted
  · exact o_profile
  · exact o_implies
  · exact o_parting
  · exact o_write_format
  · exact o_law_taken
  · exact o_law_pick
  · exact o_law_format
  · exact o_law_low
  · exact o_law_high
  · exact o_law_rules
  · exact o_law_many
  · exact o_law_number
  , by decide⟩
theorem wok : WdOk X := ⟨⟨by kernel_rfl, by kernel_rfl, by kernel_rfl, by decide +kernel, by kernel_rfl, by decide +kernel, by decide +kernel⟩, by kernel_rfl, rfl, fun _ _ _ _ _ _ us hl => match us, hl with | [_], _ => by rfl, rfl, rfl, rfl, rfl, by kernel_rfl, by kernel_rfl, by kernel_rfl, by kernel_rfl, by kernel_rfl, rfl⟩
theorem xok : LxOk X := ⟨lok, wok, ⟨by kernel_rfl, by kernel_rfl, by kernel_rfl, by decide +kernel, by kernel_rfl, by decide +kernel, by decide +kernel⟩, by kernel_rfl, rfl, fun _ _ _ _ _ _ us hl => match us, hl with | [_], _ => by rfl, rfl, rfl, rfl⟩
theorem p_law (n : Nat) (ds : List D) (S : Sto) : X.phi n ds S = run (X.C n) 9 b_law ds S := rfl
theorem p_is_integer (n : Nat) (ds : List D) (S : Sto) : L.phi (n + 1) i_is_integer ds S = run (L.C n) 1 b_is_integer ds S := rfl
theorem ar_is_integer : L.ar i_is_integer = 1 := rfl
theorem p_is_in (n : Nat) (ds : List D) (S : Sto) : L.phi (n + 1) i_is_in ds S = run (L.C n) 3 b_is_in ds S := rfl
theorem ar_is_in : L.ar i_is_in = 3 := rfl
theorem p_is_list (n : Nat) (ds : List D) (S : Sto) : L.phi (n + 1) i_is_list ds S = run (L.C n) 3 b_is_list ds S := rfl
theorem ar_is_list : L.ar i_is_list = 3 := rfl
theorem p_two_to (n : Nat) (ds : List D) (S : Sto) : L.phi (n + 1) i_two_to ds S = run (L.C n) 3 b_two_to ds S := rfl
theorem ar_two_to : L.ar i_two_to = 1 := rfl
theorem p_is_word (n : Nat) (ds : List D) (S : Sto) : L.phi (n + 1) i_is_word ds S = run (L.C n) 2 b_is_word ds S := rfl
theorem ar_is_word : L.ar i_is_word = 2 := rfl
theorem p_is_format (n : Nat) (ds : List D) (S : Sto) : L.phi (n + 1) i_is_format ds S = run (L.C n) 1 b_is_format ds S := rfl
theorem ar_is_format : L.ar i_is_format = 1 := rfl
theorem p_need_format (n : Nat) (ds : List D) (S : Sto) : L.phi (n + 1) i_need_format ds S = run (L.C n) 1 b_need_format ds S := rfl
theorem ar_need_format : L.ar i_need_format = 1 := rfl
theorem p_low_of (n : Nat) (ds : List D) (S : Sto) : L.phi (n + 1) i_low_of ds S = run (L.C n) 2 b_low_of ds S := rfl
theorem ar_low_of : L.ar i_low_of = 1 := rfl
theorem p_high_of (n : Nat) (ds : List D) (S : Sto) : L.phi (n + 1) i_high_of ds S = run (L.C n) 1 b_high_of ds S := rfl
theorem ar_high_of : L.ar i_high_of = 1 := rfl
theorem p_has_number (n : Nat) (ds : List D) (S : Sto) : L.phi (n + 1) i_has_number ds S = run (L.C n) 2 b_has_number ds S := rfl
theorem ar_has_number : L.ar i_has_number = 2 := rfl
theorem p_need_number (n : Nat) (ds : List D) (S : Sto) : L.phi (n + 1) i_need_number ds S = run (L.C n) 2 b_need_number ds S := rfl
theorem ar_need_number : L.ar i_need_number = 2 := rfl
theorem p_lowest (n : Nat) (ds : List D) (S : Sto) : L.phi (n + 1) i_lowest ds S = run (L.C n) 1 b_lowest ds S := rfl
theorem ar_lowest : L.ar i_lowest = 1 := rfl
theorem p_highest (n : Nat) (ds : List D) (S : Sto) : L.phi (n + 1) i_highest ds S = run (L.C n) 1 b_highest ds S := rfl
theorem ar_highest : L.ar i_highest = 1 := rfl
theorem p_count_numbers (n : Nat) (ds : List D) (S : Sto) : L.phi (n + 1) i_count_numbers ds S = run (L.C n) 1 b_count_numbers ds S := rfl
theorem ar_count_numbers : L.ar i_count_numbers = 1 := rfl
theorem p_is_number (n : Nat) (ds : List D) (S : Sto) : L.phi (n + 1) i_is_number ds S = run (L.C n) 2 b_is_number ds S := rfl
theorem ar_is_number : L.ar i_is_number = 2 := rfl
theorem p_is_prime (n : Nat) (ds : List D) (S : Sto) : L.phi (n + 1) i_is_prime ds S = run (L.C n) 2 b_is_prime ds S := rfl
theorem ar_is_prime : L.ar i_is_prime = 1 := rfl
theorem p_is_mersenne_width (n : Nat) (ds : List D) (S : Sto) : L.phi (n + 1) i_is_mersenne_width ds S = run (L.C n) 4 b_is_mersenne_width ds S := rfl
theorem ar_is_mersenne_width : L.ar i_is_mersenne_width = 1 := rfl
theorem p_factor_of (n : Nat) (ds : List D) (S : Sto) : L.phi (n + 1) i_factor_of ds S = run (L.C n) 3 b_factor_of ds S := rfl
theorem ar_factor_of : L.ar i_factor_of = 1 := rfl
theorem p_quotient_of (n : Nat) (ds : List D) (S : Sto) : L.phi (n + 1) i_quotient_of ds S = run (L.C n) 6 b_quotient_of ds S := rfl
theorem ar_quotient_of : L.ar i_quotient_of = 3 := rfl
theorem p_reckoner_init (n : Nat) (ds : List D) (S : Sto) : L.phi (n + 1) i_reckoner_init ds S = runI (L.C n) 2 b_reckoner_init 0 ds S := rfl
theorem ar_reckoner_init : L.ar i_reckoner_init = 1 := rfl
theorem p_reckoner_fit (n : Nat) (ds : List D) (S : Sto) : L.phi (n + 1) i_reckoner_fit ds S = run (L.C n) 2 b_reckoner_fit ds S := rfl
theorem ar_reckoner_fit : L.ar i_reckoner_fit = 2 := rfl
theorem p_reckoner_add (n : Nat) (ds : List D) (S : Sto) : L.phi (n + 1) i_reckoner_add ds S = run (L.C n) 3 b_reckoner_add ds S := rfl
theorem ar_reckoner_add : L.ar i_reckoner_add = 3 := rfl
theorem p_reckoner_subtract (n : Nat) (ds : List D) (S : Sto) : L.phi (n + 1) i_reckoner_subtract ds S = run (L.C n) 3 b_reckoner_subtract ds S := rfl
theorem ar_reckoner_subtract : L.ar i_reckoner_subtract = 3 := rfl
theorem p_reckoner_multiply (n : Nat) (ds : List D) (S : Sto) : L.phi (n + 1) i_reckoner_multiply ds S = run (L.C n) 3 b_reckoner_multiply ds S := rfl
theorem ar_reckoner_multiply : L.ar i_reckoner_multiply = 3 := rfl
theorem p_reckoner_negate (n : Nat) (ds : List D) (S : Sto) : L.phi (n + 1) i_reckoner_negate ds S = run (L.C n) 2 b_reckoner_negate ds S := rfl
theorem ar_reckoner_negate : L.ar i_reckoner_negate = 2 := rfl
theorem p_reckoner_divide (n : Nat) (ds : List D) (S : Sto) : L.phi (n + 1) i_reckoner_divide ds S = run (L.C n) 3 b_reckoner_divide ds S := rfl
theorem ar_reckoner_divide : L.ar i_reckoner_divide = 3 := rfl
theorem p_reckoner_remainder (n : Nat) (ds : List D) (S : Sto) : L.phi (n + 1) i_reckoner_remainder ds S = run (L.C n) 3 b_reckoner_remainder ds S := rfl
theorem ar_reckoner_remainder : L.ar i_reckoner_remainder = 3 := rfl
theorem p_need_pair (n : Nat) (ds : List D) (S : Sto) : L.phi (n + 1) i_need_pair ds S = run (L.C n) 3 b_need_pair ds S := rfl
theorem ar_need_pair : L.ar i_need_pair = 3 := rfl
theorem p_fit (n : Nat) (ds : List D) (S : Sto) : L.phi (n + 1) i_fit ds S = run (L.C n) 2 b_fit ds S := rfl
theorem ar_fit : L.ar i_fit = 2 := rfl
theorem p_add (n : Nat) (ds : List D) (S : Sto) : L.phi (n + 1) i_add ds S = run (L.C n) 3 b_add ds S := rfl
theorem ar_add : L.ar i_add = 3 := rfl
theorem p_subtract (n : Nat) (ds : List D) (S : Sto) : L.phi (n + 1) i_subtract ds S = run (L.C n) 3 b_subtract ds S := rfl
theorem ar_subtract : L.ar i_subtract = 3 := rfl
theorem p_multiply (n : Nat) (ds : List D) (S : Sto) : L.phi (n + 1) i_multiply ds S = run (L.C n) 3 b_multiply ds S := rfl
theorem ar_multiply : L.ar i_multiply = 3 := rfl
theorem p_negate (n : Nat) (ds : List D) (S : Sto) : L.phi (n + 1) i_negate ds S = run (L.C n) 2 b_negate ds S := rfl
theorem ar_negate : L.ar i_negate = 2 := rfl
theorem p_divide (n : Nat) (ds : List D) (S : Sto) : L.phi (n + 1) i_divide ds S = run (L.C n) 4 b_divide ds S := rfl
theorem ar_divide : L.ar i_divide = 3 := rfl
theorem p_remainder (n : Nat) (ds : List D) (S : Sto) : L.phi (n + 1) i_remainder ds S = run (L.C n) 4 b_remainder ds S := rfl
theorem ar_remainder : L.ar i_remainder = 3 := rfl
theorem p_need_rule (n : Nat) (ds : List D) (S : Sto) : L.phi (n + 1) i_need_rule ds S = run (L.C n) 1 b_need_rule ds S := rfl
theorem ar_need_rule : L.ar i_need_rule = 1 := rfl
theorem p_many_of (n : Nat) (ds : List D) (S : Sto) : L.phi (n + 1) i_many_of ds S = run (L.C n) 1 b_many_of ds S := rfl
theorem ar_many_of : L.ar i_many_of = 1 := rfl
theorem p_rises (n : Nat) (ds : List D) (S : Sto) : L.phi (n + 1) i_rises ds S = run (L.C n) 2 b_rises ds S := rfl
theorem ar_rises : L.ar i_rises = 1 := rfl
theorem p_trial_init (n : Nat) (ds : List D) (S : Sto) : L.phi (n + 1) i_trial_init ds S = runI (L.C n) 2 b_trial_init 1 ds S := rfl
theorem ar_trial_init : L.ar i_trial_init = 1 := rfl
theorem p_trial_single (n : Nat) (ds : List D) (S : Sto) : L.phi (n + 1) i_trial_single ds S = run (L.C n) 4 b_trial_single ds S := rfl
theorem ar_trial_single : L.ar i_trial_single = 3 := rfl
theorem p_trial_pair (n : Nat) (ds : List D) (S : Sto) : L.phi (n + 1) i_trial_pair ds S = run (L.C n) 6 b_trial_pair ds S := rfl
theorem ar_trial_pair : L.ar i_trial_pair = 4 := rfl
theorem p_trial_divided (n : Nat) (ds : List D) (S : Sto) : L.phi (n + 1) i_trial_divided ds S = run (L.C n) 6 b_trial_divided ds S := rfl
theorem ar_trial_divided : L.ar i_trial_divided = 4 := rfl
theorem p_trial_triple (n : Nat) (ds : List D) (S : Sto) : L.phi (n + 1) i_trial_triple ds S = run (L.C n) 6 b_trial_triple ds S := rfl
theorem ar_trial_triple : L.ar i_trial_triple = 5 := rfl
theorem p_fits (n : Nat) (ds : List D) (S : Sto) : L.phi (n + 1) i_fits ds S = run (L.C n) 4 b_fits ds S := rfl
theorem ar_fits : L.ar i_fits = 3 := rfl
theorem p_arity (n : Nat) (ds : List D) (S : Sto) : L.phi (n + 1) i_arity ds S = run (L.C n) 1 b_arity ds S := rfl
theorem ar_arity : L.ar i_arity = 1 := rfl
theorem p_holds_for (n : Nat) (ds : List D) (S : Sto) : L.phi (n + 1) i_holds_for ds S = run (L.C n) 4 b_holds_for ds S := rfl
theorem ar_holds_for : L.ar i_holds_for = 3 := rfl
theorem p_holds_in (n : Nat) (ds : List D) (S : Sto) : L.phi (n + 1) i_holds_in ds S = run (L.C n) 3 b_holds_in ds S := rfl
theorem ar_holds_in : L.ar i_holds_in = 2 := rfl
theorem p_grouped (n : Nat) (ds : List D) (S : Sto) : L.phi (n + 1) i_grouped ds S = run (L.C n) 4 b_grouped ds S := rfl
theorem ar_grouped : L.ar i_grouped = 2 := rfl
theorem p_divided (n : Nat) (ds : List D) (S : Sto) : L.phi (n + 1) i_divided ds S = run (L.C n) 6 b_divided ds S := rfl
theorem ar_divided : L.ar i_divided = 2 := rfl
theorem p_ordered (n : Nat) (ds : List D) (S : Sto) : L.phi (n + 1) i_ordered ds S = run (L.C n) 4 b_ordered ds S := rfl
theorem ar_ordered : L.ar i_ordered = 2 := rfl
theorem p_breaker_init (n : Nat) (ds : List D) (S : Sto) : L.phi (n + 1) i_breaker_init ds S = runI (L.C n) 2 b_breaker_init 2 ds S := rfl
theorem ar_breaker_init : L.ar i_breaker_init = 1 := rfl
theorem p_breaker_grouped (n : Nat) (ds : List D) (S : Sto) : L.phi (n + 1) i_breaker_grouped ds S = run (L.C n) 2 b_breaker_grouped ds S := rfl
theorem ar_breaker_grouped : L.ar i_breaker_grouped = 2 := rfl
theorem p_breaker_signed (n : Nat) (ds : List D) (S : Sto) : L.phi (n + 1) i_breaker_signed ds S = run (L.C n) 2 b_breaker_signed ds S := rfl
theorem ar_breaker_signed : L.ar i_breaker_signed = 2 := rfl
theorem p_breaker_whole (n : Nat) (ds : List D) (S : Sto) : L.phi (n + 1) i_breaker_whole ds S = run (L.C n) 1 b_breaker_whole ds S := rfl
theorem ar_breaker_whole : L.ar i_breaker_whole = 1 := rfl
theorem p_breaker_turned (n : Nat) (ds : List D) (S : Sto) : L.phi (n + 1) i_breaker_turned ds S = run (L.C n) 1 b_breaker_turned ds S := rfl
theorem ar_breaker_turned : L.ar i_breaker_turned = 1 := rfl
theorem p_breaker_multiplied (n : Nat) (ds : List D) (S : Sto) : L.phi (n + 1) i_breaker_multiplied ds S = run (L.C n) 5 b_breaker_multiplied ds S := rfl
theorem ar_breaker_multiplied : L.ar i_breaker_multiplied = 2 := rfl
theorem p_breaker_numbers (n : Nat) (ds : List D) (S : Sto) : L.phi (n + 1) i_breaker_numbers ds S = run (L.C n) 2 b_breaker_numbers ds S := rfl
theorem ar_breaker_numbers : L.ar i_breaker_numbers = 2 := rfl
theorem p_holds (n : Nat) (ds : List D) (S : Sto) : L.phi (n + 1) i_holds ds S = run (L.C n) 2 b_holds ds S := rfl
theorem ar_holds : L.ar i_holds = 2 := rfl
theorem p_counterexample (n : Nat) (ds : List D) (S : Sto) : L.phi (n + 1) i_counterexample ds S = run (L.C n) 2 b_counterexample ds S := rfl
theorem ar_counterexample : L.ar i_counterexample = 2 := rfl
theorem p_profile_of (n : Nat) (ds : List D) (S : Sto) : L.phi (n + 1) i_profile_of ds S = run (L.C n) 2 b_profile_of ds S := rfl
theorem ar_profile_of : L.ar i_profile_of = 1 := rfl
theorem ar_some_formats : L.ar i_some_formats = 0 := rfl
theorem p_parted (n : Nat) (ds : List D) (S : Sto) : L.phi (n + 1) i_parted ds S = run (L.C n) 3 b_parted ds S := rfl
theorem ar_parted : L.ar i_parted = 2 := rfl
theorem p_profile (n : Nat) (ds : List D) (S : Sto) : L.phi (n + 1) i_profile ds S = run (L.C n) 1 b_profile ds S := rfl
theorem ar_profile : L.ar i_profile = 1 := rfl
theorem p_implies (n : Nat) (ds : List D) (S : Sto) : L.phi (n + 1) i_implies ds S = run (L.C n) 2 b_implies ds S := rfl
theorem ar_implies : L.ar i_implies = 2 := rfl
theorem p_parting (n : Nat) (ds : List D) (S : Sto) : L.phi (n + 1) i_parting ds S = run (L.C n) 2 b_parting ds S := rfl
theorem ar_parting : L.ar i_parting = 2 := rfl
theorem p_write_format (n : Nat) (ds : List D) (S : Sto) : L.phi (n + 1) i_write_format ds S = run (L.C n) 2 b_write_format ds S := rfl
theorem ar_write_format : L.ar i_write_format = 1 := rfl
theorem p_law_taken (n : Nat) (ds : List D) (S : Sto) : L.phi (n + 1) i_law_taken ds S = run (L.C n) 4 b_law_taken ds S := rfl
theorem ar_law_taken : L.ar i_law_taken = 2 := rfl
theorem p_law_pick (n : Nat) (ds : List D) (S : Sto) : L.phi (n + 1) i_law_pick ds S = run (L.C n) 2 b_law_pick ds S := rfl
theorem ar_law_pick : L.ar i_law_pick = 2 := rfl
theorem p_law_format (n : Nat) (ds : List D) (S : Sto) : L.phi (n + 1) i_law_format ds S = run (L.C n) 5 b_law_format ds S := rfl
theorem ar_law_format : L.ar i_law_format = 2 := rfl
theorem p_law_low (n : Nat) (ds : List D) (S : Sto) : L.phi (n + 1) i_law_low ds S = run (L.C n) 1 b_law_low ds S := rfl
theorem ar_law_low : L.ar i_law_low = 1 := rfl
theorem p_law_high (n : Nat) (ds : List D) (S : Sto) : L.phi (n + 1) i_law_high ds S = run (L.C n) 1 b_law_high ds S := rfl
theorem ar_law_high : L.ar i_law_high = 1 := rfl
theorem p_law_rules (n : Nat) (ds : List D) (S : Sto) : L.phi (n + 1) i_law_rules ds S = run (L.C n) 1 b_law_rules ds S := rfl
theorem ar_law_rules : L.ar i_law_rules = 0 := rfl
theorem p_law_many (n : Nat) (ds : List D) (S : Sto) : L.phi (n + 1) i_law_many ds S = run (L.C n) 1 b_law_many ds S := rfl
theorem ar_law_many : L.ar i_law_many = 1 := rfl
theorem p_law_number (n : Nat) (ds : List D) (S : Sto) : L.phi (n + 1) i_law_number ds S = run (L.C n) 6 b_law_number ds S := rfl
theorem ar_law_number : L.ar i_law_number = 2 := rfl
theorem gd_0 : L.gd 0 = (CV.int 4).dv := rfl
theorem gd_1 : L.gd 1 = (CV.int 64).dv := rfl
theorem gd_2 : L.gd 2 = (CV.sts ["symmetric", "twos", "unsigned"]).dv := rfl
theorem gd_3 : L.gd 3 = (CV.sts ["saturate", "trap", "wrap"]).dv := rfl
theorem gd_4 : L.gd 4 = (CV.sts ["ceiling", "euclid", "even", "floor", "zero"]).dv := rfl
theorem gd_5 : L.gd 5 = (CV.str "trap").dv := rfl
theorem gd_6 : L.gd 6 = (CV.int 1000000000000000000000000000000000000000000000000000000000000).dv := rfl
theorem gd_7 : L.gd 7 = (CV.sts ["sum grouping", "product grouping", "distribution", "double negation", "difference", "add back", "division", "remainder range", "negated quotient", "shift", "absolute value", "order by difference", "monotone sum", "average", "square", "zero product", "cancellation"]).dv := rfl
theorem gd_8 : L.gd 8 = (CV.sts ["double negation", "shift", "absolute value", "square"]).dv := rfl
theorem gd_9 : L.gd 9 = (CV.sts ["sum grouping", "product grouping", "distribution", "monotone sum", "cancellation"]).dv := rfl
theorem gd_10 : L.gd 10 = (CV.sts ["division", "remainder range", "negated quotient"]).dv := rfl
theorem gd_11 : L.gd 11 = (CV.sts ["sum grouping", "product grouping", "distribution"]).dv := rfl
theorem gd_12 : L.gd 12 = (CV.sts ["double negation", "difference"]).dv := rfl
theorem gd_13 : L.gd 13 = (CV.sts ["absolute value", "order by difference", "monotone sum", "average", "square"]).dv := rfl
theorem fo_0 : L.fo 0 "low" = true := by decide +kernel
theorem fo_1 : L.fo 0 "high" = true := by decide +kernel
theorem fo_2 : L.fo 0 "overflow" = true := by decide +kernel
theorem fo_3 : L.fo 0 "division" = true := by decide +kernel
theorem fo_4 : L.fo 1 "ops" = true := by decide +kernel
theorem fo_5 : L.fo 2 "width" = true := by decide +kernel
theorem fo_6 : L.fo 2 "signs" = true := by decide +kernel
theorem fo_7 : L.fo 2 "overflow" = true := by decide +kernel
theorem fo_8 : L.fo 2 "division" = true := by decide +kernel
theorem fo_9 : L.fo 2 "low" = true := by decide +kernel
theorem fo_10 : L.fo 2 "high" = true := by decide +kernel
-- CONS LEAST_WIDTH=0 MOST_WIDTH=1 SIGNS=2 OVERFLOWS=3 DIVISIONS=4 TRAP=5 MOST_INTEGER=6 NAMES=7 SINGLE=8 TRIPLE=9 DIVIDED=10 GROUPS=11 SIGNED=12 ORDERS=13
def tb0 := And.intro @ar_is_integer (And.intro @ar_is_in (And.intro @ar_is_list (And.intro @ar_two_to (And.intro @ar_is_word (And.intro @ar_is_format (And.intro @ar_need_format (And.intro @ar_low_of (And.intro @ar_high_of (And.intro @ar_has_number (And.intro @ar_need_number (And.intro @ar_lowest (And.intro @ar_highest (And.intro @ar_count_numbers (And.intro @ar_is_number (And.intro @ar_is_prime (And.intro @ar_is_mersenne_width (And.intro @ar_factor_of (And.intro @ar_quotient_of (And.intro @ar_reckoner_init (And.intro @ar_reckoner_fit (And.intro @ar_reckoner_add (And.intro @ar_reckoner_subtract (And.intro @ar_reckoner_multiply (And.intro @ar_reckoner_negate (And.intro @ar_reckoner_divide (And.intro @ar_reckoner_remainder (And.intro @ar_need_pair (And.intro @ar_fit (And.intro @ar_add (And.intro @ar_subtract (And.intro @ar_multiply (And.intro @ar_negate (And.intro @ar_divide (And.intro @ar_remainder (And.intro @ar_need_rule (And.intro @ar_many_of (And.intro @ar_rises (And.intro @ar_trial_init (@ar_trial_single)))))))))))))))))))))))))))))))))))))))
def tb1 := And.intro @ar_trial_pair (And.intro @ar_trial_divided (And.intro @ar_trial_triple (And.intro @ar_fits (And.intro @ar_arity (And.intro @ar_holds_for (And.intro @ar_holds_in (And.intro @ar_grouped (And.intro @ar_divided (And.intro @ar_ordered (And.intro @ar_breaker_init (And.intro @ar_breaker_grouped (And.intro @ar_breaker_signed (And.intro @ar_breaker_whole (And.intro @ar_breaker_turned (And.intro @ar_breaker_multiplied (And.intro @ar_breaker_numbers (And.intro @ar_holds (And.intro @ar_counterexample (And.intro @ar_profile_of (And.intro @ar_some_formats (And.intro @ar_parted (And.intro @ar_profile (And.intro @ar_implies (And.intro @ar_parting (And.intro @ar_write_format (And.intro @ar_law_taken (And.intro @ar_law_pick (And.intro @ar_law_format (And.intro @ar_law_low (And.intro @ar_law_high (And.intro @ar_law_rules (And.intro @ar_law_many (And.intro @ar_law_number (And.intro @gd_0 (And.intro @gd_1 (And.intro @gd_2 (And.intro @gd_3 (And.intro @gd_4 (@gd_5)))))))))))))))))))))))))))))))))))))))
def tb2 := And.intro @gd_6 (And.intro @gd_7 (And.intro @gd_8 (And.intro @gd_9 (And.intro @gd_10 (And.intro @gd_11 (And.intro @gd_12 (And.intro @gd_13 (And.intro @fo_0 (And.intro @fo_1 (And.intro @fo_2 (And.intro @fo_3 (And.intro @fo_4 (And.intro @fo_5 (And.intro @fo_6 (And.intro @fo_7 (And.intro @fo_8 (And.intro @fo_9 (@fo_10))))))))))))))))))
-- NAMES ar_is_integer, ar_is_in, ar_is_list, ar_two_to, ar_is_word, ar_is_format, ar_need_format, ar_low_of, ar_high_of, ar_has_number, ar_need_number, ar_lowest, ar_highest, ar_count_numbers, ar_is_number, ar_is_prime, ar_is_mersenne_width, ar_factor_of, ar_quotient_of, ar_reckoner_init, ar_reckoner_fit, ar_reckoner_add, ar_reckoner_subtract, ar_reckoner_multiply, ar_reckoner_negate, ar_reckoner_divide, ar_reckoner_remainder, ar_need_pair, ar_fit, ar_add, ar_subtract, ar_multiply, ar_negate, ar_divide, ar_remainder, ar_need_rule, ar_many_of, ar_rises, ar_trial_init, ar_trial_single, ar_trial_pair, ar_trial_divided, ar_trial_triple, ar_fits, ar_arity, ar_holds_for, ar_holds_in, ar_grouped, ar_divided, ar_ordered, ar_breaker_init, ar_breaker_grouped, ar_breaker_signed, ar_breaker_whole, ar_breaker_turned, ar_breaker_multiplied, ar_breaker_numbers, ar_holds, ar_counterexample, ar_profile_of, ar_some_formats, ar_parted, ar_profile, ar_implies, ar_parting, ar_write_format, ar_law_taken, ar_law_pick, ar_law_format, ar_law_low, ar_law_high, ar_law_rules, ar_law_many, ar_law_number, gd_0, gd_1, gd_2, gd_3, gd_4, gd_5, gd_6, gd_7, gd_8, gd_9, gd_10, gd_11, gd_12, gd_13, fo_0, fo_1, fo_2, fo_3, fo_4, fo_5, fo_6, fo_7, fo_8, fo_9, fo_10
abbrev depth : Nat := 28
theorem facts_ {P : Program} {w : World} {K : PySem.W.Frag} {h : Heap} {mg : Str → Option Value} {f : Addr} (Z : K.In h) (G : h.Ns mainGlobals mg) (hfa : mg ("law" : Str) = some (.ref f)) (c : He.SaysX fa fn [] tf X.ex w h K) :
    ∃ fd : FuncData, (∀ (s : Shared) (v : Value), BindsTo s fd ⟨[v], []⟩ [("_law_script", v)]) ∧ ∀ base : Heap, K.In base → base.Ns mainGlobals mg → LamX.TabB base mg (He.cT K (("law" : Str), none)).1 (He.cT K (("law" : Str), none)).2 → FnOk P w K mg base (L2.CX P w) (2 * depth + 4) f fd ["_law_script"] (spL X K depth) :=
  Dz.lx_facts xok rfl Z G hfa (fun f hf => c.t.d.facts hf) c.more (fun d hd => c.t.d.defs hd)
end K08
open PySem PySem.W PySem.Calls PyProof.Rows
theorem K08.holds_of (hlaw : ∀ ns : List Int, ns.length ≤ 63 → ∃ S', K08.X.phi K08.depth [.scr ns] [.tab] = .ok (.bl true) S') : PySem.Challenge.rw_widthrules_k08_whole_refused.Holds := by
  w_on; o_law
  refine HandSHeadRun.head_any (r := OpenLaw.row PySem.Challenge.rw_widthrules_k08_whole_refused) (q := view (OpenLaw.row PySem.Challenge.rw_widthrules_k08_whole_refused).prog [K08.lawAt]) (H := K08.hk) (ob := K08.ob) (M := 8000) (loose := K08.loose) (d := HandSHeadRun.topDef (OpenLaw.row PySem.Challenge.rw_widthrules_k08_whole_refused).prog K08.lawAt) (kwd := []) K08.ob_eq
    (by kernel_rfl) (fun s => by kernel_rfl) K08.runT (by kernel_rfl) (by kernel_rfl) (by kernel_rfl) (by rfl) (by first | assumption | decide +kernel) (by decide +kernel) ⟨rfl, rfl, rfl, rfl, rfl, by decide +kernel⟩ ?hw ?hc
  case hw => w_witness2
  case hc =>
    refine LamX.walk_ofTsE (l := PySem.Challenge.rw_widthrules_k08_whole_refused) (n := 63) (k := 2 * K08.depth + 4) (x := "_law_script") (CX := fun w => L2.CX (PySem.Challenge.rw_widthrules_k08_whole_refused).prog w) rfl (by decide) (by kernel_rfl) ⟨rfl, by decide, by decide⟩ ?F ?G
    case F =>
      intro w mg fa h Y G hmg0
      obtain ⟨K, KX, c⟩ := Y
      have hmg : mg ("law" : PySem.Str) = some (.ref fa) := by
        have e : (HandSHeadRun.topDef (OpenLaw.row PySem.Challenge.rw_widthrules_k08_whole_refused).prog K08.lawAt).name = ("law" : PySem.Str) := by kernel_rfl
        rw [← e]
        exact hmg0
      obtain ⟨fd, hb, hF⟩ := K08.facts_ (P := (PySem.Challenge.rw_widthrules_k08_whole_refused).prog) (w := w) KX G hmg c
      have hm : ((("law" : PySem.Str), none) : He.Defn) ∈ K08.tf := List.mem_singleton.mpr rfl
      refine ⟨K, KX, fd, [He.cT K (("law" : PySem.Str), none)], Dz.spL K08.X K K08.depth, (fun p z => ?_), (fun p z => ?_), (fun p z => ?_), hb, fun H a ns hl _ hT hS => ?_, fun base KB GB TB => hF base KB GB (TB _ (List.mem_singleton.mpr rfl))⟩
      · rw [List.mem_singleton.mp z]
        exact c.empty _ hm
      · rw [List.mem_singleton.mp z]
        exact c.out _ hm
      · rw [List.mem_singleton.mp z]
        exact PySem.W.codeHd_of_K KX (c.hd _ hm)
      · obtain ⟨S', e⟩ := hlaw ns hl
        exact ⟨a, ns, S', rfl, hT _ (List.mem_singleton.mpr rfl), hS, e, fun _ => rfl⟩
    case G =>
      intro w H s e s' z
      obtain ⟨_, _, _, _, _, _, _, _, _, _, _, _, z⟩ := z
      exact z

end
set_option Elab.async false
set_option linter.all false
set_option maxRecDepth 100000
set_option maxHeartbeats 1000000
namespace Dz
open PySem (Str)

/-! ### rows for evaluating -/
theorem bind_ok {α β : Type} (a : α) (S : Sto) (f : α → Sto → R β) : (R.ok a S).bind f = f a S := rfl
theorem bind_exc {α β : Type} (c : Nat) (S : Sto) (f : α → Sto → R β) : (R.exc c S).bind f = .exc c S := rfl
theorem toF_ok {α : Type} (a : α) (S : Sto) (f : α → Sto → Fl) : (R.ok a S).toF f = f a S := rfl
theorem toF_exc {α : Type} (c : Nat) (S : Sto) (f : α → Sto → Fl) : (R.exc c S : R α).toF f = .ex c S := rfl
def Fl.seq (f : Fl) (k : Env → Sto → Fl) : Fl := match f with
  | .nx ρ S => k ρ S
  | f => f
theorem seq_nx (ρ : Env) (S : Sto) (k : Env → Sto → Fl) : (Fl.nx ρ S).seq k = k ρ S := rfl
theorem seq_rt (d : D) (S : Sto) (k : Env → Sto → Fl) : (Fl.rt d S).seq k = .rt d S := rfl
theorem seq_ex (c : Nat) (S : Sto) (k : Env → Sto → Fl) : (Fl.ex c S).seq k = .ex c S := rfl
theorem seq_bk (ρ : Env) (S : Sto) (k : Env → Sto → Fl) : (Fl.bk ρ S).seq k = .bk ρ S := rfl
theorem seq_ct (ρ : Env) (S : Sto) (k : Env → Sto → Fl) : (Fl.ct ρ S).seq k = .ct ρ S := rfl
theorem xs_nil (C : Tc) (ρ : Env) (S : Sto) : execs C .nil ρ S = .nx ρ S := by rw [execs]
theorem xs_cons (C : Tc) (s : St) (ss : Ss) (ρ : Env) (S : Sto) : execs C (.cons s ss) ρ S = (exec C s ρ S).seq (execs C ss) := by rw [execs]; cases exec C s ρ S <;> rfl
def Fl.end_ (f : Fl) (n : Nat) : R D := match f with
  | .nx _ S' => fin n .non S'
  | .rt d S' => fin n d S'
  | .ex c S' => .exc c (S'.take n)
  | _ => .bad
theorem run_eq (C : Tc) (nl : Nat) (b : Ss) (ds : List D) (S : Sto) : run C nl b ds S = (execs C b (ds.map some ++ List.replicate (nl - ds.length) none) S).end_ S.length := by
  unfold run Fl.end_
  rfl
theorem end_nx (ρ : Env) (S : Sto) (n : Nat) : (Fl.nx ρ S).end_ n = fin n .non S := rfl
theorem end_rt (d : D) (S : Sto) (n : Nat) : (Fl.rt d S).end_ n = fin n d S := rfl
theorem end_ex (c : Nat) (S : Sto) (n : Nat) : (Fl.ex c S).end_ n = .exc c (S.take n) := rfl
theorem fin_len (d : D) (S : Sto) (n : Nat) (h : S.length = n) : fin n d S = .ok d S := by
  unfold fin
  rw [decide_eq_true h]
theorem fin_self (d : D) (S : Sto) : fin S.length d S = .ok d S := fin_len d S _ rfl
theorem fin_cons (d : D) (S : Sto) (c : MO) : fin (S.length + 1) d (c :: S) = .ok d (c :: S) := fin_len d _ _ rfl
/-- a choice by a Bool -/
def pick {α : Type} (k : Bool) (a b : α) : α := match k with | true => a | false => b
theorem pick_t {α : Type} (a b : α) : pick true a b = a := rfl
theorem pick_f {α : Type} (a b : α) : pick false a b = b := rfl
def iteK (C : Tc) (a b : Ss) (ρ : Env) (k : Bool) (S : Sto) : Fl := match k with | true => execs C a ρ S | false => execs C b ρ S
theorem iteK_t (C : Tc) (a b : Ss) (ρ : Env) (S : Sto) : iteK C a b ρ true S = execs C a ρ S := rfl
theorem iteK_f (C : Tc) (a b : Ss) (ρ : Env) (S : Sto) : iteK C a b ρ false S = execs C b ρ S := rfl
theorem x_ite (C : Tc) (c : E) (a b : Ss) (ρ : Env) (S : Sto) : exec C (.ite c a b) ρ S = (asB (ev C c ρ S)).toF (iteK C a b ρ) := by
  rw [exec]; rfl
def nxK (ρ : Env) (S : Sto) : Fl := .nx ρ S
theorem nxK_eq (ρ : Env) (S : Sto) : nxK ρ S = .nx ρ S := rfl
def asg1 (C : Tc) (t : Tg) (ρ : Env) (d : D) (S : Sto) : Fl := (asgD C t d ρ S).toF nxK
theorem asg1_eq (C : Tc) (t : Tg) (ρ : Env) (d : D) (S : Sto) : asg1 C t ρ d S = (asgD C t d ρ S).toF nxK := rfl
theorem x_asg (C : Tc) (t : Tg) (e : E) (ρ : Env) (S : Sto) : exec C (.asg t e) ρ S = (ev C e ρ S).toF (asg1 C t ρ) := by rw [exec]; rfl
def par2 (i j : Nat) (ρ : Env) (d e : D) (S : Sto) : Fl := .nx ((ρ.set i (some d)).set j (some e)) S
theorem par2_eq (i j : Nat) (ρ : Env) (d e : D) (S : Sto) : par2 i j ρ d e S = .nx ((ρ.set i (some d)).set j (some e)) S := rfl
def par1 (C : Tc) (i j : Nat) (b : E) (ρ : Env) (d : D) (S : Sto) : Fl := (ev C b ρ S).toF (par2 i j ρ d)
theorem par1_eq (C : Tc) (i j : Nat) (b : E) (ρ : Env) (d : D) (S : Sto) : par1 C i j b ρ d S = (ev C b ρ S).toF (par2 i j ρ d) := rfl
theorem x_par (C : Tc) (i j : Nat) (a b : E) (ρ : Env) (S : Sto) : exec C (.par i j a b) ρ S = (ev C a ρ S).toF (par1 C i j b ρ) := by rw [exec]; rfl
def aug2 (i : Nat) (ρ : Env) (x : Int) (d : D) (S : Sto) : Fl := match d with | .int y => .nx (ρ.set i (some (.int (x + y)))) S | _ => .bad
theorem aug2_eq (i : Nat) (ρ : Env) (x y : Int) (S : Sto) : aug2 i ρ x (.int y) S = .nx (ρ.set i (some (.int (x + y)))) S := rfl
def aug1 (C : Tc) (i : Nat) (e : E) (ρ : Env) (S : Sto) (o : Option (Option D)) : Fl := match o with
    | some (some (.int x)) => (ev C e ρ S).toF (aug2 i ρ x)
    | _ => .bad
theorem aug1_eq (C : Tc) (i : Nat) (e : E) (ρ : Env) (S : Sto) (x : Int) : aug1 C i e ρ S (some (some (.int x))) = (ev C e ρ S).toF (aug2 i ρ x) := rfl
def p33 (i j l : Nat) (ρ : Env) (d e g : D) (S : Sto) : Fl := .nx (((ρ.set i (some d)).set j (some e)).set l (some g)) S
theorem p33_eq (i j l : Nat) (ρ : Env) (d e g : D) (S : Sto) : p33 i j l ρ d e g S = .nx (((ρ.set i (some d)).set j (some e)).set l (some g)) S := rfl
def p32 (C : Tc) (i j l : Nat) (c : E) (ρ : Env) (d e : D) (S : Sto) : Fl := (ev C c ρ S).toF (p33 i j l ρ d e)
theorem p32_eq (C : Tc) (i j l : Nat) (c : E) (ρ : Env) (d e : D) (S : Sto) : p32 C i j l c ρ d e S = (ev C c ρ S).toF (p33 i j l ρ d e) := rfl
def p31 (C : Tc) (i j l : Nat) (b c : E) (ρ : Env) (d : D) (S : Sto) : Fl := (ev C b ρ S).toF (p32 C i j l c ρ d)
theorem p31_eq (C : Tc) (i j l : Nat) (b c : E) (ρ : Env) (d : D) (S : Sto) : p31 C i j l b c ρ d S = (ev C b ρ S).toF (p32 C i j l c ρ d) := rfl
theorem x_par3 (C : Tc) (i j l : Nat) (a b c : E) (ρ : Env) (S : Sto) : exec C (.par3 i j l a b c) ρ S = (ev C a ρ S).toF (p31 C i j l b c ρ) := by rw [exec]; rfl
theorem x_aug (C : Tc) (i : Nat) (e : E) (ρ : Env) (S : Sto) : exec C (.aug i e) ρ S = aug1 C i e ρ S ρ[i]? := by rw [exec]; rfl
def newK (i : Nat) (ρ : Env) (l : List D) (S : Sto) (k : Bool) : Fl := match k with | true => .nx (ρ.set i (some (.mr S.length))) (S ++ [.lst l]) | false => .bad
theorem newK_t (i : Nat) (ρ : Env) (l : List D) (S : Sto) : newK i ρ l S true = .nx (ρ.set i (some (.mr S.length))) (S ++ [.lst l]) := rfl
def new1 (i : Nat) (ρ : Env) (l : List D) (S : Sto) : Fl := newK i ρ l S (lows S.length l && decide (l.length ≤ 100000))
theorem new1_eq (i : Nat) (ρ : Env) (l : List D) (S : Sto) : new1 i ρ l S = newK i ρ l S (lows S.length l && decide (l.length ≤ 100000)) := rfl
theorem x_newL (C : Tc) (i : Nat) (es : Es) (ρ : Env) (S : Sto) : exec C (.newL i es) ρ S = (evs C es ρ S).toF (new1 i ρ) := by rw [exec]; rfl
theorem x_newD (C : Tc) (i : Nat) (ks : List Str) (es : Es) (ρ : Env) (S : Sto) : exec C (.newD i ks es) ρ S = (evs C es ρ S).toF fun l S1 => (match lows S1.length l && decide (ks.length = l.length) && decide (ks.length ≤ 15) && decide ks.Nodup && !ks.isEmpty with
    | true => .nx (ρ.set i (some (.mr S1.length))) (S1 ++ [.dct ks l])
    | false => .bad) := by rw [exec] <;> rfl
def expK (ρ : Env) (_ : D) (S : Sto) : Fl := .nx ρ S
theorem expK_eq (ρ : Env) (d : D) (S : Sto) : expK ρ d S = .nx ρ S := rfl
theorem x_exp (C : Tc) (e : E) (ρ : Env) (S : Sto) : exec C (.exp e) ρ S = (ev C e ρ S).toF (expK ρ) := by rw [exec]; rfl
def forK (C : Tc) (t : Tg) (b : Ss) (ρ : Env) (ds : List D) (S : Sto) : Fl := forL (asgD C t) (execs C b) ds ρ S
theorem forK_eq (C : Tc) (t : Tg) (b : Ss) (ρ : Env) (ds : List D) (S : Sto) : forK C t b ρ ds S = forL (asgD C t) (execs C b) ds ρ S := rfl
theorem x_for (C : Tc) (t : Tg) (it : It) (b : Ss) (ρ : Env) (S : Sto) : exec C (.for_ t it b) ρ S = (evI C it ρ S).toF (forK C t b ρ) := by rw [exec]; rfl
def retK (d : D) (S : Sto) : Fl := .rt d S
theorem retK_eq (d : D) (S : Sto) : retK d S = .rt d S := rfl
theorem x_ret (C : Tc) (e : E) (ρ : Env) (S : Sto) : exec C (.ret e) ρ S = (ev C e ρ S).toF retK := by rw [exec]; rfl
theorem x_retN (C : Tc) (ρ : Env) (S : Sto) : exec C .retN ρ S = .rt .non S := by rw [exec] <;> rfl
theorem x_raise (C : Tc) (c : Nat) (ρ : Env) (S : Sto) : exec C (.raise c) ρ S = .ex c S := by rw [exec] <;> rfl
theorem x_pass (C : Tc) (ρ : Env) (S : Sto) : exec C .pass ρ S = .nx ρ S := by rw [exec] <;> rfl
theorem x_brk (C : Tc) (ρ : Env) (S : Sto) : exec C .brk ρ S = .bk ρ S := by rw [exec] <;> rfl
theorem x_cont (C : Tc) (ρ : Env) (S : Sto) : exec C .cont ρ S = .ct ρ S := by rw [exec] <;> rfl
def iteE (C : Tc) (a b : E) (ρ : Env) (k : Bool) (S : Sto) : R D := match k with | true => ev C a ρ S | false => ev C b ρ S
theorem iteE_t (C : Tc) (a b : E) (ρ : Env) (S : Sto) : iteE C a b ρ true S = ev C a ρ S := rfl
theorem iteE_f (C : Tc) (a b : E) (ρ : Env) (S : Sto) : iteE C a b ρ false S = ev C b ρ S := rfl
theorem iteE_eq (C : Tc) (a b : E) (ρ : Env) (k : Bool) (S : Sto) : iteE C a b ρ k S = pick k (ev C a ρ S) (ev C b ρ S) := rfl
theorem v_ite (C : Tc) (c a b : E) (ρ : Env) (S : Sto) : ev C (.ite c a b) ρ S = (asB (ev C c ρ S)).bind (iteE C a b ρ) := by
  rw [ev]; rfl
def andE (C : Tc) (b : E) (ρ : Env) (k : Bool) (S : Sto) : R D := match k with | true => ev C b ρ S | false => .ok (.bl false) S
theorem andE_t (C : Tc) (b : E) (ρ : Env) (S : Sto) : andE C b ρ true S = ev C b ρ S := rfl
theorem andE_f (C : Tc) (b : E) (ρ : Env) (S : Sto) : andE C b ρ false S = .ok (.bl false) S := rfl
theorem andE_eq (C : Tc) (b : E) (ρ : Env) (k : Bool) (S : Sto) : andE C b ρ k S = pick k (ev C b ρ S) (.ok (.bl false) S) := rfl
theorem v_and (C : Tc) (a b : E) (ρ : Env) (S : Sto) : ev C (.and a b) ρ S = (asB (ev C a ρ S)).bind (andE C b ρ) := by
  rw [ev]; rfl
def orE (C : Tc) (b : E) (ρ : Env) (k : Bool) (S : Sto) : R D := match k with | true => .ok (.bl true) S | false => ev C b ρ S
theorem orE_t (C : Tc) (b : E) (ρ : Env) (S : Sto) : orE C b ρ true S = .ok (.bl true) S := rfl
theorem orE_f (C : Tc) (b : E) (ρ : Env) (S : Sto) : orE C b ρ false S = ev C b ρ S := rfl
theorem orE_eq (C : Tc) (b : E) (ρ : Env) (k : Bool) (S : Sto) : orE C b ρ k S = pick k (.ok (.bl true) S) (ev C b ρ S) := rfl
theorem v_or (C : Tc) (a b : E) (ρ : Env) (S : Sto) : ev C (.or a b) ρ S = (asB (ev C a ρ S)).bind (orE C b ρ) := by
  rw [ev]; rfl
def chn3 (C : Tc) (o' : Cop) (y : D) (c : E) (ρ : Env) (k : Bool) (S : Sto) : R D := match k with | true => (ev C c ρ S).bind (cmpD o' y) | false => .ok (.bl false) S
theorem chn3_t (C : Tc) (o' : Cop) (y : D) (c : E) (ρ : Env) (S : Sto) : chn3 C o' y c ρ true S = (ev C c ρ S).bind (cmpD o' y) := rfl
theorem chn3_f (C : Tc) (o' : Cop) (y : D) (c : E) (ρ : Env) (S : Sto) : chn3 C o' y c ρ false S = .ok (.bl false) S := rfl
def chn2 (C : Tc) (o o' : Cop) (c : E) (ρ : Env) (x y : D) (S : Sto) : R D := (asB (cmpD o x y S)).bind (chn3 C o' y c ρ)
theorem chn2_eq (C : Tc) (o o' : Cop) (c : E) (ρ : Env) (x y : D) (S : Sto) : chn2 C o o' c ρ x y S = (asB (cmpD o x y S)).bind (chn3 C o' y c ρ) := rfl
def chn1 (C : Tc) (o o' : Cop) (b c : E) (ρ : Env) (x : D) (S : Sto) : R D := (ev C b ρ S).bind (chn2 C o o' c ρ x)
theorem chn1_eq (C : Tc) (o o' : Cop) (b c : E) (ρ : Env) (x : D) (S : Sto) : chn1 C o o' b c ρ x S = (ev C b ρ S).bind (chn2 C o o' c ρ x) := rfl
theorem v_chn (C : Tc) (o o' : Cop) (a b c : E) (ρ : Env) (S : Sto) : ev C (.chn o o' a b c) ρ S = (ev C a ρ S).bind (chn1 C o o' b c ρ) := by
  rw [ev]; rfl
theorem v_var (C : Tc) (i : Nat) (ρ : Env) (S : Sto) : ev C (.var i) ρ S = (match ρ[i]? with | some (some d) => .ok d S | _ => .bad) := by rw [ev] <;> rfl
theorem v_cst (C : Tc) (d : Cst) (ρ : Env) (S : Sto) : ev C (.cst d) ρ S = .ok (cstD d) S := by rw [ev] <;> rfl
theorem cs_non : cstD .non = .non := rfl
theorem cs_bl (b : Bool) : cstD (.bl b) = .bl b := rfl
theorem cs_int (i : Int) : cstD (.int i) = .int i := rfl
theorem cs_str (x : Str) : cstD (.str x) = .str x := rfl
theorem v_glo (C : Tc) (i : Nat) (ρ : Env) (S : Sto) : ev C (.glo i) ρ S = .ok (C.gd i) S := by rw [ev] <;> rfl
def bin1 (C : Tc) (o : Bop) (b : E) (ρ : Env) (x : D) (S : Sto) : R D := (ev C b ρ S).bind (binD o x)
theorem bin1_eq (C : Tc) (o : Bop) (b : E) (ρ : Env) (x : D) (S : Sto) : bin1 C o b ρ x S = (ev C b ρ S).bind (binD o x) := rfl
theorem v_bin (C : Tc) (o : Bop) (a b : E) (ρ : Env) (S : Sto) : ev C (.bin o a b) ρ S = (ev C a ρ S).bind (bin1 C o b ρ) := by rw [ev]; rfl
def negD (x : D) (S : Sto) : R D := match x with | .int i => .ok (.int (-i)) S | _ => .bad
theorem negD_int (i : Int) (S : Sto) : negD (.int i) S = .ok (.int (-i)) S := rfl
theorem v_neg (C : Tc) (a : E) (ρ : Env) (S : Sto) : ev C (.neg a) ρ S = (ev C a ρ S).bind negD := by rw [ev]; rfl
def cmp1 (C : Tc) (o : Cop) (b : E) (ρ : Env) (x : D) (S : Sto) : R D := (ev C b ρ S).bind (cmpD o x)
theorem cmp1_eq (C : Tc) (o : Cop) (b : E) (ρ : Env) (x : D) (S : Sto) : cmp1 C o b ρ x S = (ev C b ρ S).bind (cmpD o x) := rfl
theorem v_cmp (C : Tc) (o : Cop) (a b : E) (ρ : Env) (S : Sto) : ev C (.cmp o a b) ρ S = (ev C a ρ S).bind (cmp1 C o b ρ) := by rw [ev]; rfl
def notK (k : Bool) (S : Sto) : R D := .ok (.bl (!k)) S
theorem notK_eq (k : Bool) (S : Sto) : notK k S = .ok (.bl (!k)) S := rfl
theorem v_not (C : Tc) (a : E) (ρ : Env) (S : Sto) : ev C (.not a) ρ S = (asB (ev C a ρ S)).bind notK := by rw [ev]; rfl
def tupK (l : List D) (S : Sto) : R D := whenR (decide (l.length ≤ 100000)) (.ok (.tup l) S)
theorem tupK_eq (l : List D) (S : Sto) : tupK l S = whenR (decide (l.length ≤ 100000)) (.ok (.tup l) S) := rfl
theorem v_tup (C : Tc) (es : Es) (ρ : Env) (S : Sto) : ev C (.tup es) ρ S = (evs C es ρ S).bind tupK := by rw [ev]; rfl
def lstK (l : List D) (S : Sto) : R D := whenR (decide (l.length ≤ 100000)) (.ok (.lst l) S)
theorem lstK_eq (l : List D) (S : Sto) : lstK l S = whenR (decide (l.length ≤ 100000)) (.ok (.lst l) S) := rfl
theorem v_lst (C : Tc) (es : Es) (ρ : Env) (S : Sto) : ev C (.lst es) ρ S = (evs C es ρ S).bind lstK := by rw [ev]; rfl
def dctK (ks : List Str) (l : List D) (S : Sto) : R D := whenR (decide (ks.length = l.length) && decide (ks.length ≤ 15) && decide ks.Nodup && !ks.isEmpty) (.ok (.dct ks l) S)
theorem dctK_eq (ks : List Str) (l : List D) (S : Sto) : dctK ks l S = whenR (decide (ks.length = l.length) && decide (ks.length ≤ 15) && decide ks.Nodup && !ks.isEmpty) (.ok (.dct ks l) S) := rfl
theorem v_dct (C : Tc) (ks : List Str) (es : Es) (ρ : Env) (S : Sto) : ev C (.dct ks es) ρ S = (evs C es ρ S).bind (dctK ks) := by rw [ev]; rfl
def sub1 (C : Tc) (b : E) (ρ : Env) (x : D) (S : Sto) : R D := (ev C b ρ S).bind (subD x)
theorem sub1_eq (C : Tc) (b : E) (ρ : Env) (x : D) (S : Sto) : sub1 C b ρ x S = (ev C b ρ S).bind (subD x) := rfl
theorem v_sub (C : Tc) (a b : E) (ρ : Env) (S : Sto) : ev C (.sub a b) ρ S = (ev C a ρ S).bind (sub1 C b ρ) := by rw [ev]; rfl
def revK (x : D) (S : Sto) : R D := match x with | .lst l => .ok (.lst l.reverse) S | _ => .bad
theorem revK_eq (l : List D) (S : Sto) : revK (.lst l) S = .ok (.lst l.reverse) S := rfl
theorem v_rev (C : Tc) (a : E) (ρ : Env) (S : Sto) : ev C (.rev a) ρ S = (ev C a ρ S).bind revK := by rw [ev]; rfl
def slf2 (x y : D) (S : Sto) : R D := match y with | .int i => slcD x (some i) none S | _ => .bad
theorem slf2_eq (x : D) (i : Int) (S : Sto) : slf2 x (.int i) S = slcD x (some i) none S := rfl
def slf1 (C : Tc) (b : E) (ρ : Env) (x : D) (S : Sto) : R D := (ev C b ρ S).bind (slf2 x)
theorem slf1_eq (C : Tc) (b : E) (ρ : Env) (x : D) (S : Sto) : slf1 C b ρ x S = (ev C b ρ S).bind (slf2 x) := rfl
theorem v_slf (C : Tc) (a b : E) (ρ : Env) (S : Sto) : ev C (.slf a b) ρ S = (ev C a ρ S).bind (slf1 C b ρ) := by rw [ev]; rfl
def slt2 (x y : D) (S : Sto) : R D := match y with | .int i => slcD x none (some i) S | _ => .bad
theorem slt2_eq (x : D) (i : Int) (S : Sto) : slt2 x (.int i) S = slcD x none (some i) S := rfl
def slt1 (C : Tc) (b : E) (ρ : Env) (x : D) (S : Sto) : R D := (ev C b ρ S).bind (slt2 x)
theorem slt1_eq (C : Tc) (b : E) (ρ : Env) (x : D) (S : Sto) : slt1 C b ρ x S = (ev C b ρ S).bind (slt2 x) := rfl
theorem v_slt (C : Tc) (a b : E) (ρ : Env) (S : Sto) : ev C (.slt a b) ρ S = (ev C a ρ S).bind (slt1 C b ρ) := by rw [ev]; rfl
def fldK (fo : Nat → Str → Bool) (f : Str) (x : D) (S : Sto) : R D := fldD fo x f S
theorem fldK_eq (fo : Nat → Str → Bool) (f : Str) (x : D) (S : Sto) : fldK fo f x S = fldD fo x f S := rfl
theorem v_fld (C : Tc) (a : E) (f : Str) (ρ : Env) (S : Sto) : ev C (.fld a f) ρ S = (ev C a ρ S).bind (fldK C.fo f) := by rw [ev]; rfl
def callK (C : Tc) (id : Nat) (l : List D) (S : Sto) : R D := whenR (decide (l.length = C.ar id)) (C.φ id l S)
theorem callK_eq (C : Tc) (id : Nat) (l : List D) (S : Sto) : callK C id l S = whenR (decide (l.length = C.ar id)) (C.φ id l S) := rfl
theorem v_call (C : Tc) (id : Nat) (es : Es) (ρ : Env) (S : Sto) : ev C (.call id es) ρ S = (evs C es ρ S).bind (callK C id) := by rw [ev]; rfl
def mkD (c : Nat) (r : R D) : R D := match r with
  | .ok (.ob c' ns l') S2 => whenR (decide (c' = c)) (.ok (.ob c ns l') S2)
  | .exc k S2 => .exc k S2
  | _ => .bad
theorem mkD_ok (c : Nat) (ns : List Str) (l : List D) (S : Sto) : mkD c (.ok (.ob c ns l) S) = .ok (.ob c ns l) S := by
  unfold mkD; simp only [decide_true]; rfl
def mkK (C : Tc) (id c : Nat) (l : List D) (S : Sto) : R D := whenR (decide (l.length = C.ar id)) (mkD c (C.φ id l S))
theorem mkK_eq (C : Tc) (id c : Nat) (l : List D) (S : Sto) : mkK C id c l S = whenR (decide (l.length = C.ar id)) (mkD c (C.φ id l S)) := rfl
theorem v_mk (C : Tc) (id c : Nat) (es : Es) (ρ : Env) (S : Sto) : ev C (.mk id c es) ρ S = (evs C es ρ S).bind (mkK C id c) := by rw [ev]; rfl
def mthD (C : Tc) (id c : Nat) (m : Str) (x : D) (S1 : Sto) (r : R (List D)) : R D := match x with
      | .ob c' ns l' => whenR (decide (c' = c) && decide (m ∉ ns)) (r.bind fun l S2 => whenR (decide (l.length + 1 = C.ar id)) (C.φ id (x :: l) S2))
      | .mr j => (match S1[j]? with
        | some (.ins c' ns l') => whenR (decide (c' = c) && decide (m ∉ ns)) (r.bind fun l S2 => whenR (decide (l.length + 1 = C.ar id)) (C.φ id (x :: l) S2))
        | _ => .bad)
      | _ => .bad
def mth2 (C : Tc) (id : Nat) (x : D) (l : List D) (S : Sto) : R D := whenR (decide (l.length + 1 = C.ar id)) (C.φ id (x :: l) S)
theorem mth2_eq (C : Tc) (id : Nat) (x : D) (l : List D) (S : Sto) : mth2 C id x l S = whenR (decide (l.length + 1 = C.ar id)) (C.φ id (x :: l) S) := rfl
theorem mthD_ob (C : Tc) (id c : Nat) (m : Str) (ns : List Str) (l' : List D) (S1 : Sto) (r : R (List D)) : mthD C id c m (.ob c ns l') S1 r = whenR (decide (m ∉ ns)) (r.bind (mth2 C id (.ob c ns l'))) := by
  unfold mthD; simp only [decide_true, Bool.true_and]; rfl
def mth1 (C : Tc) (id c : Nat) (m : Str) (es : Es) (ρ : Env) (x : D) (S : Sto) : R D := mthD C id c m x S (evs C es ρ S)
theorem mth1_eq (C : Tc) (id c : Nat) (m : Str) (es : Es) (ρ : Env) (x : D) (S : Sto) : mth1 C id c m es ρ x S = mthD C id c m x S (evs C es ρ S) := rfl
theorem v_mth (C : Tc) (id c : Nat) (m : Str) (a : E) (es : Es) (ρ : Env) (S : Sto) : ev C (.mth id c m a es) ρ S = (ev C a ρ S).bind (mth1 C id c m es ρ) := by
  rw [ev]; rfl
def lr22 (x y : D) (S : Sto) : R D := match x, y with | .int i, .int j => whenR (okI i && okI j && decide ((j - i).toNat ≤ 100000)) (.ok (.lst (rngD i j)) S) | _, _ => .bad
theorem lr22_eq (i j : Int) (S : Sto) : lr22 (.int i) (.int j) S = whenR (okI i && okI j && decide ((j - i).toNat ≤ 100000)) (.ok (.lst (rngD i j)) S) := rfl
def lr21 (C : Tc) (b : E) (ρ : Env) (x : D) (S : Sto) : R D := (ev C b ρ S).bind (lr22 x)
theorem lr21_eq (C : Tc) (b : E) (ρ : Env) (x : D) (S : Sto) : lr21 C b ρ x S = (ev C b ρ S).bind (lr22 x) := rfl
theorem v_lr2 (C : Tc) (a b : E) (ρ : Env) (S : Sto) : ev C (.lr2 a b) ρ S = (ev C a ρ S).bind (lr21 C b ρ) := by rw [ev]; rfl
def dg3 (ks : List Str) (l : List D) (y z : D) (S : Sto) : R D := match y with
  | .str k => .ok ((getK ks l k).getD z) S
  | _ => .bad
theorem dg3_eq (ks : List Str) (l : List D) (k : Str) (z : D) (S : Sto) : dg3 ks l (.str k) z S = .ok ((getK ks l k).getD z) S := rfl
def dg2 (C : Tc) (c : E) (ρ : Env) (ks : List Str) (l : List D) (y : D) (S : Sto) : R D := (ev C c ρ S).bind (dg3 ks l y)
theorem dg2_eq (C : Tc) (c : E) (ρ : Env) (ks : List Str) (l : List D) (y : D) (S : Sto) : dg2 C c ρ ks l y S = (ev C c ρ S).bind (dg3 ks l y) := rfl
def dg1 (C : Tc) (b c : E) (ρ : Env) (x : D) (S : Sto) : R D := match x with
  | .dct ks l => (ev C b ρ S).bind (dg2 C c ρ ks l)
  | _ => .bad
theorem dg1_eq (C : Tc) (b c : E) (ρ : Env) (ks : List Str) (l : List D) (S : Sto) : dg1 C b c ρ (.dct ks l) S = (ev C b ρ S).bind (dg2 C c ρ ks l) := rfl
theorem v_dget (C : Tc) (a b c : E) (ρ : Env) (S : Sto) : ev C (.dget a b c) ρ S = (ev C a ρ S).bind (dg1 C b c ρ) := by rw [ev]; rfl
theorem v_lam (C : Tc) (e : E) (ρ : Env) (S : Sto) : ev C (.lam e) ρ S = C.lam e S := by rw [ev]
def wrg1 (C : Tc) (id : Nat) (ρ : Env) (x : D) (S : Sto) : R D := C.wrg id x ρ S
theorem wrg1_eq (C : Tc) (id : Nat) (ρ : Env) (x : D) (S : Sto) : wrg1 C id ρ x S = C.wrg id x ρ S := rfl
theorem v_wrg (C : Tc) (id : Nat) (a : E) (ρ : Env) (S : Sto) : ev C (.wrg id a) ρ S = (ev C a ρ S).bind (wrg1 C id ρ) := by rw [ev]; rfl
def txt1 (C : Tc) (t : Txo) (b : E) (ρ : Env) (x : D) (S : Sto) : R D := match x with
  | .str z => (ev C b ρ S).bind (txtD t z)
  | _ => .bad
theorem txt1_eq (C : Tc) (t : Txo) (b : E) (ρ : Env) (z : Str) (S : Sto) : txt1 C t b ρ (.str z) S = (ev C b ρ S).bind (txtD t z) := rfl
theorem v_txt (C : Tc) (t : Txo) (a b : E) (ρ : Env) (S : Sto) : ev C (.txt t a b) ρ S = (ev C a ρ S).bind (txt1 C t b ρ) := by rw [ev]; rfl
def lms1 (C : Tc) (t : Lmo) (b : E) (ρ : Env) (x : D) (S : Sto) : R D := match x with
  | .lst l => (ev C b ρ S).bind (lmsD t l)
  | _ => .bad
theorem lms1_eq (C : Tc) (t : Lmo) (b : E) (ρ : Env) (l : List D) (S : Sto) : lms1 C t b ρ (.lst l) S = (ev C b ρ S).bind (lmsD t l) := rfl
theorem v_lms (C : Tc) (t : Lmo) (a b : E) (ρ : Env) (S : Sto) : ev C (.lms t a b) ρ S = (ev C a ρ S).bind (lms1 C t b ρ) := by rw [ev]; rfl
theorem v_blt (C : Tc) (b : Blt) (es : Es) (ρ : Env) (S : Sto) : ev C (.blt b es) ρ S = (evs C es ρ S).bind (bltD b) := by rw [ev]
def isiK (ts : List Ty) (x : D) (S : Sto) : R D := isiD x ts S
theorem isiK_eq (ts : List Ty) (x : D) (S : Sto) : isiK ts x S = isiD x ts S := rfl
theorem v_isi (C : Tc) (a : E) (t : Ty) (ρ : Env) (S : Sto) : ev C (.isi a t) ρ S = (ev C a ρ S).bind (isiK [t]) := by rw [ev]; rfl
theorem v_isi2 (C : Tc) (a : E) (t u : Ty) (ρ : Env) (S : Sto) : ev C (.isi2 a t u) ρ S = (ev C a ρ S).bind (isiK [t, u]) := by rw [ev]; rfl
def lcF (r : R (List D)) : R D := match r with
  | .ok l S2 => .ok (.lst l) S2
  | _ => .bad
theorem lcF_ok (l : List D) (S : Sto) : lcF (.ok l S) = .ok (.lst l) S := rfl
def tt1 (_ : Env) (S : Sto) : R D := .ok (.bl true) S
def lc1 (C : Tc) (elt : E) (i : Nat) (ρ : Env) (ds : List D) (S : Sto) : R D := whenR (decide (ds.length ≤ 100000)) (lcF (lcL (ev C elt) tt1 i (ρ.set i none) ds S))
theorem lc1_eq (C : Tc) (elt : E) (i : Nat) (ρ : Env) (ds : List D) (S : Sto) : lc1 C elt i ρ ds S = whenR (decide (ds.length ≤ 100000)) (lcF (lcL (ev C elt) tt1 i (ρ.set i none) ds S)) := rfl
theorem v_lc (C : Tc) (elt : E) (i : Nat) (it : It) (ρ : Env) (S : Sto) : ev C (.lc elt i it) ρ S = (evI C it ρ S).bind (lc1 C elt i ρ) := by rw [ev]; rfl
def lcc1 (C : Tc) (elt c : E) (i : Nat) (ρ : Env) (ds : List D) (S : Sto) : R D := whenR (decide (ds.length ≤ 100000)) (lcF (lcL (ev C elt) (ev C c) i (ρ.set i none) ds S))
theorem lcc1_eq (C : Tc) (elt c : E) (i : Nat) (ρ : Env) (ds : List D) (S : Sto) : lcc1 C elt c i ρ ds S = whenR (decide (ds.length ≤ 100000)) (lcF (lcL (ev C elt) (ev C c) i (ρ.set i none) ds S)) := rfl
theorem v_lcc (C : Tc) (elt : E) (i : Nat) (it : It) (c : E) (ρ : Env) (S : Sto) : ev C (.lcc elt i it c) ρ S = (evI C it ρ S).bind (lcc1 C elt c i ρ) := by rw [ev]; rfl
def cons2 (x : D) (l : List D) (S : Sto) : R (List D) := .ok (x :: l) S
theorem cons2_eq (x : D) (l : List D) (S : Sto) : cons2 x l S = .ok (x :: l) S := rfl
def cons1 (C : Tc) (es : Es) (ρ : Env) (x : D) (S : Sto) : R (List D) := (evs C es ρ S).bind (cons2 x)
theorem cons1_eq (C : Tc) (es : Es) (ρ : Env) (x : D) (S : Sto) : cons1 C es ρ x S = (evs C es ρ S).bind (cons2 x) := rfl
theorem a_nil (C : Tc) (ρ : Env) (S : Sto) : evs C .nil ρ S = .ok [] S := by rw [evs]
theorem a_cons (C : Tc) (e : E) (es : Es) (ρ : Env) (S : Sto) : evs C (.cons e es) ρ S = (ev C e ρ S).bind (cons1 C es ρ) := by rw [evs]; rfl
def rg1K (x : D) (S : Sto) : R (List D) := match x with | .int i => whenR (okI i) (.ok (rngD 0 i) S) | _ => .bad
theorem rg1K_eq (i : Int) (S : Sto) : rg1K (.int i) S = whenR (okI i) (.ok (rngD 0 i) S) := rfl
theorem i_rg1 (C : Tc) (a : E) (ρ : Env) (S : Sto) : evI C (.rg1 a) ρ S = (ev C a ρ S).bind rg1K := by rw [evI]; rfl
def rg2K2 (x y : D) (S : Sto) : R (List D) := match x, y with | .int i, .int j => whenR (okI i && okI j) (.ok (rngD i j) S) | _, _ => .bad
theorem rg2K2_eq (i j : Int) (S : Sto) : rg2K2 (.int i) (.int j) S = whenR (okI i && okI j) (.ok (rngD i j) S) := rfl
def rg2K (C : Tc) (b : E) (ρ : Env) (x : D) (S : Sto) : R (List D) := (ev C b ρ S).bind (rg2K2 x)
theorem rg2K_eq (C : Tc) (b : E) (ρ : Env) (x : D) (S : Sto) : rg2K C b ρ x S = (ev C b ρ S).bind (rg2K2 x) := rfl
theorem i_rg2 (C : Tc) (a b : E) (ρ : Env) (S : Sto) : evI C (.rg2 a b) ρ S = (ev C a ρ S).bind (rg2K C b ρ) := by rw [evI]; rfl
def rg33 (x y z : D) (S : Sto) : R (List D) := match x, y, z with | .int i, .int j, .int k => whenR (ok3 i j k) (.ok (rng3 i j k) S) | _, _, _ => .bad
theorem rg33_eq (i j k : Int) (S : Sto) : rg33 (.int i) (.int j) (.int k) S = whenR (ok3 i j k) (.ok (rng3 i j k) S) := rfl
def rg32 (C : Tc) (c : E) (ρ : Env) (x y : D) (S : Sto) : R (List D) := (ev C c ρ S).bind (rg33 x y)
theorem rg32_eq (C : Tc) (c : E) (ρ : Env) (x y : D) (S : Sto) : rg32 C c ρ x y S = (ev C c ρ S).bind (rg33 x y) := rfl
def rg31 (C : Tc) (b c : E) (ρ : Env) (x : D) (S : Sto) : R (List D) := (ev C b ρ S).bind (rg32 C c ρ x)
theorem rg31_eq (C : Tc) (b c : E) (ρ : Env) (x : D) (S : Sto) : rg31 C b c ρ x S = (ev C b ρ S).bind (rg32 C c ρ x) := rfl
theorem i_rg3 (C : Tc) (a b c : E) (ρ : Env) (S : Sto) : evI C (.rg3 a b c) ρ S = (ev C a ρ S).bind (rg31 C b c ρ) := by rw [evI]; rfl
def ofK (x : D) (S : Sto) : R (List D) := match itemsD x with | some l => .ok l S | none => .bad
theorem ofK_t (l : List D) (S : Sto) : ofK (.tup l) S = .ok l S := rfl
theorem ofK_l (l : List D) (S : Sto) : ofK (.lst l) S = .ok l S := rfl
theorem i_of (C : Tc) (e : E) (ρ : Env) (S : Sto) : evI C (.of e) ρ S = (ev C e ρ S).bind ofK := by rw [evI]; rfl
theorem u_nm (C : Tc) (i : Nat) (d : D) (ρ : Env) (S : Sto) : asgD C (.nm i) d ρ S = .ok (ρ.set i (some d)) S := by rw [asgD]
theorem u_tup (C : Tc) (ts : Tgs) (l : List D) (ρ : Env) (S : Sto) : asgD C (.tup ts) (.tup l) ρ S = whenR (decide (l.length = lenG ts)) (asgDs C ts l ρ S) := by rw [asgD]
def setK (ρ : Env) (_ : Unit) (S : Sto) : R Env := .ok ρ S
theorem setK_eq (ρ : Env) (u : Unit) (S : Sto) : setK ρ u S = .ok ρ S := rfl
def us2 (ρ : Env) (d x y : D) (S : Sto) : R Env := (setD x y d S).bind (setK ρ)
theorem us2_eq (ρ : Env) (d x y : D) (S : Sto) : us2 ρ d x y S = (setD x y d S).bind (setK ρ) := rfl
def us1 (C : Tc) (i : E) (ρ : Env) (d x : D) (S : Sto) : R Env := (ev C i ρ S).bind (us2 ρ d x)
theorem us1_eq (C : Tc) (i : E) (ρ : Env) (d x : D) (S : Sto) : us1 C i ρ d x S = (ev C i ρ S).bind (us2 ρ d x) := rfl
theorem u_sub (C : Tc) (o i : E) (d : D) (ρ : Env) (S : Sto) : asgD C (.sub o i) d ρ S = (ev C o ρ S).bind (us1 C i ρ d) := by rw [asgD]; rfl
def uf1 (C : Tc) (f : Str) (ρ : Env) (d x : D) (S : Sto) : R Env := (setF C.fo x f d S).bind (setK ρ)
theorem uf1_eq (C : Tc) (f : Str) (ρ : Env) (d x : D) (S : Sto) : uf1 C f ρ d x S = (setF C.fo x f d S).bind (setK ρ) := rfl
theorem u_fld (C : Tc) (o : E) (f : Str) (d : D) (ρ : Env) (S : Sto) : asgD C (.fld o f) d ρ S = (ev C o ρ S).bind (uf1 C f ρ d) := by rw [asgD]; rfl
theorem us_nil (C : Tc) (ρ : Env) (S : Sto) : asgDs C .nil [] ρ S = .ok ρ S := by rw [asgDs]
theorem us_cons (C : Tc) (t : Tg) (ts : Tgs) (d : D) (ds : List D) (ρ : Env) (S : Sto) : asgDs C (.cons t ts) (d :: ds) ρ S = (asgD C t d ρ S).bind (asgDs C ts ds) := by rw [asgDs]
theorem ixN_lt (n : Nat) (i : Int) (h0 : 0 ≤ i) (h : i < n) : L2.ixN n i = some i.toNat := by
  unfold L2.ixN
  rw [if_pos h0, if_pos h]
theorem atI_lt {α : Type} (l : List α) (i : Int) (h0 : 0 ≤ i) (h : i < l.length) : L2.atI l i = l[i.toNat]? := by
  unfold L2.atI
  rw [ixN_lt _ _ h0 h]
  rfl
theorem atI_0 {α : Type} (a : α) (l : List α) : L2.atI (a :: l) 0 = some a := by
  rw [atI_lt _ _ (by omega) (by rw [List.length_cons]; omega)]; rfl
theorem atI_1 {α : Type} (a b : α) (l : List α) : L2.atI (a :: b :: l) 1 = some b := by
  rw [atI_lt _ _ (by omega) (by rw [List.length_cons, List.length_cons]; omega)]; rfl
theorem atI_2 {α : Type} (a b c : α) (l : List α) : L2.atI (a :: b :: c :: l) 2 = some c := by
  rw [atI_lt _ _ (by omega) (by rw [List.length_cons, List.length_cons, List.length_cons]; omega)]; rfl
theorem atI_3 {α : Type} (a b c d : α) (l : List α) : L2.atI (a :: b :: c :: d :: l) 3 = some d := by
  rw [atI_lt _ _ (by omega) (by rw [List.length_cons, List.length_cons, List.length_cons, List.length_cons]; omega)]; rfl
theorem isi_t (d : D) (ts us : List Ty) (S : Sto) (h : tyD d = some us) (g : (ts.any fun t => us.contains t) = true) : isiD d ts S = .ok (.bl true) S := by
  unfold isiD; rw [h]; simp only [g]
theorem isi_f (d : D) (ts us : List Ty) (S : Sto) (h : tyD d = some us) (g : (ts.any fun t => us.contains t) = false) : isiD d ts S = .ok (.bl false) S := by
  unfold isiD; rw [h]; simp only [g]
theorem isi_non_int (S : Sto) : isiD (.non) [.int] S = .ok (.bl false) S := isi_f _ _ _ _ rfl (by decide)
theorem isi_non_bool (S : Sto) : isiD (.non) [.bool] S = .ok (.bl false) S := isi_f _ _ _ _ rfl (by decide)
theorem isi_non_str (S : Sto) : isiD (.non) [.str] S = .ok (.bl false) S := isi_f _ _ _ _ rfl (by decide)
theorem isi_non_tuple (S : Sto) : isiD (.non) [.tuple] S = .ok (.bl false) S := isi_f _ _ _ _ rfl (by decide)
theorem isi_non_list (S : Sto) : isiD (.non) [.list] S = .ok (.bl false) S := isi_f _ _ _ _ rfl (by decide)
theorem isi_non_tl (S : Sto) : isiD (.non) [.tuple, .list] S = .ok (.bl false) S := isi_f _ _ _ _ rfl (by decide)
theorem isi_bl_int (b : Bool) (S : Sto) : isiD (.bl b) [.int] S = .ok (.bl true) S := isi_t _ _ _ _ rfl (by decide)
theorem isi_bl_bool (b : Bool) (S : Sto) : isiD (.bl b) [.bool] S = .ok (.bl true) S := isi_t _ _ _ _ rfl (by decide)
theorem isi_bl_str (b : Bool) (S : Sto) : isiD (.bl b) [.str] S = .ok (.bl false) S := isi_f _ _ _ _ rfl (by decide)
theorem isi_bl_tuple (b : Bool) (S : Sto) : isiD (.bl b) [.tuple] S = .ok (.bl false) S := isi_f _ _ _ _ rfl (by decide)
theorem isi_bl_list (b : Bool) (S : Sto) : isiD (.bl b) [.list] S = .ok (.bl false) S := isi_f _ _ _ _ rfl (by decide)
theorem isi_bl_tl (b : Bool) (S : Sto) : isiD (.bl b) [.tuple, .list] S = .ok (.bl false) S := isi_f _ _ _ _ rfl (by decide)
theorem isi_int_int (b : Int) (S : Sto) : isiD (.int b) [.int] S = .ok (.bl true) S := isi_t _ _ _ _ rfl (by decide)
theorem isi_int_bool (b : Int) (S : Sto) : isiD (.int b) [.bool] S = .ok (.bl false) S := isi_f _ _ _ _ rfl (by decide)
theorem isi_int_str (b : Int) (S : Sto) : isiD (.int b) [.str] S = .ok (.bl false) S := isi_f _ _ _ _ rfl (by decide)
theorem isi_int_tuple (b : Int) (S : Sto) : isiD (.int b) [.tuple] S = .ok (.bl false) S := isi_f _ _ _ _ rfl (by decide)
theorem isi_int_list (b : Int) (S : Sto) : isiD (.int b) [.list] S = .ok (.bl false) S := isi_f _ _ _ _ rfl (by decide)
theorem isi_int_tl (b : Int) (S : Sto) : isiD (.int b) [.tuple, .list] S = .ok (.bl false) S := isi_f _ _ _ _ rfl (by decide)
theorem isi_str_int (b : Str) (S : Sto) : isiD (.str b) [.int] S = .ok (.bl false) S := isi_f _ _ _ _ rfl (by decide)
theorem isi_str_bool (b : Str) (S : Sto) : isiD (.str b) [.bool] S = .ok (.bl false) S := isi_f _ _ _ _ rfl (by decide)
theorem isi_str_str (b : Str) (S : Sto) : isiD (.str b) [.str] S = .ok (.bl true) S := isi_t _ _ _ _ rfl (by decide)
theorem isi_str_tuple (b : Str) (S : Sto) : isiD (.str b) [.tuple] S = .ok (.bl false) S := isi_f _ _ _ _ rfl (by decide)
theorem isi_str_list (b : Str) (S : Sto) : isiD (.str b) [.list] S = .ok (.bl false) S := isi_f _ _ _ _ rfl (by decide)
theorem isi_str_tl (b : Str) (S : Sto) : isiD (.str b) [.tuple, .list] S = .ok (.bl false) S := isi_f _ _ _ _ rfl (by decide)
theorem isi_tup_int (b : List D) (S : Sto) : isiD (.tup b) [.int] S = .ok (.bl false) S := isi_f _ _ _ _ rfl (by decide)
theorem isi_tup_bool (b : List D) (S : Sto) : isiD (.tup b) [.bool] S = .ok (.bl false) S := isi_f _ _ _ _ rfl (by decide)
theorem isi_tup_str (b : List D) (S : Sto) : isiD (.tup b) [.str] S = .ok (.bl false) S := isi_f _ _ _ _ rfl (by decide)
theorem isi_tup_tuple (b : List D) (S : Sto) : isiD (.tup b) [.tuple] S = .ok (.bl true) S := isi_t _ _ _ _ rfl (by decide)
theorem isi_tup_list (b : List D) (S : Sto) : isiD (.tup b) [.list] S = .ok (.bl false) S := isi_f _ _ _ _ rfl (by decide)
theorem isi_tup_tl (b : List D) (S : Sto) : isiD (.tup b) [.tuple, .list] S = .ok (.bl true) S := isi_t _ _ _ _ rfl (by decide)
theorem isi_lst_int (b : List D) (S : Sto) : isiD (.lst b) [.int] S = .ok (.bl false) S := isi_f _ _ _ _ rfl (by decide)
theorem isi_lst_bool (b : List D) (S : Sto) : isiD (.lst b) [.bool] S = .ok (.bl false) S := isi_f _ _ _ _ rfl (by decide)
theorem isi_lst_str (b : List D) (S : Sto) : isiD (.lst b) [.str] S = .ok (.bl false) S := isi_f _ _ _ _ rfl (by decide)
theorem isi_lst_tuple (b : List D) (S : Sto) : isiD (.lst b) [.tuple] S = .ok (.bl false) S := isi_f _ _ _ _ rfl (by decide)
theorem isi_lst_list (b : List D) (S : Sto) : isiD (.lst b) [.list] S = .ok (.bl true) S := isi_t _ _ _ _ rfl (by decide)
theorem isi_lst_tl (b : List D) (S : Sto) : isiD (.lst b) [.tuple, .list] S = .ok (.bl true) S := isi_t _ _ _ _ rfl (by decide)
theorem asB_ok (b : Bool) (S : Sto) : asB (.ok (.bl b) S) = .ok b S := rfl
theorem whenR_t {α : Type} (r : R α) : whenR true r = r := rfl
theorem L_phi (L : Lw) (n : Nat) : (L.C n).φ = L.phi n := rfl
theorem L_ar (L : Lw) (n : Nat) : (L.C n).ar = L.ar := rfl
theorem L_gd (L : Lw) (n : Nat) : (L.C n).gd = L.gd := rfl
theorem L_fo (L : Lw) (n : Nat) : (L.C n).fo = L.fo := rfl
theorem ofs_inj (a b : String) : (Str.ofString a = Str.ofString b) = (a = b) := by
  apply propext
  refine ⟨fun h => ?_, fun h => by rw [h]⟩
  rw [Str.ofString_eq_toList, Str.ofString_eq_toList] at h
  injection h with h
  have h : a.toList.map Char.toNat = b.toList.map Char.toNat := by
    have := congrArg Array.toList h
    simpa using this
  have inj : ∀ a b : Char, a.toNat = b.toNat → a = b := fun a b e => by
    apply Char.ext
    apply UInt32.toNat_inj.mp
    exact e
  have h2 : a.toList = b.toList := by
    have : ∀ l m : List Char, l.map Char.toNat = m.map Char.toNat → l = m := fun l => by
      induction l with
      | nil => intro m e; cases m with | nil => rfl | cons _ _ => cases e
      | cons x l ih =>
        intro m e
        cases m with
        | nil => cases e
        | cons y m =>
          injection e with e1 e2
          rw [inj _ _ e1, ih m e2]
    exact this _ _ h
  rw [← String.ofList_toList (s := a), ← String.ofList_toList (s := b), h2]
/-- reading and writing of slots -/
theorem ev_var (C : Tc) (i : Nat) (ρ : Env) (S : Sto) (d : D) (h : ρ[i]? = some (some d)) : ev C (.var i) ρ S = .ok d S := by
  rw [ev, h]
/-- loops -/
theorem forL_nil (bd : D → Env → Sto → R Env) (body : Env → Sto → Fl) (ρ : Env) (S : Sto) : forL bd body [] ρ S = .nx ρ S := rfl
theorem forL_inv (bd : D → Env → Sto → R Env) (body : Env → Sto → Fl) (I : Nat → Env → Sto → Prop) : ∀ (ds : List D) (k : Nat) (ρ : Env) (S : Sto), I k ρ S →
    (∀ (j : Nat) (d : D), ds[j]? = some d → ∀ ρ S, I (k + j) ρ S → ∃ ρ' S', (bd d ρ S).toF body = .nx ρ' S' ∧ I (k + j + 1) ρ' S') → ∃ ρ' S', forL bd body ds ρ S = .nx ρ' S' ∧ I (k + ds.length) ρ' S'
  | [], k, ρ, S, h, _ => ⟨ρ, S, rfl, h⟩
  | d :: ds, k, ρ, S, h, g => by
    obtain ⟨ρ1, S1, e1, h1⟩ := g 0 d rfl ρ S h
    obtain ⟨ρ2, S2, e2, h2⟩ := forL_inv bd body I ds (k + 1) ρ1 S1 h1 (fun j d' hj ρ' S' hi => by
      have := g (j + 1) d' (by simpa using hj) ρ' S' (by rw [show k + (j + 1) = k + 1 + j by omega]; exact hi)
      rw [show k + (j + 1) + 1 = k + 1 + j + 1 by omega] at this
      exact this)
    refine ⟨ρ2, S2, ?_, by rw [List.length_cons, show k + (ds.length + 1) = k + 1 + ds.length by omega]; exact h2⟩
    unfold forL
    cases eb : bd d ρ S with
    | ok ρ' S' =>
      rw [eb] at e1
      simp only [toF_ok] at e1 ⊢
      rw [e1]
      exact e2
    | exc c S' => rw [eb] at e1; cases e1
    | bad => rw [eb] at e1; cases e1
theorem lcL_inv (elt : Env → Sto → R D) (i : Nat) (ρ : Env) (I : Sto → Prop) (J : D → Prop) : ∀ (ds : List D) (S : Sto), I S →
    (∀ d ∈ ds, ∀ S, I S → ∃ x S', elt (ρ.set i (some d)) S = .ok x S' ∧ I S' ∧ J x) → ∃ xs S', lcL elt tt1 i ρ ds S = .ok xs S' ∧ I S' ∧ xs.length = ds.length ∧ ∀ x ∈ xs, J x
  | [], S, h, _ => ⟨[], S, rfl, h, rfl, fun _ z => by cases z⟩
  | d :: ds, S, h, g => by
    obtain ⟨x, S1, e1, h1, j1⟩ := g d List.mem_cons_self S h
    obtain ⟨xs, S2, e2, h2, e3, j2⟩ := lcL_inv elt i ρ I J ds S1 h1 fun d' hd => g d' (List.mem_cons_of_mem _ hd)
    refine ⟨x :: xs, S2, ?_, h2, by rw [List.length_cons, List.length_cons, e3], fun y hy => ?_⟩
    · unfold lcL
      simp only [tt1, asB_ok, e1, e2]
    · rcases List.mem_cons.mp hy with e | e
      · rw [e]; exact j1
      · exact j2 y e
def loopK (f : Fl) (k : Env → Sto → Fl) : Fl := match f with
      | .nx ρ2 S2 => k ρ2 S2
      | .ct ρ2 S2 => k ρ2 S2
      | .bk ρ2 S2 => .nx ρ2 S2
      | f => f
theorem loopK_nx (ρ : Env) (S : Sto) (k : Env → Sto → Fl) : loopK (.nx ρ S) k = k ρ S := rfl
theorem loopK_ct (ρ : Env) (S : Sto) (k : Env → Sto → Fl) : loopK (.ct ρ S) k = k ρ S := rfl
theorem loopK_bk (ρ : Env) (S : Sto) (k : Env → Sto → Fl) : loopK (.bk ρ S) k = .nx ρ S := rfl
theorem loopK_rt (d : D) (S : Sto) (k : Env → Sto → Fl) : loopK (.rt d S) k = .rt d S := rfl
theorem loopK_ex (d : Nat) (S : Sto) (k : Env → Sto → Fl) : loopK (.ex d S) k = .ex d S := rfl
/-- a while of the text -/
def whE (C : Tc) (c : E) (b : Ss) (n : Nat) (ρ : Env) (S : Sto) : Fl := whL (fun ρ S => asB (ev C c ρ S)) (execs C b) n ρ S
theorem x_whl (C : Tc) (c : E) (b : Ss) (ρ : Env) (S : Sto) : exec C (.whl c b) ρ S = whE C c b fuel ρ S := by rw [exec]; rfl
def whK (C : Tc) (c : E) (b : Ss) (n : Nat) (ρ : Env) (k : Bool) (S : Sto) : Fl := match k with | true => loopK (execs C b ρ S) (whE C c b n) | false => .nx ρ S
theorem whK_t (C : Tc) (c : E) (b : Ss) (n : Nat) (ρ : Env) (S : Sto) : whK C c b n ρ true S = loopK (execs C b ρ S) (whE C c b n) := rfl
theorem whK_f (C : Tc) (c : E) (b : Ss) (n : Nat) (ρ : Env) (S : Sto) : whK C c b n ρ false S = .nx ρ S := rfl
theorem whE_step (C : Tc) (c : E) (b : Ss) (n : Nat) (ρ : Env) (S : Sto) : whE C c b (n + 1) ρ S = (asB (ev C c ρ S)).toF (whK C c b n ρ) := by
  unfold whE; rw [whL]; unfold whK loopK; rfl
theorem fuel_eq : fuel = 999998 + 2 := rfl
/-! ### numbers -/
theorem log2_lt (i : Int) (k : Nat) (h1 : -(2 ^ k : Int) < i) (h2 : i < 2 ^ k) (hk : k ≠ 0) : i.natAbs.log2 < k := by
  have h : i.natAbs < 2 ^ k := by
    have : ((2 ^ k : Nat) : Int) = (2 : Int) ^ k := by norm_cast
    omega
  by_cases h0 : i.natAbs = 0
  · rw [h0]; show 0 < k; omega
  · exact (Nat.log2_lt h0).mpr h
def small (i : Int) : Prop := -(2 ^ 250 : Int) < i ∧ i < 2 ^ 250
theorem mulC_of {i j : Int} (h : small i) (g : small j) : mulC i j = true := by
  unfold mulC
  have a := log2_lt i 250 h.1 h.2 (by decide)
  have b := log2_lt j 250 g.1 g.2 (by decide)
  exact decide_eq_true (by omega)
theorem divC_of {j : Int} (h : small j) (g : j ≠ 0) : divC j = true := by
  unfold divC
  have a := log2_lt j 250 h.1 h.2 (by decide)
  rw [decide_eq_true g, decide_eq_true (show j.natAbs.log2 < 9000 by omega)]
  rfl
end Dz

set_option Elab.async false
set_option linter.all false
set_option maxRecDepth 100000
set_option maxHeartbeats 1000000
namespace Dz
open PySem (Str)

/-! ### plain laws: division -/
theorem fdiv_uniq {a b q r : Int} (h : a = b * q + r) (h1 : 0 < b → 0 ≤ r ∧ r < b) (h2 : b < 0 → b < r ∧ r ≤ 0) (hb : b ≠ 0) : a.fdiv b = q := by
  rcases Int.lt_or_gt_of_ne hb with hb | hb
  · obtain ⟨g1, g2⟩ := h2 hb
    rw [← Int.neg_fdiv_neg, Int.fdiv_eq_ediv_of_nonneg _ (by omega)]
    have e : -a = (-r) + (-b) * q := by rw [h, Int.neg_mul]; omega
    rw [e, Int.add_mul_ediv_left _ _ (by omega), Int.ediv_eq_zero_of_lt (by omega) (by omega)]
    omega
  · obtain ⟨g1, g2⟩ := h1 hb
    rw [Int.fdiv_eq_ediv_of_nonneg _ (by omega)]
    have e : a = r + b * q := by rw [h]; omega
    rw [e, Int.add_mul_ediv_left _ _ (by omega), Int.ediv_eq_zero_of_lt (by omega) (by omega)]
    omega
theorem fdiv_facts (a b : Int) (hb : b ≠ 0) : (0 < b → 0 ≤ a - b * a.fdiv b ∧ a - b * a.fdiv b < b) ∧ (b < 0 → b < a - b * a.fdiv b ∧ a - b * a.fdiv b ≤ 0) := by
  have pos : ∀ a b : Int, 0 < b → 0 ≤ a - b * a.fdiv b ∧ a - b * a.fdiv b < b := fun a b h => by
    rw [Int.fdiv_eq_ediv_of_nonneg _ (by omega)]
    have e := Int.emod_def a b
    have := Int.emod_nonneg a (show b ≠ 0 by omega)
    have := Int.emod_lt_of_pos a h
    omega
  refine ⟨pos a b, fun h => ?_⟩
  have := pos (-a) (-b) (by omega)
  rw [Int.neg_fdiv_neg, Int.neg_mul] at this
  omega
theorem fdiv_small {a b : Int} {N : Int} (hb : b ≠ 0) (h1 : -N < a) (h2 : a < N) : -N < a.fdiv b ∧ a.fdiv b < N := by
  have pos : ∀ a b : Int, 0 < b → -N < a → a < N → -N < a.fdiv b ∧ a.fdiv b < N := fun a b h h1 h2 => by
    rw [Int.fdiv_eq_ediv_of_nonneg _ (by omega)]
    constructor
    · rcases Int.lt_or_le a 0 with g | g
      · have : a ≤ a / b := by
          rw [Int.le_ediv_iff_mul_le h]
          have := Int.mul_le_mul_of_nonpos_left (a := a) (b := b) (c := 1) (by omega) (by omega)
          omega
        omega
      · have := Int.ediv_nonneg g (show 0 ≤ b by omega)
        omega
    · rcases Int.lt_or_le a 0 with g | g
      · have := Int.ediv_neg_of_neg_of_pos g h
        omega
      · have := Int.ediv_le_self b g
        omega
  rcases Int.lt_or_gt_of_ne hb with hb | hb
  · have := pos (-a) (-b) (by omega)
    rw [Int.neg_fdiv_neg] at this
    by_cases hN : a = -N
    · omega
    · exact this (by omega) (by omega)
  · exact pos a b hb h1 h2
def absI (i : Int) : Int := if i < 0 then -i else i
theorem absI_nat (i : Int) : absI i = i.natAbs := by unfold absI; split <;> omega
/-- the program's quotient -/
def quo (d : Str) (a b : Int) : Int :=
  if a - b * a.fdiv b = 0 ∨ d = "floor" then a.fdiv b
  else if d = "ceiling" then a.fdiv b + 1
  else if d = "zero" then (if decide (a < 0) = decide (b < 0) then a.fdiv b else a.fdiv b + 1)
  else if d = "euclid" then (if 0 < b then a.fdiv b else a.fdiv b + 1)
  else if 2 * absI (a - b * a.fdiv b) - absI b = 0 then a.fdiv b + (a.fdiv b).fmod 2
  else if 0 < 2 * absI (a - b * a.fdiv b) - absI b then a.fdiv b + 1 else a.fdiv b
/-- the law's -/
def upL (d : Str) (a b s l : Int) : Bool :=
  if d = "zero" then false else if d = "floor" then !decide (decide (a < 0) = decide (b < 0)) else if d = "ceiling" then decide (decide (a < 0) = decide (b < 0)) else if d = "euclid" then decide (a < 0)
  else decide (absI b < 2 * l) || (decide (2 * l = absI b) && decide (s.fmod 2 = 1))
def sgn (a b s : Int) : Int := if decide (a < 0) = decide (b < 0) then s else 0 - s
def quoL (d : Str) (a b : Int) : Int :=
  if absI a - (absI a).fdiv (absI b) * absI b = 0 then sgn a b ((absI a).fdiv (absI b))
  else sgn a b (if upL d a b ((absI a).fdiv (absI b)) (absI a - (absI a).fdiv (absI b) * absI b) = true then (absI a).fdiv (absI b) + 1 else (absI a).fdiv (absI b))
theorem quo_eq (d : Str) (a b : Int) (hb : b ≠ 0) (hd : d = "ceiling" ∨ d = "euclid" ∨ d = "even" ∨ d = "floor" ∨ d = "zero") : quoL d a b = quo d a b := by
  have hB : 0 < absI b := by unfold absI; split <;> omega
  obtain ⟨s, hs⟩ : ∃ s, s = (absI a).fdiv (absI b) := ⟨_, rfl⟩
  obtain ⟨l, hl⟩ : ∃ l, l = absI a - absI b * s := ⟨_, rfl⟩
  have hf := (fdiv_facts (absI a) (absI b) (by omega)).1 hB
  rw [← hs, ← hl] at hf
  have hf2 : absI a - s * absI b = l := by rw [hl, Int.mul_comm]
  have hA : absI a = absI b * s + l := by omega
  have m2 : ∀ z : Int, z.fmod 2 = z % 2 := fun z => Int.fmod_eq_emod_of_nonneg _ (by omega)
  -- the floor quotient, the rest
  have hw : ∃ w r, a.fdiv b = w ∧ a - b * w = r ∧ ((decide (a < 0) = decide (b < 0) → w = s ∧ absI r = l ∧ (r = 0 ↔ l = 0)) ∧ (¬ decide (a < 0) = decide (b < 0) → (l = 0 → w = -s ∧ r = 0) ∧ (l ≠ 0 → w = -s - 1 ∧ absI r = absI b - l ∧ r ≠ 0))) := by
    rcases Int.lt_or_gt_of_ne hb with hb' | hb' <;> rcases Int.lt_or_le a 0 with ha | ha
    · -- a < 0, b < 0
      have e1 : absI a = -a := by unfold absI; rw [if_pos ha]
      have e2 : absI b = -b := by unfold absI; rw [if_pos hb']
      have eq : a = b * s + (-l) := by rw [e1, e2, Int.neg_mul] at hA; omega
      have ew := fdiv_uniq (q := s) eq (by omega) (by omega) hb
      refine ⟨s, -l, ew, by omega, fun _ => ⟨rfl, by unfold absI; split <;> omega, by omega⟩, fun h => ?_⟩
      rw [decide_eq_true ha, decide_eq_true hb'] at h
      exact absurd rfl h
    · have e1 : absI a = a := by unfold absI; rw [if_neg (by omega)]
      have e2 : absI b = -b := by unfold absI; rw [if_pos hb']
      refine ⟨a.fdiv b, _, rfl, rfl, fun h => ?_, fun _ => ⟨fun h0 => ?_, fun h0 => ?_⟩⟩
      · rw [decide_eq_false (show ¬ a < 0 by omega), decide_eq_true hb'] at h
        cases h
      · have eq : a = b * (-s) + 0 := by rw [e1, e2, Int.neg_mul] at hA; rw [Int.mul_neg]; omega
        have ew := fdiv_uniq (q := -s) eq (by omega) (by omega) hb
        rw [ew]
        exact ⟨rfl, by omega⟩
      · have eq : a = b * (-s - 1) + (l + b) := by rw [e1, e2, Int.neg_mul] at hA; rw [Int.mul_sub, Int.mul_neg, Int.mul_one]; omega
        have ew := fdiv_uniq (q := -s - 1) eq (by omega) (by omega) hb
        rw [ew]
        refine ⟨rfl, ?_, by omega⟩
        have : a - b * (-s - 1) = l + b := by omega
        rw [this, e2]
        unfold absI
        split <;> omega
    · have e1 : absI a = -a := by unfold absI; rw [if_pos ha]
      have e2 : absI b = b := by unfold absI; rw [if_neg (by omega)]
      refine ⟨a.fdiv b, _, rfl, rfl, fun h => ?_, fun _ => ⟨fun h0 => ?_, fun h0 => ?_⟩⟩
      · rw [decide_eq_true ha, decide_eq_false (show ¬ b < 0 by omega)] at h
        cases h
      · have eq : a = b * (-s) + 0 := by rw [e1, e2] at hA; rw [Int.mul_neg]; omega
        have ew := fdiv_uniq (q := -s) eq (by omega) (by omega) hb
        rw [ew]
        exact ⟨rfl, by omega⟩
      · have eq : a = b * (-s - 1) + (b - l) := by rw [e1, e2] at hA; rw [Int.mul_sub, Int.mul_neg, Int.mul_one]; omega
        have ew := fdiv_uniq (q := -s - 1) eq (by omega) (by omega) hb
        rw [ew]
        refine ⟨rfl, ?_, by omega⟩
        have : a - b * (-s - 1) = b - l := by omega
        rw [this, e2]
        unfold absI
        split <;> omega
    · have e1 : absI a = a := by unfold absI; rw [if_neg (by omega)]
      have e2 : absI b = b := by unfold absI; rw [if_neg (by omega)]
      have eq : a = b * s + l := by rw [e1, e2] at hA; omega
      have ew := fdiv_uniq (q := s) eq (by omega) (by omega) hb
      refine ⟨s, l, ew, by omega, fun _ => ⟨rfl, by unfold absI; split <;> omega, by omega⟩, fun h => ?_⟩
      rw [decide_eq_false (show ¬ a < 0 by omega), decide_eq_false (show ¬ b < 0 by omega)] at h
      exact absurd rfl h
  obtain ⟨w, r, ew, er, h1, h2⟩ := hw
  unfold quoL quo upL sgn
  rw [← hs, hf2, ew, er, m2, m2]
  by_cases hsg : decide (a < 0) = decide (b < 0)
  · obtain ⟨g1, g2, g3⟩ := h1 hsg
    simp only [hsg, if_true, g2]
    by_cases hl0 : l = 0
    · simp only [hl0, g3.mpr hl0, true_or, if_true, g1]
    · have hr0 : ¬ r = 0 := fun z => hl0 (g3.mp z)
      rcases hd with hd | hd | hd | hd | hd <;> simp only [hd, hl0, hr0, ofs_inj, String.reduceEq, if_true, if_false, or_true, or_false, decide_true, Bool.not_true, reduceCtorEq, g1]
      · by_cases hb0 : 0 < b
        · rw [if_pos hb0, if_neg]
          simp only [decide_eq_true_eq]
          have : decide (b < 0) = false := decide_eq_false (by omega)
          rw [this] at hsg
          have := of_decide_eq_false hsg
          omega
        · rw [if_neg hb0, if_pos]
          have : decide (b < 0) = true := decide_eq_true (by omega)
          rw [this] at hsg
          exact this
      · simp only [Bool.or_eq_true, Bool.and_eq_true, decide_eq_true_eq]
        split <;> split <;> (try split) <;> omega
  · obtain ⟨g1, g2⟩ := h2 hsg
    simp only [hsg, if_false]
    by_cases hl0 : l = 0
    · obtain ⟨k1, k2⟩ := g1 hl0
      simp only [hl0, k2, true_or, if_true, k1]
      omega
    · obtain ⟨k1, k2, k3⟩ := g2 hl0
      simp only [k2]
      rcases hd with hd | hd | hd | hd | hd <;> simp only [hd, hl0, k3, ofs_inj, String.reduceEq, if_true, if_false, or_true, or_false, decide_true, decide_false, Bool.not_false, reduceCtorEq, k1]
      · omega
      · by_cases hb0 : 0 < b
        · rw [if_pos hb0, if_pos]
          · omega
          · have : decide (b < 0) = false := decide_eq_false (by omega)
            rw [this] at hsg
            cases z : decide (a < 0) with
            | true => rfl
            | false => exact absurd z hsg
        · rw [if_neg hb0, if_neg]
          · omega
          · have : decide (b < 0) = true := decide_eq_true (by omega)
            rw [this] at hsg
            exact hsg
      · simp only [Bool.or_eq_true, Bool.and_eq_true, decide_eq_true_eq]
        split <;> split <;> (try split) <;> omega
      · omega
      · omega
end Dz

set_option Elab.async false
set_option linter.all false
set_option maxRecDepth 100000
set_option maxHeartbeats 1000000
namespace Dz
open PySem (Str)

/-! ### plain laws: fitting -/
def fitO (lo hi : Int) (o : Str) (v : Int) : Option Int :=
  if lo ≤ v ∧ v ≤ hi then some v else if o = "trap" then none else if o = "saturate" then some (if v < lo then lo else hi) else some ((v - lo).fmod (hi - lo + 1) + lo)
def startF (lo hi v : Int) : Int := if v < lo then v + (hi - lo + 1) * ((absI v).fdiv (hi - lo + 1) + 1) else v - (hi - lo + 1) * ((absI v).fdiv (hi - lo + 1) + 1)
def endF (lo hi f : Int) : Int := if f < lo then f + (hi - lo + 1) else if hi < f then f - (hi - lo + 1) else f
theorem fit_wrap {lo hi v : Int} (h1 : lo ≤ 0) (h2 : 0 ≤ hi) (h : ¬ (lo ≤ v ∧ v ≤ hi)) : endF lo hi (startF lo hi v) = (v - lo).fmod (hi - lo + 1) + lo ∧ lo ≤ endF lo hi (startF lo hi v) ∧ endF lo hi (startF lo hi v) ≤ hi := by
  obtain ⟨m, hm⟩ : ∃ m, m = hi - lo + 1 := ⟨_, rfl⟩
  have hf := (fdiv_facts (absI v) m (by omega)).1 (by omega)
  have e : ∃ q, endF lo hi (startF lo hi v) = v + m * q := by
    unfold endF startF
    rw [← hm]
    obtain ⟨t, ht⟩ : ∃ t, t = (absI v).fdiv m + 1 := ⟨_, rfl⟩
    rw [← ht]
    split <;> split <;> (try split) <;> first
      | exact ⟨t, by omega⟩
      | exact ⟨-t, by rw [Int.mul_neg]; omega⟩
      | exact ⟨t + 1, by rw [Int.mul_add, Int.mul_one]; omega⟩
      | exact ⟨t - 1, by rw [Int.mul_sub, Int.mul_one]; omega⟩
      | exact ⟨-t + 1, by rw [Int.mul_add, Int.mul_neg, Int.mul_one]; omega⟩
      | exact ⟨-t - 1, by rw [Int.mul_sub, Int.mul_neg, Int.mul_one]; omega⟩
  have b : lo ≤ endF lo hi (startF lo hi v) ∧ endF lo hi (startF lo hi v) ≤ hi := by
    unfold endF startF
    rw [← hm, Int.mul_add, Int.mul_one]
    unfold absI at hf ⊢
    split at hf <;> split <;> split <;> (try split) <;> omega
  obtain ⟨q, hq⟩ := e
  refine ⟨?_, b⟩
  have u := fdiv_uniq (a := v - lo) (b := m) (q := -q) (r := endF lo hi (startF lo hi v) - lo) (by rw [hq, Int.mul_neg]; omega) (by omega) (by omega) (by omega)
  rw [← hm, Int.fmod_def, u, hq, Int.mul_neg]
  omega
theorem fitO_rng {lo hi v r : Int} {o : Str} (h1 : lo ≤ 0) (h2 : 0 ≤ hi) (h : fitO lo hi o v = some r) : lo ≤ r ∧ r ≤ hi := by
  unfold fitO at h
  split at h
  · cases h; assumption
  · split at h
    · cases h
    · split at h
      · cases h
        split <;> omega
      · cases h
        rename_i hh _ _
        obtain ⟨e, g⟩ := fit_wrap h1 h2 hh
        rw [← e]
        exact g
/-- a result: a number, or the trap -/
def vd : Option Int → D
  | some i => .int i
  | none => .str "trap"
def op2 (f : Int → Int → Option Int) : Option Int → Option Int → Option Int
  | some a, some b => f a b
  | _, _ => none
def op1 (f : Int → Option Int) : Option Int → Option Int
  | some a => f a
  | none => none
def eqO : Option Int → Option Int → Bool
  | some a, some b => decide (a = b)
  | none, none => true
  | _, _ => false
theorem eqD_vd (x y : Option Int) : eqD (vd x) (vd y) = some (eqO x y) := by
  cases x <;> cases y <;> simp [vd, eqD, eqO]
theorem eqD_vi (x : Option Int) (b : Int) : eqD (vd x) (.int b) = some (eqO x (some b)) := eqD_vd x (some b)
theorem eqD_iv (x : Option Int) (b : Int) : eqD (.int b) (vd x) = some (eqO (some b) x) := eqD_vd (some b) x
theorem inD_trap2 (x y : Option Int) : inD (.str "trap") (.tup [vd x, vd y]) = some (x.isNone || y.isNone) := by
  cases x <;> cases y <;> simp [vd, inD, flat, flats, L2.inV, L2.eqV]
theorem inD_trapl1 (x y : Option Int) : inD (.str "trap") (.lst [vd x, vd y]) = some (x.isNone || y.isNone) := by
  cases x <;> cases y <;> simp [vd, inD, flat, flats, L2.inV, L2.eqV]
theorem inD_trapl2 (x y z : Option Int) : inD (.str "trap") (.lst [vd x, vd y, vd z]) = some (x.isNone || y.isNone || z.isNone) := by
  cases x <;> cases y <;> cases z <;> simp [vd, inD, flat, flats, L2.inV, L2.eqV]
/-- they rise -/
def risO : List (Option Int) → Bool
  | some a :: some b :: l => decide (a ≤ b) && risO (some b :: l)
  | [some _] => true
  | [] => true
  | _ => false
theorem eq_l2 (a b c d : Int) : eqD (.lst [.int a, .int b]) (.lst [.int c, .int d]) = some (decide (a = c) && decide (b = d)) := by
  have e : eqD (.lst [.int a, .int b]) (.lst [.int c, .int d]) = some ((a == c) && ((b == d) && true)) := rfl
  rw [e, Bool.and_true]
  rfl
theorem eq_l3 (a b x c d y : Int) : eqD (.lst [.int a, .int b, .int x]) (.lst [.int c, .int d, .int y]) = some (decide (a = c) && (decide (b = d) && decide (x = y))) := by
  have e : eqD (.lst [.int a, .int b, .int x]) (.lst [.int c, .int d, .int y]) = some ((a == c) && ((b == d) && ((x == y) && true))) := rfl
  rw [e, Bool.and_true]
  rfl
theorem srt2 (a b : Int) : eqD (.lst [.int a, .int b]) (.lst ((sortI [a, b]).map .int)) = some (decide (a ≤ b)) := by
  simp only [sortI, insI]
  by_cases h : a ≤ b
  · rw [if_pos h, decide_eq_true h]
    simp only [List.map_cons, List.map_nil, eq_l2, decide_true, Bool.and_self]
  · rw [if_neg h, decide_eq_false h]
    have : ¬ a = b := by omega
    simp only [List.map_cons, List.map_nil, eq_l2, this, decide_false, Bool.false_and]
theorem srt3 (a b c : Int) : eqD (.lst [.int a, .int b, .int c]) (.lst ((sortI [a, b, c]).map .int)) = some (decide (a ≤ b) && decide (b ≤ c)) := by
  simp only [sortI, insI]
  by_cases h1 : b ≤ c <;> by_cases h2 : a ≤ b <;> by_cases h3 : a ≤ c <;> simp only [h1, h2, h3, insI, if_true, if_false, List.map_cons, List.map_nil, eq_l3, decide_true, decide_false, Bool.and_true, Bool.and_false, Bool.and_self, Option.some.injEq] <;> simp only [Bool.and_eq_false_iff, decide_eq_false_iff_not, Bool.and_eq_true, decide_eq_true_eq] <;> omega
/-! ### small loops, membership -/
theorem ofs_beq (a b : String) : (Str.ofString a == Str.ofString b) = (a == b) := by
  rw [Bool.eq_iff_iff, beq_iff_eq, beq_iff_eq, ofs_inj]
def andL (r : R D) (k : D → Sto → R (List D)) : R (List D) := match r with
  | .ok x S => k x S
  | _ => .bad
theorem andL_ok (x : D) (S : Sto) (k : D → Sto → R (List D)) : andL (.ok x S) k = k x S := rfl
def consL (x : D) (r : R (List D)) : R (List D) := match r with
  | .ok xs S => .ok (x :: xs) S
  | _ => .bad
theorem consL_ok (x : D) (xs : List D) (S : Sto) : consL x (.ok xs S) = .ok (x :: xs) S := rfl
theorem lc_nil (elt cond : Env → Sto → R D) (i : Nat) (ρ : Env) (S : Sto) : lcL elt cond i ρ [] S = .ok [] S := rfl
def lcK (elt : Env → Sto → R D) (i : Nat) (ρ : Env) (ds : List D) (x : D) (S : Sto) : R (List D) := consL x (lcL elt tt1 i ρ ds S)
theorem lcK_eq (elt : Env → Sto → R D) (i : Nat) (ρ : Env) (ds : List D) (x : D) (S : Sto) : lcK elt i ρ ds x S = consL x (lcL elt tt1 i ρ ds S) := rfl
theorem lc_cons (elt : Env → Sto → R D) (i : Nat) (ρ : Env) (d : D) (ds : List D) (S : Sto) : lcL elt tt1 i ρ (d :: ds) S = andL (elt (ρ.set i (some d)) S) (lcK elt i ρ ds) := by
  rw [lcL]
  simp only [tt1, asB_ok]
  unfold andL lcK consL
  rfl
def ifL (r : R Bool) (k : Bool → Sto → R (List D)) : R (List D) := match r with
  | .ok x S => k x S
  | _ => .bad
theorem ifL_ok (x : Bool) (S : Sto) (k : Bool → Sto → R (List D)) : ifL (.ok x S) k = k x S := rfl
def lccK2 (elt cond : Env → Sto → R D) (i : Nat) (ρ : Env) (ds : List D) (x : D) (S : Sto) : R (List D) := consL x (lcL elt cond i ρ ds S)
theorem lccK2_eq (elt cond : Env → Sto → R D) (i : Nat) (ρ : Env) (ds : List D) (x : D) (S : Sto) : lccK2 elt cond i ρ ds x S = consL x (lcL elt cond i ρ ds S) := rfl
def lccK (elt cond : Env → Sto → R D) (i : Nat) (ρ : Env) (d : D) (ds : List D) (k : Bool) (S : Sto) : R (List D) := match k with
  | true => andL (elt (ρ.set i (some d)) S) (lccK2 elt cond i ρ ds)
  | false => lcL elt cond i ρ ds S
theorem lccK_t (elt cond : Env → Sto → R D) (i : Nat) (ρ : Env) (d : D) (ds : List D) (S : Sto) : lccK elt cond i ρ d ds true S = andL (elt (ρ.set i (some d)) S) (lccK2 elt cond i ρ ds) := rfl
theorem lccK_f (elt cond : Env → Sto → R D) (i : Nat) (ρ : Env) (d : D) (ds : List D) (S : Sto) : lccK elt cond i ρ d ds false S = lcL elt cond i ρ ds S := rfl
theorem lcc_cons (elt : Env → Sto → R D) (C : Tc) (c : E) (i : Nat) (ρ : Env) (d : D) (ds : List D) (S : Sto) : lcL elt (ev C c) i ρ (d :: ds) S = ifL (asB (ev C c (ρ.set i (some d)) S)) (lccK elt (ev C c) i ρ d ds) := by
  rw [lcL]
  unfold ifL
  cases asB (ev C c (ρ.set i (some d)) S) with
  | ok b S1 => cases b <;> rfl
  | _ => rfl
theorem all1 (b : Bool) (S : Sto) : bltD .all [.lst [.bl b]] S = .ok (.bl b) S := by
  simp [bltD, bools]
theorem all2 (b c : Bool) (S : Sto) : bltD .all [.lst [.bl b, .bl c]] S = .ok (.bl (b && c)) S := by
  simp [bltD, bools]
theorem all3 (b c d : Bool) (S : Sto) : bltD .all [.lst [.bl b, .bl c, .bl d]] S = .ok (.bl (b && (c && d))) S := by
  simp [bltD, bools]
theorem blt_len_t (l : List D) (S : Sto) : bltD .len [.tup l] S = .ok (.int l.length) S := rfl
theorem blt_len_l (l : List D) (S : Sto) : bltD .len [.lst l] S = .ok (.int l.length) S := rfl
theorem blt_len_s (l : List Int) (S : Sto) : bltD .len [.scr l] S = .ok (.int l.length) S := rfl
theorem blt_abs (i : Int) (S : Sto) : bltD .abs [.int i] S = .ok (.int (if i < 0 then -i else i)) S := rfl
theorem blt_min (i j : Int) (S : Sto) : bltD .min [.int i, .int j] S = .ok (.int (if j < i then j else i)) S := rfl
theorem blt_max (i j : Int) (S : Sto) : bltD .max [.int i, .int j] S = .ok (.int (if j > i then j else i)) S := rfl
theorem blt_int (i : Int) (S : Sto) : bltD .int [.int i] S = .ok (.int i) S := rfl
theorem blt_intb (b : Bool) (S : Sto) : bltD .int [.bl b] S = .ok (.int (if b then 1 else 0)) S := rfl
theorem blt_list_t (l : List D) (S : Sto) : bltD .list [.tup l] S = .ok (.lst l) S := rfl
theorem blt_list_l (l : List D) (S : Sto) : bltD .list [.lst l] S = .ok (.lst l) S := rfl
theorem blt_tup_t (l : List D) (S : Sto) : bltD .tuple [.tup l] S = .ok (.tup l) S := rfl
theorem blt_tup_l (l : List D) (S : Sto) : bltD .tuple [.lst l] S = .ok (.tup l) S := rfl
theorem blt_srt2 (a b : Int) (S : Sto) : bltD .sorted [.lst [.int a, .int b]] S = .ok (.lst ((sortI [a, b]).map .int)) S := rfl
theorem blt_srt3 (a b c : Int) (S : Sto) : bltD .sorted [.lst [.int a, .int b, .int c]] S = .ok (.lst ((sortI [a, b, c]).map .int)) S := rfl
theorem eq_ii (i j : Int) : eqD (.int i) (.int j) = some (decide (i = j)) := rfl
theorem eq_ss (i j : Str) : eqD (.str i) (.str j) = some (decide (i = j)) := rfl
theorem eq_bb (i j : Bool) : eqD (.bl i) (.bl j) = some (decide (i = j)) := rfl
theorem eq_is (i : Int) (j : Str) : eqD (.int i) (.str j) = some false := rfl
theorem eq_si (i : Str) (j : Int) : eqD (.str i) (.int j) = some false := rfl
theorem eq_nn : eqD .non .non = some true := rfl
theorem rng12 : rngD 1 2 = [.int 1] := rfl
theorem rng13 : rngD 1 3 = [.int 1, .int 2] := rfl
theorem rng01 : rngD 0 1 = [.int 0] := rfl
theorem rng02 : rngD 0 2 = [.int 0, .int 1] := rfl
theorem rng03 : rngD 0 3 = [.int 0, .int 1, .int 2] := rfl
theorem okI_1 : okI 1 = true := rfl
theorem okI_2 : okI 2 = true := rfl
theorem okI_3 : okI 3 = true := rfl
/-! ### __init__ -/
def finI (c : Nat) (S S' : Sto) : R D := match S'[S.length]? with
    | some (.ins c' ns l) => whenR (decide (c' = c) && lows S.length l && decide (ns.length = l.length)) (.ok (.ob c ns l) (S'.take S.length))
    | _ => .bad
def Fl.endI (f : Fl) (c : Nat) (S : Sto) : R D := match f with
  | .nx _ S' => finI c S S'
  | .rt .non S' => finI c S S'
  | .ex e S' => .exc e (S'.take S.length)
  | _ => .bad
theorem runI_eq (C : Tc) (nl : Nat) (b : Ss) (c : Nat) (ds : List D) (S : Sto) : runI C nl b c ds S = (execs C b (((D.mr S.length) :: ds).map some ++ List.replicate (nl - (ds.length + 1)) none) (S ++ [.ins c [] []])).endI c S := by
  unfold runI Fl.endI finI
  rfl
theorem endI_nx (ρ : Env) (S S' : Sto) (c : Nat) : (Fl.nx ρ S').endI c S = finI c S S' := rfl
theorem endI_ex (e : Nat) (S S' : Sto) (c : Nat) : (Fl.ex e S').endI c S = .exc e (S'.take S.length) := rfl
theorem get_new (S : Sto) (m : MO) : (S ++ [m])[S.length]? = some m := by
  rw [List.getElem?_append_right (Nat.le_refl _), Nat.sub_self]; rfl
theorem finI_ok (c : Nat) (S : Sto) (ns : List Str) (l : List D) : finI c S (S ++ [.ins c ns l]) = whenR (lows S.length l && decide (ns.length = l.length)) (.ok (.ob c ns l) S) := by
  unfold finI
  rw [get_new]
  simp only [decide_true, Bool.true_and, List.take_left]
theorem setF_new (fo : Nat → Str → Bool) (f : Str) (d : D) (S : Sto) (c : Nat) (ns : List Str) (l : List D) : setF fo (.mr S.length) f d (S ++ [.ins c ns l]) = whenR (fo c f && low S.length d && decide (ns.length < 999)) (.ok () (S ++ [.ins c (putD f d ns l).1 (putD f d ns l).2])) := by
  unfold setF
  simp only [get_new]
  congr 1
  cases putD f d ns l
  simp
end Dz

set_option Elab.async false
set_option linter.all false
set_option maxRecDepth 100000
set_option maxHeartbeats 1000000
namespace Dz
open PySem (Str)

/-! ### forms -/
structure Fm where
  w : Int
  s : Str
  o : Str
  d : Str
def Fm.D (f : Fm) : D := .tup [.int f.w, .str f.s, .str f.o, .str f.d]
structure Fm.ok (f : Fm) : Prop where
  w1 : 4 ≤ f.w
  w2 : f.w ≤ 64
  s : f.s = "symmetric" ∨ f.s = "twos" ∨ f.s = "unsigned"
  o : f.o = "saturate" ∨ f.o = "trap" ∨ f.o = "wrap"
  d : f.d = "ceiling" ∨ f.d = "euclid" ∨ f.d = "even" ∨ f.d = "floor" ∨ f.d = "zero"
def half (f : Fm) : Int := 2 ^ (f.w - 1).toNat
def Fm.lo (f : Fm) : Int := if f.s = "unsigned" then 0 else if f.s = "twos" then 0 - half f else 1 - half f
def Fm.hi (f : Fm) : Int := if f.s = "unsigned" then 2 ^ f.w.toNat - 1 else half f - 1
theorem half2 (f : Fm) (h : 4 ≤ f.w) : (2 : Int) ^ f.w.toNat = 2 * half f := by
  unfold half
  have e : f.w.toNat = (f.w - 1).toNat + 1 := by omega
  rw [e, Int.pow_succ]
  omega
theorem half_ge (f : Fm) (h : 4 ≤ f.w) : 8 ≤ half f := by
  unfold half
  have e : (2 : Nat) ^ 3 ≤ 2 ^ (f.w - 1).toNat := Nat.pow_le_pow_right (by decide) (by omega)
  have h3 : ((2 ^ 3 : Nat) : Int) ≤ ((2 ^ (f.w - 1).toNat : Nat) : Int) := Int.ofNat_le.mpr e
  simpa using h3
theorem half_le (f : Fm) (h : f.w ≤ 64) : half f ≤ 2 ^ 63 := by
  unfold half
  have e : (2 : Nat) ^ (f.w - 1).toNat ≤ 2 ^ 63 := Nat.pow_le_pow_right (by decide) (by omega)
  have h3 : ((2 ^ (f.w - 1).toNat : Nat) : Int) ≤ ((2 ^ 63 : Nat) : Int) := Int.ofNat_le.mpr e
  simpa using h3
theorem str_ne {a b : String} (h : a ≠ b) : (Str.ofString a = Str.ofString b) = False := by
  rw [ofs_inj]; exact eq_false h
/-- what all forms keep -/
theorem Fm.ok.bounds {f : Fm} (h : f.ok) : f.lo ≤ 0 ∧ 7 ≤ f.hi ∧ -(2 ^ 63) ≤ f.lo ∧ f.hi < 2 ^ 64 ∧ -f.hi - 1 ≤ f.lo := by
  have a := half_ge f h.w1
  have b := half_le f h.w2
  have c := half2 f h.w1
  unfold Fm.lo Fm.hi
  rcases h.s with e | e | e <;> simp only [e, ofs_inj, String.reduceEq, if_true, if_false] <;> (try rw [c]) <;> omega
def sm (i : Int) : Prop := -(2 ^ 100 : Int) < i ∧ i < 2 ^ 100
theorem sm_small {i : Int} (h : sm i) : small i := ⟨by have := h.1; omega, by have := h.2; omega⟩
abbrev fit (f : Fm) (v : Int) : Option Int := fitO f.lo f.hi f.o v
abbrev addF (f : Fm) : Option Int → Option Int → Option Int := op2 fun a b => fit f (a + b)
abbrev subF (f : Fm) : Option Int → Option Int → Option Int := op2 fun a b => fit f (a - b)
abbrev mulF (f : Fm) : Option Int → Option Int → Option Int := op2 fun a b => fit f (a * b)
abbrev negF (f : Fm) : Option Int → Option Int := op1 fun a => fit f (0 - a)
abbrev divF (f : Fm) (x : Option Int) (b : Int) : Option Int := op1 (fun a => fit f (quo f.d a b)) x
abbrev remF (f : Fm) (a b : Int) : Option Int := fit f (a - b * quo f.d a b)
def smO (x : Option Int) : Prop := ∀ a, x = some a → sm a
theorem smO_none : smO none := fun a z => by cases z
theorem smO_some {a : Int} (h : sm a) : smO (some a) := fun b z => by cases z; exact h
theorem smO_get {a : Int} (h : smO (some a)) : sm a := h a rfl
theorem fit_sm {f : Fm} (h : f.ok) (v : Int) : smO (fit f v) := fun a z => by
  have b := h.bounds
  have := fitO_rng b.1 (by omega) z
  exact ⟨by omega, by omega⟩
theorem op2_sm {f : Fm} (h : f.ok) (g : Int → Int → Int) (x y : Option Int) : smO (op2 (fun a b => fit f (g a b)) x y) := by
  cases x <;> cases y <;> first | exact fit_sm h _ | exact smO_none
theorem op1_sm {f : Fm} (h : f.ok) (g : Int → Int) (x : Option Int) : smO (op1 (fun a => fit f (g a)) x) := by
  cases x <;> first | exact fit_sm h _ | exact smO_none
theorem quo_sm {d : Str} {a b : Int} (hb : b ≠ 0) (sa : sm a) : small (quo d a b) := by
  have fs := fdiv_small hb sa.1 sa.2
  have m2 : (a.fdiv b).fmod 2 = (a.fdiv b) % 2 := Int.fmod_eq_emod_of_nonneg _ (by omega)
  unfold quo small
  rw [m2]
  repeat' split
  all_goals omega
end Dz

set_option Elab.async false
set_option linter.all false
set_option maxRecDepth 100000
set_option maxHeartbeats 1000000
namespace Dz
open PySem (Str)

/-! ### the rules -/
def Single (r : Str) : Prop := r = "double negation" ∨ r = "shift" ∨ r = "absolute value" ∨ r = "square"
def Triple (r : Str) : Prop := r = "sum grouping" ∨ r = "product grouping" ∨ r = "distribution" ∨ r = "monotone sum" ∨ r = "cancellation"
def Divided (r : Str) : Prop := r = "division" ∨ r = "remainder range" ∨ r = "negated quotient"
def Pair (r : Str) : Prop := r = "difference" ∨ r = "add back" ∨ r = "order by difference" ∨ r = "average" ∨ r = "zero product"
def sp1 (f : Fm) (r : Str) (a : Int) : Bool :=
  if r = "double negation" then eqO (negF f (negF f (some a))) (some a)
  else if r = "shift" then eqO (divF f (some a) 2) (some (a.fdiv 2))
  else if r = "absolute value" then risO [some 0, if 0 ≤ a then some a else negF f (some a)]
  else risO [some 0, mulF f (some a) (some a)]
def spD (f : Fm) (r : Str) (a b : Int) : Bool :=
  if b = 0 then true else
  if r = "division" then eqO (addF f (mulF f (divF f (some a) b) (some b)) (remF f a b)) (some a)
  else if r = "remainder range" then (match remF f a b with | some z => decide (0 ≤ z) && decide (z < absI b) | none => false)
  else eqO (divF f (negF f (some a)) b) (negF f (divF f (some a) b))
def sp2 (f : Fm) (r : Str) (a b : Int) : Bool :=
  if r = "difference" then eqO (subF f (some a) (some b)) (addF f (some a) (negF f (some b)))
  else if r = "add back" then eqO (addF f (subF f (some a) (some b)) (some b)) (some a)
  else if r = "order by difference" then (match subF f (some a) (some b) with | some z => decide (decide (a < b) = decide (z < 0)) | none => false)
  else if r = "average" then decide (b < a) || risO [some a, addF f (some a) (divF f (subF f (some b) (some a)) 2), some b]
  else !eqO (mulF f (some a) (some b)) (some 0) || (decide (a = 0) || decide (b = 0))
def sp3 (f : Fm) (r : Str) (a b c : Int) : Bool :=
  if r = "sum grouping" then eqO (addF f (addF f (some a) (some b)) (some c)) (addF f (some a) (addF f (some b) (some c)))
  else if r = "product grouping" then eqO (mulF f (mulF f (some a) (some b)) (some c)) (mulF f (some a) (mulF f (some b) (some c)))
  else if r = "distribution" then eqO (mulF f (some a) (addF f (some b) (some c))) (addF f (mulF f (some a) (some b)) (mulF f (some a) (some c)))
  else if r = "monotone sum" then decide (b < a) || risO [addF f (some a) (some c), addF f (some b) (some c)]
  else decide (a = 0) || (decide (b = c) || !eqO (mulF f (some a) (some b)) (mulF f (some a) (some c)))
theorem eqD_vt (x : Option Int) : eqD (vd x) (.str "trap") = some x.isNone := by
  cases x <;> simp [vd, eqD]
theorem eqD_tv (x : Option Int) : eqD (.str "trap") (vd x) = some x.isNone := by
  cases x <;> simp [vd, eqD]
def InR (f : Fm) (a : Int) : Prop := f.lo ≤ a ∧ a ≤ f.hi
theorem InR.sm {f : Fm} (h : f.ok) {a : Int} (i : InR f a) : sm a := by
  have b := h.bounds
  have := i.1
  have := i.2
  exact ⟨by omega, by omega⟩
def RuleOk (r : Str) : Prop := Single r ∨ Divided r ∨ Pair r ∨ Triple r
/-- a rule at so many numbers -/
def spR (f : Fm) (r : Str) : List Int → Bool
  | [a] => sp1 f r a
  | [a, b] => if r = "division" ∨ r = "remainder range" ∨ r = "negated quotient" then spD f r a b else sp2 f r a b
  | [a, b, c] => sp3 f r a b c
  | _ => false
def arR (r : Str) : Nat := if r = "double negation" ∨ r = "shift" ∨ r = "absolute value" ∨ r = "square" then 1 else if r = "sum grouping" ∨ r = "product grouping" ∨ r = "distribution" ∨ r = "monotone sum" ∨ r = "cancellation" then 3 else 2
def intsL (l : List Int) : List D := l.map D.int
theorem len1 {l : List Int} (h : l.length = 1) : ∃ a, l = [a] := by
  match l, h with | [a], _ => exact ⟨a, rfl⟩
theorem len2 {l : List Int} (h : l.length = 2) : ∃ a b, l = [a, b] := by
  match l, h with | [a, b], _ => exact ⟨a, b, rfl⟩
theorem len3 {l : List Int} (h : l.length = 3) : ∃ a b c, l = [a, b, c] := by
  match l, h with | [a, b, c], _ => exact ⟨a, b, c, rfl⟩
/-! ### the law's row of draws -/
def RowOk (c : MO) : Prop := ∃ (l : List Int) (i s r : Int), c = .lst [.scr l, .int i, .int s, .int r] ∧ 0 ≤ i ∧ 0 ≤ s ∧ s < 2147483648
def setI (m : Nat) (l : List D) (i : Int) (d : D) (S : Sto) : R Unit := match L2.ixN l.length i, low m d with
      | some j, true => .ok () (S.set m (.lst (l.set j d)))
      | _, _ => .bad
theorem setD_0 (l : List D) (i : Int) (d : D) (S0 : Sto) : setD (.mr 0) (.int i) d (.lst l :: S0) = setI 0 l i d (.lst l :: S0) := rfl
theorem setI_1 (a b c e : D) (i : Int) (l : List D) (S0 : Sto) : setI 0 [a, b, c, e] 1 (.int i) (.lst l :: S0) = .ok () (.lst [a, .int i, c, e] :: S0) := rfl
theorem setI_2 (a b c e : D) (i : Int) (l : List D) (S0 : Sto) : setI 0 [a, b, c, e] 2 (.int i) (.lst l :: S0) = .ok () (.lst [a, b, .int i, e] :: S0) := rfl
theorem setI_3 (a b c e : D) (i : Int) (l : List D) (S0 : Sto) : setI 0 [a, b, c, e] 3 (.int i) (.lst l :: S0) = .ok () (.lst [a, b, c, .int i] :: S0) := rfl
theorem sub_m0 (l : List D) (i : Int) (S0 : Sto) : subD (.mr 0) (.int i) (.lst l :: S0) = getI l i (.lst l :: S0) := rfl
def getS (l : List Int) (i : Int) (S : Sto) : R D := match L2.atI l i with | some n => .ok (.int n) S | none => .bad
theorem sub_s (l : List Int) (i : Int) (S : Sto) : subD (.scr l) (.int i) S = getS l i S := rfl
theorem getS_some {l : List Int} {i x : Int} (h : L2.atI l i = some x) (S : Sto) : getS l i S = .ok (.int x) S := by
  unfold getS; rw [h]
theorem sub_t (l : List D) (i : Int) (S : Sto) : subD (.tup l) (.int i) S = getI l i S := rfl
theorem sub_l (l : List D) (i : Int) (S : Sto) : subD (.lst l) (.int i) S = getI l i S := rfl
def getKD (ks : List Str) (l : List D) (k : Str) (S : Sto) : R D := match getK ks l k with | some d => .ok d S | none => .bad
theorem sub_d (ks : List Str) (l : List D) (k : Str) (S : Sto) : subD (.dct ks l) (.str k) S = getKD ks l k S := rfl
theorem pow18 : powC 10 18 = true := by decide
theorem fmod_rng {a m : Int} (h : 0 < m) : 0 ≤ a.fmod m ∧ a.fmod m < m := by
  rw [Int.fmod_eq_emod_of_nonneg _ (by omega)]
  exact ⟨Int.emod_nonneg a (by omega), Int.emod_lt_of_pos a h⟩
theorem mul_sm {a b : Int} (ha : sm a) (hb : sm b) : -(2 ^ 200 : Int) < a * b ∧ a * b < 2 ^ 200 := by
  have h1 : a.natAbs < 2 ^ 100 := by have := ha.1; have := ha.2; omega
  have h2 : b.natAbs < 2 ^ 100 := by have := hb.1; have := hb.2; omega
  have h3 : (a * b).natAbs < 2 ^ 100 * 2 ^ 100 := by
    rw [Int.natAbs_mul]
    exact Nat.mul_lt_mul'' h1 h2
  have h4 : (2 : Nat) ^ 100 * 2 ^ 100 = 2 ^ 200 := by decide
  rw [h4] at h3
  omega
end Dz

set_option Elab.async false
set_option linter.all false
set_option maxRecDepth 100000
set_option maxHeartbeats 1000000
namespace Dz
open PySem (Str)
/-! ### the rows of evaluation, in bundles -/
def dz0 := And.intro @run_eq (And.intro @iteK_t (And.intro @iteK_f (And.intro @iteE_t (And.intro @iteE_f (And.intro @andE_t (And.intro @andE_f (And.intro @orE_t (And.intro @orE_f (And.intro @chn1_eq (And.intro @chn2_eq (And.intro @chn3_t (And.intro @chn3_f (And.intro @bin1_eq (And.intro @cmp1_eq (And.intro @notK_eq (And.intro @tupK_eq (And.intro @lstK_eq (And.intro @dctK_eq (And.intro @sub1_eq (And.intro @revK_eq (And.intro @slf1_eq (And.intro @slf2_eq (And.intro @slt1_eq (And.intro @slt2_eq (And.intro @fldK_eq (And.intro @callK_eq (And.intro @mkK_eq (And.intro @mth1_eq (And.intro @mth2_eq (And.intro @isiK_eq (And.intro @lc1_eq (And.intro @lcc1_eq (And.intro @cons1_eq (And.intro @cons2_eq (And.intro @rg1K_eq (And.intro @rg2K_eq (And.intro @rg2K2_eq (And.intro @ofK_t (@ofK_l)))))))))))))))))))))))))))))))))))))))
def dz1 := And.intro @nxK_eq (And.intro @asg1_eq (And.intro @par1_eq (And.intro @par2_eq (And.intro @aug1_eq (And.intro @aug2_eq (And.intro @new1_eq (And.intro @newK_t (And.intro @expK_eq (And.intro @forK_eq (And.intro @retK_eq (And.intro @setK_eq (And.intro @us1_eq (And.intro @us2_eq (And.intro @uf1_eq (And.intro @whK_t (And.intro @whK_f (And.intro @lcK_eq (And.intro @lccK_t (And.intro @lccK_f (And.intro @lccK2_eq (And.intro @loopK_nx (And.intro @loopK_ct (And.intro @loopK_bk (And.intro @loopK_rt (And.intro @loopK_ex (And.intro @lc_nil (And.intro @lc_cons (And.intro @lcc_cons (And.intro @andL_ok (And.intro @consL_ok (And.intro @ifL_ok (And.intro @all1 (And.intro @all2 (And.intro @all3 (And.intro @rng12 (And.intro @rng13 (And.intro @rng01 (And.intro @rng02 (@rng03)))))))))))))))))))))))))))))))))))))))
def dz2 := And.intro @okI_1 (And.intro @okI_2 (And.intro @okI_3 (And.intro @runI_eq (And.intro @endI_nx (And.intro @endI_ex (And.intro @finI_ok (And.intro @setF_new (And.intro @negD_int (And.intro @xs_cons (And.intro @xs_nil (And.intro @x_asg (And.intro @x_par (And.intro @x_par3 (And.intro @p31_eq (And.intro @p32_eq (And.intro @p33_eq (And.intro @x_aug (And.intro @x_newL (And.intro @x_newD (And.intro @x_exp (And.intro @x_ite (And.intro @x_whl (And.intro @x_for (And.intro @x_ret (And.intro @x_retN (And.intro @x_raise (And.intro @x_pass (And.intro @x_brk (And.intro @x_cont (And.intro @v_ite (And.intro @v_and (And.intro @v_or (And.intro @v_chn (And.intro @v_var (And.intro @v_cst (And.intro @cs_non (And.intro @cs_bl (And.intro @cs_int (And.intro @cs_str (And.intro @v_glo (And.intro @v_bin (And.intro @v_neg (@v_cmp)))))))))))))))))))))))))))))))))))))))))))
def dz3 := And.intro @v_not (And.intro @v_tup (And.intro @v_lst (And.intro @v_dct (And.intro @v_sub (And.intro @v_slf (And.intro @v_slt (And.intro @v_rev (And.intro @v_fld (And.intro @v_call (And.intro @v_mk (And.intro @mkD_ok (And.intro @v_mth (And.intro @mthD_ob (And.intro @v_lr2 (And.intro @lr21_eq (And.intro @lr22_eq (And.intro @v_blt (And.intro @v_isi (And.intro @v_isi2 (And.intro @v_lc (And.intro @v_lcc (And.intro @lcF_ok (And.intro @isi_non_int (And.intro @isi_non_bool (And.intro @isi_non_str (And.intro @isi_non_tuple (And.intro @isi_non_list (And.intro @isi_non_tl (And.intro @isi_bl_int (And.intro @isi_bl_bool (And.intro @isi_bl_str (And.intro @isi_bl_tuple (And.intro @isi_bl_list (And.intro @isi_bl_tl (And.intro @isi_int_int (And.intro @isi_int_bool (And.intro @isi_int_str (And.intro @isi_int_tuple (@isi_int_list)))))))))))))))))))))))))))))))))))))))
def dz4 := And.intro @isi_int_tl (And.intro @isi_str_int (And.intro @isi_str_bool (And.intro @isi_str_str (And.intro @isi_str_tuple (And.intro @isi_str_list (And.intro @isi_str_tl (And.intro @isi_tup_int (And.intro @isi_tup_bool (And.intro @isi_tup_str (And.intro @isi_tup_tuple (And.intro @isi_tup_list (And.intro @isi_tup_tl (And.intro @isi_lst_int (And.intro @isi_lst_bool (And.intro @isi_lst_str (And.intro @isi_lst_tuple (And.intro @isi_lst_list (And.intro @isi_lst_tl (And.intro @a_nil (And.intro @a_cons (And.intro @i_rg1 (And.intro @i_rg2 (And.intro @i_of (And.intro @bind_ok (And.intro @bind_exc (And.intro @toF_ok (And.intro @toF_exc (And.intro @seq_nx (And.intro @seq_rt (And.intro @seq_ex (And.intro @seq_bk (And.intro @seq_ct (And.intro @end_nx (And.intro @end_rt (And.intro @end_ex (And.intro @fin_self (And.intro @fin_cons (And.intro @pick_t (@pick_f)))))))))))))))))))))))))))))))))))))))
def dz5 := And.intro @asB_ok (And.intro @whenR_t (And.intro @L_phi (And.intro @L_ar (And.intro @L_gd (And.intro @L_fo (And.intro @ofs_inj (And.intro @u_nm (And.intro @u_tup (And.intro @u_sub (And.intro @u_fld (And.intro @us_nil (And.intro @us_cons (And.intro @setD_0 (And.intro @setI_1 (And.intro @setI_2 (And.intro @setI_3 (And.intro @sub_m0 (And.intro @sub_s (And.intro @sub_t (And.intro @sub_l (And.intro @sub_d (And.intro @eq_ii (And.intro @eq_ss (And.intro @eq_bb (And.intro @eq_is (And.intro @eq_si (And.intro @eq_nn (And.intro @eqD_vd (And.intro @eqD_vi (And.intro @eqD_iv (And.intro @eqD_vt (And.intro @eqD_tv (And.intro @atI_0 (And.intro @atI_1 (And.intro @atI_2 (And.intro @atI_3 (And.intro @blt_len_t (And.intro @blt_len_l (@blt_len_s)))))))))))))))))))))))))))))))))))))))
def dz6 := And.intro @blt_abs (And.intro @blt_min (And.intro @blt_max (And.intro @blt_int (And.intro @blt_intb (And.intro @blt_list_t (And.intro @blt_list_l (And.intro @blt_tup_t (And.intro @blt_tup_l (And.intro @blt_srt2 (And.intro @blt_srt3 (And.intro @srt2 (And.intro @srt3 (And.intro @v_dget (And.intro @dg1_eq (And.intro @dg2_eq (@dg3_eq))))))))))))))))
def dz7 := And.intro @v_lam (And.intro @wrg1_eq (And.intro @v_wrg (And.intro @txt1_eq (And.intro @v_txt (And.intro @lms1_eq (And.intro @v_lms (And.intro @rg33_eq (And.intro @rg32_eq (And.intro @rg31_eq (@i_rg3))))))))))
end Dz

set_option Elab.async false
set_option linter.all false
set_option maxRecDepth 100000
set_option maxHeartbeats 2000000
namespace Dz
open PySem PySem.Spec PyProof.Rows L2

/-! ### rows for a law that hands lambdas over -/
theorem X_phi (X : Lx) (n id : Nat) (ds : List D) (S : Sto) : (X.C n).φ id ds S = whenR (ncs ds && ncS S) (X.L.phi n id ds S) := rfl
theorem X_ar (X : Lx) (n id : Nat) : (X.C n).ar id = X.L.ar id := rfl
theorem X_gd (X : Lx) (n i : Nat) : (X.C n).gd i = X.L.gd i := rfl
theorem X_fo (X : Lx) (n c : Nat) (f : Str) : (X.C n).fo c f = X.L.fo c f := rfl
theorem Xb_phi (X : Lx) (n id : Nat) (ds : List D) (S : Sto) : (X.Cb n).φ id ds S = whenR (ncs ds && ncS S) (X.L.phi n id ds S) := rfl
theorem Xb_ar (X : Lx) (n id : Nat) : (X.Cb n).ar id = X.L.ar id := rfl
theorem Xb_gd (X : Lx) (n i : Nat) : (X.Cb n).gd i = X.L.gd i := rfl
theorem Xb_fo (X : Lx) (n c : Nat) (f : Str) : (X.Cb n).fo c f = X.L.fo c f := rfl
theorem X_lam (X : Lx) (n : Nat) (e : E) (S : Sto) : (X.C n).lam e S = lamR e S := rfl
theorem lamR_t (e : E) (S : Sto) : lamR e (.tab :: S) = .ok (.clo e) (.tab :: S) := rfl
theorem X_wrg (X : Lx) (n id : Nat) (e : E) (ρ : Env) (S : Sto) : (X.C n).wrg id (.clo e) ρ S = X.wres (ev (X.Cb n) e ρ S) := rfl
def resR : Option D → Sto → R D
  | some d, S => .ok d S
  | none, _ => .bad
theorem resR_s (d : D) (S : Sto) : resR (some d) S = .ok d S := rfl
theorem wres_ok (X : Lx) (d : D) (S : Sto) : X.wres (.ok d S) = .ok (cstD X.W.c) S := rfl
theorem wres_ex (X : Lx) (k : Nat) (S : Sto) : X.wres (.exc k S) = resR (X.resD k) S := by
  show (match X.resD k with | some d => R.ok d S | none => .bad) = _
  cases X.resD k <;> rfl
theorem setD_t1 (l : List D) (i : Int) (d : D) (S0 : Sto) : setD (.mr 1) (.int i) d (.tab :: .lst l :: S0) = setI 1 l i d (.tab :: .lst l :: S0) := rfl
theorem setI_t1 (a b c e : D) (i : Int) (l : List D) (S0 : Sto) : setI 1 [a, b, c, e] 1 (.int i) (.tab :: .lst l :: S0) = .ok () (.tab :: .lst [a, .int i, c, e] :: S0) := rfl
theorem setI_t2 (a b c e : D) (i : Int) (l : List D) (S0 : Sto) : setI 1 [a, b, c, e] 2 (.int i) (.tab :: .lst l :: S0) = .ok () (.tab :: .lst [a, b, .int i, e] :: S0) := rfl
theorem setI_t3 (a b c e : D) (i : Int) (l : List D) (S0 : Sto) : setI 1 [a, b, c, e] 3 (.int i) (.tab :: .lst l :: S0) = .ok () (.tab :: .lst [a, b, c, .int i] :: S0) := rfl
theorem sub_t1 (l : List D) (i : Int) (S0 : Sto) : subD (.mr 1) (.int i) (.tab :: .lst l :: S0) = getI l i (.tab :: .lst l :: S0) := rfl
theorem ncM_row {c : MO} (h : RowOk c) : ncM c = true := by
  obtain ⟨l, i, s, r, rfl, _⟩ := h
  rfl
theorem stp {C : Tc} {s : St} {ss : Ss} {ρ ρ' : Env} {S S' : Sto} (h : exec C s ρ S = .nx ρ' S') : execs C (.cons s ss) ρ S = execs C ss ρ' S' := by
  rw [xs_cons, h]
  rfl
theorem fin_two (d : D) (S : Sto) (c1 c2 : MO) : fin (S.length + 1 + 1) d (c1 :: c2 :: S) = .ok d (c1 :: c2 :: S) := fin_len d _ _ rfl
theorem fin_2 (d : D) (c1 c2 : MO) : fin 2 d [c1, c2] = .ok d [c1, c2] := fin_len d _ _ rfl
def dx0 := And.intro @fin_two (And.intro @fin_2 (And.intro @X_phi (And.intro @X_ar (And.intro @X_gd (And.intro @X_fo (And.intro @Xb_phi (And.intro @Xb_ar (And.intro @Xb_gd (And.intro @Xb_fo (And.intro @X_lam (And.intro @lamR_t (And.intro @X_wrg (And.intro @resR_s (And.intro @wres_ok (And.intro @wres_ex (And.intro @setD_t1 (And.intro @setI_t1 (And.intro @setI_t2 (And.intro @setI_t3 (@sub_t1))))))))))))))))))))
end Dz

set_option Elab.async false
set_option linter.all false
set_option maxRecDepth 100000
set_option maxHeartbeats 2000000
namespace Dz
open PySem PySem.Spec PyProof.Rows L2 PySem.StrLaws PySem.Builtin PySem.Builtin.Str

/-! ### texts cut at spaces -/
def idx : List Nat → Nat → List Nat
  | [], _ => []
  | c :: l, k => if c = 32 then k :: idx l (k + 1) else idx l (k + 1)
theorem occ_go (x : PySem.Str) : ∀ (n a : Nat) (found : Array Nat) (free : Nat), a + n = x.length + 1 → found.size ≤ a → free ≤ a →
    (forIn (List.range' a n) (found, free) (occBody x ⟨#[32]⟩ x.length (x.length + 1))).run.fst.toList = found.toList ++ idx (x.cps.toList.drop a) a
  | 0, a, found, free, e, h1, h2 => by
    have hl : x.length = x.cps.toList.length := rfl
    rw [List.drop_eq_nil_of_le (by omega)]
    simp [idx]
  | n + 1, a, found, free, e, h1, h2 => by
    have hl : x.length = x.cps.toList.length := rfl
    rw [List.range'_succ, List.forIn_cons]
    by_cases ha : a < x.length
    · have hd : x.cps.toList.drop a = (x.cps.toList[a]'(by omega)) :: x.cps.toList.drop (a + 1) := List.drop_eq_getElem_cons (by omega)
      by_cases hc : x.cps.toList[a]'(by omega) = 32
      · have s1 := (subAt_one x 32 a).mpr (by rw [List.getElem?_eq_getElem (by omega), hc])
        unfold occBody
        rw [if_pos ⟨⟨⟨show found.size < x.length + 1 by omega, h2⟩, s1.1⟩, s1.2⟩]
        refine (occ_go x n (a + 1) (found.push a) (a + 1) (by omega) (by simp; omega) (by omega)).trans ?_
        rw [hd]
        simp only [idx, hc, if_true]
        simp
      · have s1 : ¬ (a + (⟨#[32]⟩ : PySem.Str).length ≤ x.length ∧ subAt x ⟨#[32]⟩ a = true) := fun z => hc (by
          have := (subAt_one x 32 a).mp z
          rw [List.getElem?_eq_getElem (by omega)] at this
          exact Option.some.inj this)
        unfold occBody
        rw [if_neg (fun z => s1 ⟨z.1.2, z.2⟩)]
        refine (occ_go x n (a + 1) found free (by omega) (by omega) (by omega)).trans ?_
        rw [hd]
        simp only [idx, hc, if_false]
    · have s1 : ¬ (a + (⟨#[32]⟩ : PySem.Str).length ≤ x.length) := fun z => by
        have : a + 1 ≤ x.length := z
        omega
      unfold occBody
      rw [if_neg (fun z => s1 z.1.2)]
      refine (occ_go x n (a + 1) found free (by omega) (by omega) (by omega)).trans ?_
      rw [List.drop_eq_nil_of_le (by omega), List.drop_eq_nil_of_le (by omega)]
      simp [idx]
theorem occ_sp (x : PySem.Str) : occurrences x ⟨#[32]⟩ 0 x.length (x.length + 1) = idx x.cps.toList 0 := by
  rw [occ_eq]
  exact (occ_go x (x.length + 1) 0 #[] 0 (by omega) (by simp) (by omega)).trans (by simp)
theorem idx_no : ∀ (a : List Nat) (k : Nat), 32 ∉ a → idx a k = []
  | [], _, _ => rfl
  | c :: l, k, h => by
    rw [List.mem_cons, not_or] at h
    simp only [idx, if_neg (Ne.symm h.1)]
    exact idx_no l _ h.2
theorem idx_cut : ∀ (a r : List Nat) (k : Nat), 32 ∉ a → idx (a ++ 32 :: r) k = (k + a.length) :: idx r (k + a.length + 1)
  | [], r, k, _ => by simp [idx]
  | c :: l, r, k, h => by
    rw [List.mem_cons, not_or] at h
    simp only [List.cons_append, idx, if_neg (Ne.symm h.1)]
    rw [idx_cut l r _ h.2, List.length_cons]
    congr 1
    · omega
    · congr 1
      omega
def noSp (x : PySem.Str) : Bool := decide (32 ∉ x.cps.toList)
theorem piece (p m q : List Nat) (x : PySem.Str) (i j : Nat) (h : x.cps.toList = p ++ (m ++ q)) (hi : i = p.length) (hj : j = p.length + m.length) : strSub x i j = ⟨m.toArray⟩ := by
  subst hi hj
  unfold strSub
  congr 1
  apply Array.toList_inj.mp
  rw [Array.toList_extract, h]
  simp [List.extract_eq_take_drop]
theorem split4 {a b c d : PySem.Str} (ha : noSp a = true) (hb : noSp b = true) (hc : noSp c = true) (hd : noSp d = true) : Txt.split (a ++ " " ++ b ++ " " ++ c ++ " " ++ d) " " = [a, b, c, d] := by
  have ha := of_decide_eq_true ha
  have hb := of_decide_eq_true hb
  have hc := of_decide_eq_true hc
  have hd := of_decide_eq_true hd
  have e0 : ((" " : PySem.Str)) = ⟨#[32]⟩ := by decide +kernel
  have eL : (a ++ " " ++ b ++ " " ++ c ++ " " ++ d : PySem.Str).cps.toList = a.cps.toList ++ 32 :: (b.cps.toList ++ 32 :: (c.cps.toList ++ 32 :: d.cps.toList)) := by
    rw [e0]
    simp only [PySem.Str.cps_append, Array.toList_append, List.append_assoc, List.cons_append, List.nil_append]
  generalize hx : (a ++ " " ++ b ++ " " ++ c ++ " " ++ d : PySem.Str) = x at eL
  have hlen : x.length = a.cps.toList.length + 1 + b.cps.toList.length + 1 + c.cps.toList.length + 1 + d.cps.toList.length := by
    show x.cps.toList.length = _
    rw [eL]
    simp
    omega
  have hocc : occurrences x " " 0 x.length (x.length + 1) = [a.cps.toList.length, a.cps.toList.length + 1 + b.cps.toList.length, a.cps.toList.length + 1 + b.cps.toList.length + 1 + c.cps.toList.length] := by
    rw [e0, occ_sp, eL, idx_cut _ _ _ ha, idx_cut _ _ _ hb, idx_cut _ _ _ hc, idx_no _ _ hd, Nat.zero_add]
  unfold Txt.split
  have k1 : (decide (x.length < (" " : PySem.Str).length) || decide (strKind x < strKind " ")) = false := by
    have k2 : strKind " " = 1 := by decide +kernel
    have k3 : (" " : PySem.Str).length = 1 := by decide +kernel
    have k4 : 1 ≤ strKind x := by
      unfold PySem.Builtin.Str.strKind
      split
      · omega
      · split <;> omega
    rw [k2, k3, decide_eq_false (by omega), decide_eq_false (by omega)]
    rfl
  rw [k1, if_neg (by simp), hocc, if_neg (by simp)]
  have k3 : (" " : PySem.Str).length = 1 := by decide +kernel
  rw [k3]
  unfold partsBetween
  simp only [List.map_cons, List.map_nil, List.cons_append, List.nil_append, List.zip_cons_cons, List.zip_nil_right, hlen]
  have q1 : strSub x 0 a.cps.toList.length = ⟨a.cps.toList.toArray⟩ := piece [] a.cps.toList (32 :: (b.cps.toList ++ 32 :: (c.cps.toList ++ 32 :: d.cps.toList))) x _ _ (by rw [eL]; rfl) rfl (by simp)
  have q2 : strSub x (a.cps.toList.length + 1) (a.cps.toList.length + 1 + b.cps.toList.length) = ⟨b.cps.toList.toArray⟩ := piece (a.cps.toList ++ [32]) b.cps.toList (32 :: (c.cps.toList ++ 32 :: d.cps.toList)) x _ _ (by rw [eL]; simp) (by simp only [List.length_append, List.length_singleton]) (by simp only [List.length_append, List.length_singleton])
  have q3 : strSub x (a.cps.toList.length + 1 + b.cps.toList.length + 1) (a.cps.toList.length + 1 + b.cps.toList.length + 1 + c.cps.toList.length) = ⟨c.cps.toList.toArray⟩ := piece (a.cps.toList ++ [32] ++ b.cps.toList ++ [32]) c.cps.toList (32 :: d.cps.toList) x _ _ (by rw [eL]; simp) (by simp only [List.length_append, List.length_singleton]) (by simp only [List.length_append, List.length_singleton])
  have q4 : strSub x (a.cps.toList.length + 1 + b.cps.toList.length + 1 + c.cps.toList.length + 1) (a.cps.toList.length + 1 + b.cps.toList.length + 1 + c.cps.toList.length + 1 + d.cps.toList.length) = ⟨d.cps.toList.toArray⟩ := piece (a.cps.toList ++ [32] ++ b.cps.toList ++ [32] ++ c.cps.toList ++ [32]) d.cps.toList [] x _ _ (by rw [eL]; simp) (by simp only [List.length_append, List.length_singleton]) (by simp only [List.length_append, List.length_singleton])
  rw [q1, q2, q3, q4]
theorem join4 (a b c d : PySem.Str) : Txt.join " " [a, b, c, d] = a ++ " " ++ b ++ " " ++ c ++ " " ++ d := by
  show glued " " [a, b, c, d] = _
  rw [StrLaws.glued_eq_join]
  show a ++ " " ++ (b ++ " " ++ (c ++ " " ++ d)) = _
  simp only [PySem.Str.append_assoc]
end Dz

set_option Elab.async false
set_option linter.all false
set_option maxRecDepth 100000
set_option maxHeartbeats 2000000
namespace K08
open PySem (Str)
open Dz
theorem vd_some (a : Int) : vd (some a) = .int a := rfl
theorem q_is_integer (n : Nat) (a : Int) (S : Sto) : L.phi (n + 1) i_is_integer [.int a] S = .ok (.bl true) S := by
  rw [p_is_integer]
  simp only [dz0, dz1, dz2, dz3, dz4, dz5, dz6, dz7, Option.isNone_none, Option.isNone_some, Int.reduceSub, Int.reduceAdd, ne_eq, Int.reduceEq, Int.reduceNe, low, lows, putD, List.mem_cons, List.not_mem_nil, or_self, or_false, false_or, not_false_eq_true, Bool.and_self, Bool.true_and, Bool.and_true, Bool.false_and, Bool.and_false, Bool.or_false, Bool.or_true, Bool.false_or, Bool.true_or, Nat.reduceLeDiff, Nat.reduceLT, String.reduceEq, List.map_cons, List.map_nil, List.length_cons, List.length_nil, List.replicate, List.cons_append, List.nil_append, List.getElem?_cons_succ, List.getElem?_cons_zero, List.set_cons_succ, List.set_cons_zero, flat, lenG, binD, cmpD, getKD, isD, optB, id, decide_true, decide_false, Nat.reduceAdd, Nat.reduceSub, Bool.not_true, Bool.not_false, CV.dv, getI, Int.cast_ofNat_Int, fldD, getK, if_true, if_false, ite_true, ite_false, reduceIte, Int.reduceLE, Int.reduceLT, Int.reduceToNat, Option.bind, tb0, tb1, tb2, b_is_integer]
theorem q_is_in (n : Nat) (a l h : Int) (S : Sto) : L.phi (n + 2) i_is_in [.int a, .int l, .int h] S = .ok (.bl (decide (l ≤ a) && decide (a ≤ h))) S := by
  rw [p_is_in]
  by_cases c : l ≤ a
  · simp only [dz0, dz1, dz2, dz3, dz4, dz5, dz6, dz7, Option.isNone_none, Option.isNone_some, Int.reduceSub, Int.reduceAdd, ne_eq, Int.reduceEq, Int.reduceNe, low, lows, putD, List.mem_cons, List.not_mem_nil, or_self, or_false, false_or, not_false_eq_true, Bool.and_self, Bool.true_and, Bool.and_true, Bool.false_and, Bool.and_false, Bool.or_false, Bool.or_true, Bool.false_or, Bool.true_or, Nat.reduceLeDiff, Nat.reduceLT, String.reduceEq, List.map_cons, List.map_nil, List.length_cons, List.length_nil, List.replicate, List.cons_append, List.nil_append, List.getElem?_cons_succ, List.getElem?_cons_zero, List.set_cons_succ, List.set_cons_zero, flat, lenG, binD, cmpD, getKD, isD, optB, id, decide_true, decide_false, Nat.reduceAdd, Nat.reduceSub, Bool.not_true, Bool.not_false, CV.dv, getI, Int.cast_ofNat_Int, fldD, getK, if_true, if_false, ite_true, ite_false, reduceIte, Int.reduceLE, Int.reduceLT, Int.reduceToNat, Option.bind, tb0, tb1, tb2, b_is_in, q_is_integer, c, Bool.true_and]
  · simp only [dz0, dz1, dz2, dz3, dz4, dz5, dz6, dz7, Option.isNone_none, Option.isNone_some, Int.reduceSub, Int.reduceAdd, ne_eq, Int.reduceEq, Int.reduceNe, low, lows, putD, List.mem_cons, List.not_mem_nil, or_self, or_false, false_or, not_false_eq_true, Bool.and_self, Bool.true_and, Bool.and_true, Bool.false_and, Bool.and_false, Bool.or_false, Bool.or_true, Bool.false_or, Bool.true_or, Nat.reduceLeDiff, Nat.reduceLT, String.reduceEq, List.map_cons, List.map_nil, List.length_cons, List.length_nil, List.replicate, List.cons_append, List.nil_append, List.getElem?_cons_succ, List.getElem?_cons_zero, List.set_cons_succ, List.set_cons_zero, flat, lenG, binD, cmpD, getKD, isD, optB, id, decide_true, decide_false, Nat.reduceAdd, Nat.reduceSub, Bool.not_true, Bool.not_false, CV.dv, getI, Int.cast_ofNat_Int, fldD, getK, if_true, if_false, ite_true, ite_false, reduceIte, Int.reduceLE, Int.reduceLT, Int.reduceToNat, Option.bind, tb0, tb1, tb2, b_is_in, q_is_integer, c, Bool.false_and]
theorem q_is_list (n : Nat) (l : List D) (a h : Int) (S : Sto) : L.phi (n + 1) i_is_list [.tup l, .int a, .int h] S = .ok (.bl (decide (a ≤ l.length) && decide ((l.length : Int) ≤ h))) S := by
  rw [p_is_list]
  by_cases c : a ≤ l.length
  · simp only [dz0, dz1, dz2, dz3, dz4, dz5, dz6, dz7, Option.isNone_none, Option.isNone_some, Int.reduceSub, Int.reduceAdd, ne_eq, Int.reduceEq, Int.reduceNe, low, lows, putD, List.mem_cons, List.not_mem_nil, or_self, or_false, false_or, not_false_eq_true, Bool.and_self, Bool.true_and, Bool.and_true, Bool.false_and, Bool.and_false, Bool.or_false, Bool.or_true, Bool.false_or, Bool.true_or, Nat.reduceLeDiff, Nat.reduceLT, String.reduceEq, List.map_cons, List.map_nil, List.length_cons, List.length_nil, List.replicate, List.cons_append, List.nil_append, List.getElem?_cons_succ, List.getElem?_cons_zero, List.set_cons_succ, List.set_cons_zero, flat, lenG, binD, cmpD, getKD, isD, optB, id, decide_true, decide_false, Nat.reduceAdd, Nat.reduceSub, Bool.not_true, Bool.not_false, CV.dv, getI, Int.cast_ofNat_Int, fldD, getK, if_true, if_false, ite_true, ite_false, reduceIte, Int.reduceLE, Int.reduceLT, Int.reduceToNat, Option.bind, tb0, tb1, tb2, b_is_list, c, Bool.true_and]
  · simp only [dz0, dz1, dz2, dz3, dz4, dz5, dz6, dz7, Option.isNone_none, Option.isNone_some, Int.reduceSub, Int.reduceAdd, ne_eq, Int.reduceEq, Int.reduceNe, low, lows, putD, List.mem_cons, List.not_mem_nil, or_self, or_false, false_or, not_false_eq_true, Bool.and_self, Bool.true_and, Bool.and_true, Bool.false_and, Bool.and_false, Bool.or_false, Bool.or_true, Bool.false_or, Bool.true_or, Nat.reduceLeDiff, Nat.reduceLT, String.reduceEq, List.map_cons, List.map_nil, List.length_cons, List.length_nil, List.replicate, List.cons_append, List.nil_append, List.getElem?_cons_succ, List.getElem?_cons_zero, List.set_cons_succ, List.set_cons_zero, flat, lenG, binD, cmpD, getKD, isD, optB, id, decide_true, decide_false, Nat.reduceAdd, Nat.reduceSub, Bool.not_true, Bool.not_false, CV.dv, getI, Int.cast_ofNat_Int, fldD, getK, if_true, if_false, ite_true, ite_false, reduceIte, Int.reduceLE, Int.reduceLT, Int.reduceToNat, Option.bind, tb0, tb1, tb2, b_is_list, c, Bool.false_and]
theorem q_two_to (n : Nat) (k : Int) (S : Sto) (h0 : 0 ≤ k) (h1 : k ≤ 64) : L.phi (n + 1) i_two_to [.int k] S = .ok (.int (2 ^ k.toNat)) S := by
  rw [p_two_to]
  have hk : okI k = true := by
    unfold okI
    rw [decide_eq_true (show -100000000 ≤ k by omega), decide_eq_true (show k ≤ 100000000 by omega)]
    rfl
  have hl : (rngD 0 k).length = k.toNat := by
    unfold rngD
    rw [List.length_map, List.length_range]
    congr 1
    omega
  obtain ⟨ρ', S', e, hI⟩ := forL_inv (asgD (L.C n) (.nm 2)) (execs (L.C n) (.cons (.asg (.nm 1) (.bin .mul (.var 1) (.cst (.int 2)))) .nil)) (fun j ρ S' => S' = S ∧ ∃ o, ρ = [some (.int k), some (.int (2 ^ j)), o]) (rngD 0 k) 0 [some (.int k), some (.int 1), none] S ⟨rfl, none, rfl⟩
    (fun j d hj ρ S' hi => by
      obtain ⟨rfl, o, rfl⟩ := hi
      have hjl : j < k.toNat := by
        rw [← hl]
        exact (List.getElem?_eq_some_iff.mp hj).1
      have hm : mulC (2 ^ (0 + j)) 2 = true := by
        refine mulC_of ⟨?_, ?_⟩ ⟨by decide, by decide⟩
        · have : (0 : Int) ≤ 2 ^ (0 + j) := Int.le_of_lt (Int.pow_pos (by decide))
          have : (0 : Int) < 2 ^ 250 := Int.pow_pos (by decide)
          omega
        · have h2 : (2 : Nat) ^ (0 + j) < 2 ^ 250 := Nat.pow_lt_pow_right (by decide) (by omega)
          have h3 : ((2 ^ (0 + j) : Nat) : Int) < ((2 ^ 250 : Nat) : Int) := Int.ofNat_lt.mpr h2
          simpa using h3
      refine ⟨[some (.int k), some (.int (2 ^ (0 + j) * 2)), some d], S', ?_, rfl, some d, by rw [Int.pow_succ]⟩
      simp only [dz0, dz1, dz2, dz3, dz4, dz5, dz6, dz7, Option.isNone_none, Option.isNone_some, Int.reduceSub, Int.reduceAdd, ne_eq, Int.reduceEq, Int.reduceNe, low, lows, putD, List.mem_cons, List.not_mem_nil, or_self, or_false, false_or, not_false_eq_true, Bool.and_self, Bool.true_and, Bool.and_true, Bool.false_and, Bool.and_false, Bool.or_false, Bool.or_true, Bool.false_or, Bool.true_or, Nat.reduceLeDiff, Nat.reduceLT, String.reduceEq, List.map_cons, List.map_nil, List.length_cons, List.length_nil, List.replicate, List.cons_append, List.nil_append, List.getElem?_cons_succ, List.getElem?_cons_zero, List.set_cons_succ, List.set_cons_zero, flat, lenG, binD, cmpD, getKD, isD, optB, id, decide_true, decide_false, Nat.reduceAdd, Nat.reduceSub, Bool.not_true, Bool.not_false, CV.dv, getI, Int.cast_ofNat_Int, fldD, getK, if_true, if_false, ite_true, ite_false, reduceIte, Int.reduceLE, Int.reduceLT, Int.reduceToNat, Option.bind, tb0, tb1, tb2, hm])
  obtain ⟨rfl, o, rfl⟩ := hI
  rw [hl, Nat.zero_add] at e
  simp only [dz0, dz1, dz2, dz3, dz4, dz5, dz6, dz7, Option.isNone_none, Option.isNone_some, Int.reduceSub, Int.reduceAdd, ne_eq, Int.reduceEq, Int.reduceNe, low, lows, putD, List.mem_cons, List.not_mem_nil, or_self, or_false, false_or, not_false_eq_true, Bool.and_self, Bool.true_and, Bool.and_true, Bool.false_and, Bool.and_false, Bool.or_false, Bool.or_true, Bool.false_or, Bool.true_or, Nat.reduceLeDiff, Nat.reduceLT, String.reduceEq, List.map_cons, List.map_nil, List.length_cons, List.length_nil, List.replicate, List.cons_append, List.nil_append, List.getElem?_cons_succ, List.getElem?_cons_zero, List.set_cons_succ, List.set_cons_zero, flat, lenG, binD, cmpD, getKD, isD, optB, id, decide_true, decide_false, Nat.reduceAdd, Nat.reduceSub, Bool.not_true, Bool.not_false, CV.dv, getI, Int.cast_ofNat_Int, fldD, getK, if_true, if_false, ite_true, ite_false, reduceIte, Int.reduceLE, Int.reduceLT, Int.reduceToNat, Option.bind, tb0, tb1, tb2, b_two_to, x_for, hk]
  rw [e]
  simp only [dz0, dz1, dz2, dz3, dz4, dz5, dz6, dz7, Option.isNone_none, Option.isNone_some, Int.reduceSub, Int.reduceAdd, ne_eq, Int.reduceEq, Int.reduceNe, low, lows, putD, List.mem_cons, List.not_mem_nil, or_self, or_false, false_or, not_false_eq_true, Bool.and_self, Bool.true_and, Bool.and_true, Bool.false_and, Bool.and_false, Bool.or_false, Bool.or_true, Bool.false_or, Bool.true_or, Nat.reduceLeDiff, Nat.reduceLT, String.reduceEq, List.map_cons, List.map_nil, List.length_cons, List.length_nil, List.replicate, List.cons_append, List.nil_append, List.getElem?_cons_succ, List.getElem?_cons_zero, List.set_cons_succ, List.set_cons_zero, flat, lenG, binD, cmpD, getKD, isD, optB, id, decide_true, decide_false, Nat.reduceAdd, Nat.reduceSub, Bool.not_true, Bool.not_false, CV.dv, getI, Int.cast_ofNat_Int, fldD, getK, if_true, if_false, ite_true, ite_false, reduceIte, Int.reduceLE, Int.reduceLT, Int.reduceToNat, Option.bind, tb0, tb1, tb2]
theorem q_word (n : Nat) (S : Sto) (x : Str) (l : List D) (b : Bool) (h : inD (.str x) (.tup l) = some b) : L.phi (n + 1) i_is_word [.str x, .tup l] S = .ok (.bl b) S := by
  rw [p_is_word]
  simp only [dz0, dz1, dz2, dz3, dz4, dz5, dz6, dz7, Option.isNone_none, Option.isNone_some, Int.reduceSub, Int.reduceAdd, ne_eq, Int.reduceEq, Int.reduceNe, low, lows, putD, List.mem_cons, List.not_mem_nil, or_self, or_false, false_or, not_false_eq_true, Bool.and_self, Bool.true_and, Bool.and_true, Bool.false_and, Bool.and_false, Bool.or_false, Bool.or_true, Bool.false_or, Bool.true_or, Nat.reduceLeDiff, Nat.reduceLT, String.reduceEq, List.map_cons, List.map_nil, List.length_cons, List.length_nil, List.replicate, List.cons_append, List.nil_append, List.getElem?_cons_succ, List.getElem?_cons_zero, List.set_cons_succ, List.set_cons_zero, flat, lenG, binD, cmpD, getKD, isD, optB, id, decide_true, decide_false, Nat.reduceAdd, Nat.reduceSub, Bool.not_true, Bool.not_false, CV.dv, getI, Int.cast_ofNat_Int, fldD, getK, if_true, if_false, ite_true, ite_false, reduceIte, Int.reduceLE, Int.reduceLT, Int.reduceToNat, Option.bind, tb0, tb1, tb2, b_is_word, h]
theorem q_is_format (n : Nat) (f : Fm) (h : f.ok) (S : Sto) : L.phi (n + 3) i_is_format [f.D] S = .ok (.bl true) S := by
  rw [p_is_format]
  have h1 := h.w1
  have h2 := h.w2
  have a1 : ∀ m S, L.phi (m + 1) i_is_word [.str f.s, L.gd 2] S = .ok (.bl true) S := fun m S => by
    refine q_word m S _ _ _ ?_
    rcases h.s with e | e | e <;> rw [e] <;> decide +kernel
  have a2 : ∀ m S, L.phi (m + 1) i_is_word [.str f.o, L.gd 3] S = .ok (.bl true) S := fun m S => by
    refine q_word m S _ _ _ ?_
    rcases h.o with e | e | e <;> rw [e] <;> decide +kernel
  have a3 : ∀ m S, L.phi (m + 1) i_is_word [.str f.d, L.gd 4] S = .ok (.bl true) S := fun m S => by
    refine q_word m S _ _ _ ?_
    rcases h.d with e | e | e | e | e <;> rw [e] <;> decide +kernel
  simp only [gd_2, gd_3, gd_4, CV.dv, List.map_cons, List.map_nil] at a1 a2 a3
  unfold Fm.D
  simp only [dz0, dz1, dz2, dz3, dz4, dz5, dz6, dz7, Option.isNone_none, Option.isNone_some, Int.reduceSub, Int.reduceAdd, ne_eq, Int.reduceEq, Int.reduceNe, low, lows, putD, List.mem_cons, List.not_mem_nil, or_self, or_false, false_or, not_false_eq_true, Bool.and_self, Bool.true_and, Bool.and_true, Bool.false_and, Bool.and_false, Bool.or_false, Bool.or_true, Bool.false_or, Bool.true_or, Nat.reduceLeDiff, Nat.reduceLT, String.reduceEq, List.map_cons, List.map_nil, List.length_cons, List.length_nil, List.replicate, List.cons_append, List.nil_append, List.getElem?_cons_succ, List.getElem?_cons_zero, List.set_cons_succ, List.set_cons_zero, flat, lenG, binD, cmpD, getKD, isD, optB, id, decide_true, decide_false, Nat.reduceAdd, Nat.reduceSub, Bool.not_true, Bool.not_false, CV.dv, getI, Int.cast_ofNat_Int, fldD, getK, if_true, if_false, ite_true, ite_false, reduceIte, Int.reduceLE, Int.reduceLT, Int.reduceToNat, Option.bind, tb0, tb1, tb2, b_is_format, q_is_list, q_is_in, h1, h2, a1, a2, a3, Int.toNat_zero, Int.reduceToNat, Bool.true_and, Bool.and_true]
end K08

set_option Elab.async false
set_option linter.all false
set_option maxRecDepth 100000
set_option maxHeartbeats 2000000
namespace K08
open PySem (Str)
open Dz
theorem q_need_format (n : Nat) (f : Fm) (h : f.ok) (S : Sto) : L.phi (n + 4) i_need_format [f.D] S = .ok .non S := by
  rw [p_need_format]
  simp only [dz0, dz1, dz2, dz3, dz4, dz5, dz6, dz7, Option.isNone_none, Option.isNone_some, Int.reduceSub, Int.reduceAdd, ne_eq, Int.reduceEq, Int.reduceNe, low, lows, putD, List.mem_cons, List.not_mem_nil, or_self, or_false, false_or, not_false_eq_true, Bool.and_self, Bool.true_and, Bool.and_true, Bool.false_and, Bool.and_false, Bool.or_false, Bool.or_true, Bool.false_or, Bool.true_or, Nat.reduceLeDiff, Nat.reduceLT, String.reduceEq, List.map_cons, List.map_nil, List.length_cons, List.length_nil, List.replicate, List.cons_append, List.nil_append, List.getElem?_cons_succ, List.getElem?_cons_zero, List.set_cons_succ, List.set_cons_zero, flat, lenG, binD, cmpD, getKD, isD, optB, id, decide_true, decide_false, Nat.reduceAdd, Nat.reduceSub, Bool.not_true, Bool.not_false, CV.dv, getI, Int.cast_ofNat_Int, fldD, getK, if_true, if_false, ite_true, ite_false, reduceIte, Int.reduceLE, Int.reduceLT, Int.reduceToNat, Option.bind, tb0, tb1, tb2, b_need_format, q_is_format n f h]
theorem q_low_of (n : Nat) (f : Fm) (h : f.ok) (S : Sto) : L.phi (n + 2) i_low_of [f.D] S = .ok (.int f.lo) S := by
  rw [p_low_of]
  have h1 := h.w1
  have h2 := h.w2
  have t := fun m S => q_two_to m (f.w - 1) S (by omega) (by omega)
  unfold Fm.D Fm.lo half
  rcases h.s with e | e | e <;> simp only [dz0, dz1, dz2, dz3, dz4, dz5, dz6, dz7, Option.isNone_none, Option.isNone_some, Int.reduceSub, Int.reduceAdd, ne_eq, Int.reduceEq, Int.reduceNe, low, lows, putD, List.mem_cons, List.not_mem_nil, or_self, or_false, false_or, not_false_eq_true, Bool.and_self, Bool.true_and, Bool.and_true, Bool.false_and, Bool.and_false, Bool.or_false, Bool.or_true, Bool.false_or, Bool.true_or, Nat.reduceLeDiff, Nat.reduceLT, String.reduceEq, List.map_cons, List.map_nil, List.length_cons, List.length_nil, List.replicate, List.cons_append, List.nil_append, List.getElem?_cons_succ, List.getElem?_cons_zero, List.set_cons_succ, List.set_cons_zero, flat, lenG, binD, cmpD, getKD, isD, optB, id, decide_true, decide_false, Nat.reduceAdd, Nat.reduceSub, Bool.not_true, Bool.not_false, CV.dv, getI, Int.cast_ofNat_Int, fldD, getK, if_true, if_false, ite_true, ite_false, reduceIte, Int.reduceLE, Int.reduceLT, Int.reduceToNat, Option.bind, tb0, tb1, tb2, b_low_of, e, t]
theorem q_high_of (n : Nat) (f : Fm) (h : f.ok) (S : Sto) : L.phi (n + 2) i_high_of [f.D] S = .ok (.int f.hi) S := by
  rw [p_high_of]
  have h1 := h.w1
  have h2 := h.w2
  have t := fun m S => q_two_to m (f.w - 1) S (by omega) (by omega)
  have t2 := fun m S => q_two_to m f.w S (by omega) (by omega)
  unfold Fm.D Fm.hi half
  rcases h.s with e | e | e <;> simp only [dz0, dz1, dz2, dz3, dz4, dz5, dz6, dz7, Option.isNone_none, Option.isNone_some, Int.reduceSub, Int.reduceAdd, ne_eq, Int.reduceEq, Int.reduceNe, low, lows, putD, List.mem_cons, List.not_mem_nil, or_self, or_false, false_or, not_false_eq_true, Bool.and_self, Bool.true_and, Bool.and_true, Bool.false_and, Bool.and_false, Bool.or_false, Bool.or_true, Bool.false_or, Bool.true_or, Nat.reduceLeDiff, Nat.reduceLT, String.reduceEq, List.map_cons, List.map_nil, List.length_cons, List.length_nil, List.replicate, List.cons_append, List.nil_append, List.getElem?_cons_succ, List.getElem?_cons_zero, List.set_cons_succ, List.set_cons_zero, flat, lenG, binD, cmpD, getKD, isD, optB, id, decide_true, decide_false, Nat.reduceAdd, Nat.reduceSub, Bool.not_true, Bool.not_false, CV.dv, getI, Int.cast_ofNat_Int, fldD, getK, if_true, if_false, ite_true, ite_false, reduceIte, Int.reduceLE, Int.reduceLT, Int.reduceToNat, Option.bind, tb0, tb1, tb2, b_high_of, e, t, t2]
theorem q_has_number (n : Nat) (f : Fm) (h : f.ok) (v : Int) (S : Sto) : L.phi (n + 3) i_has_number [f.D, .int v] S = .ok (.bl (decide (f.lo ≤ v) && decide (v ≤ f.hi))) S := by
  rw [p_has_number]
  simp only [dz0, dz1, dz2, dz3, dz4, dz5, dz6, dz7, Option.isNone_none, Option.isNone_some, Int.reduceSub, Int.reduceAdd, ne_eq, Int.reduceEq, Int.reduceNe, low, lows, putD, List.mem_cons, List.not_mem_nil, or_self, or_false, false_or, not_false_eq_true, Bool.and_self, Bool.true_and, Bool.and_true, Bool.false_and, Bool.and_false, Bool.or_false, Bool.or_true, Bool.false_or, Bool.true_or, Nat.reduceLeDiff, Nat.reduceLT, String.reduceEq, List.map_cons, List.map_nil, List.length_cons, List.length_nil, List.replicate, List.cons_append, List.nil_append, List.getElem?_cons_succ, List.getElem?_cons_zero, List.set_cons_succ, List.set_cons_zero, flat, lenG, binD, cmpD, getKD, isD, optB, id, decide_true, decide_false, Nat.reduceAdd, Nat.reduceSub, Bool.not_true, Bool.not_false, CV.dv, getI, Int.cast_ofNat_Int, fldD, getK, if_true, if_false, ite_true, ite_false, reduceIte, Int.reduceLE, Int.reduceLT, Int.reduceToNat, Option.bind, tb0, tb1, tb2, b_has_number, q_low_of _ f h, q_high_of _ f h, q_is_in]
theorem q_quotient_of (n : Nat) (d : Str) (a b : Int) (S : Sto) (hb : b ≠ 0) (sa : sm a) (sb : sm b) (hd : d = "ceiling" ∨ d = "euclid" ∨ d = "even" ∨ d = "floor" ∨ d = "zero") : L.phi (n + 1) i_quotient_of [.str d, .int a, .int b] S = .ok (.int (quo d a b)) S := by
  rw [p_quotient_of]
  have c1 : divC b = true := divC_of (sm_small sb) hb
  have fs := fdiv_small hb sa.1 sa.2
  have c2 : mulC b (a.fdiv b) = true := mulC_of (sm_small sb) (sm_small fs)
  have ff := fdiv_facts a b hb
  have sb1 := sb.1
  have sb2 := sb.2
  have c3 : mulC 2 (absI (a - b * a.fdiv b)) = true := mulC_of ⟨by decide, by decide⟩ (by unfold absI; constructor <;> split <;> omega)
  unfold quo
  by_cases r0 : a - b * a.fdiv b = 0
  · simp only [dz0, dz1, dz2, dz3, dz4, dz5, dz6, dz7, Option.isNone_none, Option.isNone_some, Int.reduceSub, Int.reduceAdd, ne_eq, Int.reduceEq, Int.reduceNe, low, lows, putD, List.mem_cons, List.not_mem_nil, or_self, or_false, false_or, not_false_eq_true, Bool.and_self, Bool.true_and, Bool.and_true, Bool.false_and, Bool.and_false, Bool.or_false, Bool.or_true, Bool.false_or, Bool.true_or, Nat.reduceLeDiff, Nat.reduceLT, String.reduceEq, List.map_cons, List.map_nil, List.length_cons, List.length_nil, List.replicate, List.cons_append, List.nil_append, List.getElem?_cons_succ, List.getElem?_cons_zero, List.set_cons_succ, List.set_cons_zero, flat, lenG, binD, cmpD, getKD, isD, optB, id, decide_true, decide_false, Nat.reduceAdd, Nat.reduceSub, Bool.not_true, Bool.not_false, CV.dv, getI, Int.cast_ofNat_Int, fldD, getK, if_true, if_false, ite_true, ite_false, reduceIte, Int.reduceLE, Int.reduceLT, Int.reduceToNat, Option.bind, tb0, tb1, tb2, b_quotient_of, c1, c2, r0, true_or]
  · have r0b : decide (a - b * a.fdiv b = 0) = false := decide_eq_false r0
    rcases hd with e | e | e | e | e
    · simp only [dz0, dz1, dz2, dz3, dz4, dz5, dz6, dz7, Option.isNone_none, Option.isNone_some, Int.reduceSub, Int.reduceAdd, ne_eq, Int.reduceEq, Int.reduceNe, low, lows, putD, List.mem_cons, List.not_mem_nil, or_self, or_false, false_or, not_false_eq_true, Bool.and_self, Bool.true_and, Bool.and_true, Bool.false_and, Bool.and_false, Bool.or_false, Bool.or_true, Bool.false_or, Bool.true_or, Nat.reduceLeDiff, Nat.reduceLT, String.reduceEq, List.map_cons, List.map_nil, List.length_cons, List.length_nil, List.replicate, List.cons_append, List.nil_append, List.getElem?_cons_succ, List.getElem?_cons_zero, List.set_cons_succ, List.set_cons_zero, flat, lenG, binD, cmpD, getKD, isD, optB, id, decide_true, decide_false, Nat.reduceAdd, Nat.reduceSub, Bool.not_true, Bool.not_false, CV.dv, getI, Int.cast_ofNat_Int, fldD, getK, if_true, if_false, ite_true, ite_false, reduceIte, Int.reduceLE, Int.reduceLT, Int.reduceToNat, Option.bind, tb0, tb1, tb2, b_quotient_of, c1, c2, r0, e]
    · by_cases hb0 : 0 < b <;> simp only [dz0, dz1, dz2, dz3, dz4, dz5, dz6, dz7, Option.isNone_none, Option.isNone_some, Int.reduceSub, Int.reduceAdd, ne_eq, Int.reduceEq, Int.reduceNe, low, lows, putD, List.mem_cons, List.not_mem_nil, or_self, or_false, false_or, not_false_eq_true, Bool.and_self, Bool.true_and, Bool.and_true, Bool.false_and, Bool.and_false, Bool.or_false, Bool.or_true, Bool.false_or, Bool.true_or, Nat.reduceLeDiff, Nat.reduceLT, String.reduceEq, List.map_cons, List.map_nil, List.length_cons, List.length_nil, List.replicate, List.cons_append, List.nil_append, List.getElem?_cons_succ, List.getElem?_cons_zero, List.set_cons_succ, List.set_cons_zero, flat, lenG, binD, cmpD, getKD, isD, optB, id, decide_true, decide_false, Nat.reduceAdd, Nat.reduceSub, Bool.not_true, Bool.not_false, CV.dv, getI, Int.cast_ofNat_Int, fldD, getK, if_true, if_false, ite_true, ite_false, reduceIte, Int.reduceLE, Int.reduceLT, Int.reduceToNat, Option.bind, tb0, tb1, tb2, b_quotient_of, c1, c2, r0, e, hb0]
    · obtain ⟨u, hu⟩ : ∃ u, u = absI (a - b * a.fdiv b) := ⟨_, rfl⟩
      obtain ⟨z, hz⟩ : ∃ z, z = absI b := ⟨_, rfl⟩
      have hu2 := hu
      have hz2 := hz
      unfold absI at hu2 hz2
      rw [← hu] at c3
      have d2 : ¬ (2 : Int) = 0 := by decide
      simp only [← hu, ← hz]
      by_cases g0 : 2 * u - z = 0
      · simp only [dz0, dz1, dz2, dz3, dz4, dz5, dz6, dz7, Option.isNone_none, Option.isNone_some, Int.reduceSub, Int.reduceAdd, ne_eq, Int.reduceEq, Int.reduceNe, low, lows, putD, List.mem_cons, List.not_mem_nil, or_self, or_false, false_or, not_false_eq_true, Bool.and_self, Bool.true_and, Bool.and_true, Bool.false_and, Bool.and_false, Bool.or_false, Bool.or_true, Bool.false_or, Bool.true_or, Nat.reduceLeDiff, Nat.reduceLT, String.reduceEq, List.map_cons, List.map_nil, List.length_cons, List.length_nil, List.replicate, List.cons_append, List.nil_append, List.getElem?_cons_succ, List.getElem?_cons_zero, List.set_cons_succ, List.set_cons_zero, flat, lenG, binD, cmpD, getKD, isD, optB, id, decide_true, decide_false, Nat.reduceAdd, Nat.reduceSub, Bool.not_true, Bool.not_false, CV.dv, getI, Int.cast_ofNat_Int, fldD, getK, if_true, if_false, ite_true, ite_false, reduceIte, Int.reduceLE, Int.reduceLT, Int.reduceToNat, Option.bind, tb0, tb1, tb2, b_quotient_of, c1, c2, r0, e, ← hu2, ← hz2, c3, g0]
      · by_cases g1 : 0 < 2 * u - z <;> simp only [dz0, dz1, dz2, dz3, dz4, dz5, dz6, dz7, Option.isNone_none, Option.isNone_some, Int.reduceSub, Int.reduceAdd, ne_eq, Int.reduceEq, Int.reduceNe, low, lows, putD, List.mem_cons, List.not_mem_nil, or_self, or_false, false_or, not_false_eq_true, Bool.and_self, Bool.true_and, Bool.and_true, Bool.false_and, Bool.and_false, Bool.or_false, Bool.or_true, Bool.false_or, Bool.true_or, Nat.reduceLeDiff, Nat.reduceLT, String.reduceEq, List.map_cons, List.map_nil, List.length_cons, List.length_nil, List.replicate, List.cons_append, List.nil_append, List.getElem?_cons_succ, List.getElem?_cons_zero, List.set_cons_succ, List.set_cons_zero, flat, lenG, binD, cmpD, getKD, isD, optB, id, decide_true, decide_false, Nat.reduceAdd, Nat.reduceSub, Bool.not_true, Bool.not_false, CV.dv, getI, Int.cast_ofNat_Int, fldD, getK, if_true, if_false, ite_true, ite_false, reduceIte, Int.reduceLE, Int.reduceLT, Int.reduceToNat, Option.bind, tb0, tb1, tb2, b_quotient_of, c1, c2, r0, e, ← hu2, ← hz2, c3, g0, g1]
    · simp only [dz0, dz1, dz2, dz3, dz4, dz5, dz6, dz7, Option.isNone_none, Option.isNone_some, Int.reduceSub, Int.reduceAdd, ne_eq, Int.reduceEq, Int.reduceNe, low, lows, putD, List.mem_cons, List.not_mem_nil, or_self, or_false, false_or, not_false_eq_true, Bool.and_self, Bool.true_and, Bool.and_true, Bool.false_and, Bool.and_false, Bool.or_false, Bool.or_true, Bool.false_or, Bool.true_or, Nat.reduceLeDiff, Nat.reduceLT, String.reduceEq, List.map_cons, List.map_nil, List.length_cons, List.length_nil, List.replicate, List.cons_append, List.nil_append, List.getElem?_cons_succ, List.getElem?_cons_zero, List.set_cons_succ, List.set_cons_zero, flat, lenG, binD, cmpD, getKD, isD, optB, id, decide_true, decide_false, Nat.reduceAdd, Nat.reduceSub, Bool.not_true, Bool.not_false, CV.dv, getI, Int.cast_ofNat_Int, fldD, getK, if_true, if_false, ite_true, ite_false, reduceIte, Int.reduceLE, Int.reduceLT, Int.reduceToNat, Option.bind, tb0, tb1, tb2, b_quotient_of, c1, c2, r0, e]
    · by_cases hs : decide (a < 0) = decide (b < 0) <;> simp only [dz0, dz1, dz2, dz3, dz4, dz5, dz6, dz7, Option.isNone_none, Option.isNone_some, Int.reduceSub, Int.reduceAdd, ne_eq, Int.reduceEq, Int.reduceNe, low, lows, putD, List.mem_cons, List.not_mem_nil, or_self, or_false, false_or, not_false_eq_true, Bool.and_self, Bool.true_and, Bool.and_true, Bool.false_and, Bool.and_false, Bool.or_false, Bool.or_true, Bool.false_or, Bool.true_or, Nat.reduceLeDiff, Nat.reduceLT, String.reduceEq, List.map_cons, List.map_nil, List.length_cons, List.length_nil, List.replicate, List.cons_append, List.nil_append, List.getElem?_cons_succ, List.getElem?_cons_zero, List.set_cons_succ, List.set_cons_zero, flat, lenG, binD, cmpD, getKD, isD, optB, id, decide_true, decide_false, Nat.reduceAdd, Nat.reduceSub, Bool.not_true, Bool.not_false, CV.dv, getI, Int.cast_ofNat_Int, fldD, getK, if_true, if_false, ite_true, ite_false, reduceIte, Int.reduceLE, Int.reduceLT, Int.reduceToNat, Option.bind, tb0, tb1, tb2, b_quotient_of, c1, c2, r0, e, hs]
/-! ### a Reckoner -/
def rkD (f : Fm) : D := .ob c_reckoner ["low", "high", "overflow", "division"] [.int f.lo, .int f.hi, .str f.o, .str f.d]
theorem q_reckoner_init (n : Nat) (f : Fm) (h : f.ok) (S : Sto) : L.phi (n + 3) i_reckoner_init [f.D] S = .ok (rkD f) S := by
  rw [p_reckoner_init]
  have a := fun m S => q_low_of m f h S
  have b := fun m S => q_high_of m f h S
  unfold Fm.D at a b ⊢
  unfold rkD
  simp only [dz0, dz1, dz2, dz3, dz4, dz5, dz6, dz7, Option.isNone_none, Option.isNone_some, Int.reduceSub, Int.reduceAdd, ne_eq, Int.reduceEq, Int.reduceNe, low, lows, putD, List.mem_cons, List.not_mem_nil, or_self, or_false, false_or, not_false_eq_true, Bool.and_self, Bool.true_and, Bool.and_true, Bool.false_and, Bool.and_false, Bool.or_false, Bool.or_true, Bool.false_or, Bool.true_or, Nat.reduceLeDiff, Nat.reduceLT, String.reduceEq, List.map_cons, List.map_nil, List.length_cons, List.length_nil, List.replicate, List.cons_append, List.nil_append, List.getElem?_cons_succ, List.getElem?_cons_zero, List.set_cons_succ, List.set_cons_zero, flat, lenG, binD, cmpD, getKD, isD, optB, id, decide_true, decide_false, Nat.reduceAdd, Nat.reduceSub, Bool.not_true, Bool.not_false, CV.dv, getI, Int.cast_ofNat_Int, fldD, getK, if_true, if_false, ite_true, ite_false, reduceIte, Int.reduceLE, Int.reduceLT, Int.reduceToNat, Option.bind, tb0, tb1, tb2, b_reckoner_init, a, b]
end K08

set_option Elab.async false
set_option linter.all false
set_option maxRecDepth 100000
set_option maxHeartbeats 2000000
namespace K08
open PySem (Str)
open Dz
theorem in7s {r : Str} (hr : Single r) : inD (.str r) (L.gd 8) = some true := by rcases hr with e | e | e | e <;> rw [e] <;> decide +kernel
theorem in7t {r : Str} (hr : Triple r) : inD (.str r) (L.gd 8) = some false := by rcases hr with e | e | e | e | e <;> rw [e] <;> decide +kernel
theorem in7d {r : Str} (hr : Divided r) : inD (.str r) (L.gd 8) = some false := by rcases hr with e | e | e <;> rw [e] <;> decide +kernel
theorem in7p {r : Str} (hr : Pair r) : inD (.str r) (L.gd 8) = some false := by rcases hr with e | e | e | e | e <;> rw [e] <;> decide +kernel
theorem in8t {r : Str} (hr : Triple r) : inD (.str r) (L.gd 9) = some true := by rcases hr with e | e | e | e | e <;> rw [e] <;> decide +kernel
theorem in8d {r : Str} (hr : Divided r) : inD (.str r) (L.gd 9) = some false := by rcases hr with e | e | e <;> rw [e] <;> decide +kernel
theorem in8p {r : Str} (hr : Pair r) : inD (.str r) (L.gd 9) = some false := by rcases hr with e | e | e | e | e <;> rw [e] <;> decide +kernel
theorem in6 {r : Str} (hr : RuleOk r) : inD (.str r) (L.gd 7) = some true := by
  rcases hr with hr | hr | hr | hr
  · rcases hr with e | e | e | e <;> rw [e] <;> decide +kernel
  · rcases hr with e | e | e <;> rw [e] <;> decide +kernel
  · rcases hr with e | e | e | e | e <;> rw [e] <;> decide +kernel
  · rcases hr with e | e | e | e | e <;> rw [e] <;> decide +kernel
theorem q_need_rule (n : Nat) (r : Str) (hr : RuleOk r) (S : Sto) : L.phi (n + 1) i_need_rule [.str r] S = .ok .non S := by
  rw [p_need_rule]
  have e := in6 hr
  simp only [gd_7, CV.dv, List.map_cons, List.map_nil] at e
  simp only [dz0, dz1, dz2, dz3, dz4, dz5, dz6, dz7, Option.isNone_none, Option.isNone_some, Int.reduceSub, Int.reduceAdd, ne_eq, Int.reduceEq, Int.reduceNe, low, lows, putD, List.mem_cons, List.not_mem_nil, or_self, or_false, false_or, not_false_eq_true, Bool.and_self, Bool.true_and, Bool.and_true, Bool.false_and, Bool.and_false, Bool.or_false, Bool.or_true, Bool.false_or, Bool.true_or, Nat.reduceLeDiff, Nat.reduceLT, String.reduceEq, List.map_cons, List.map_nil, List.length_cons, List.length_nil, List.replicate, List.cons_append, List.nil_append, List.getElem?_cons_succ, List.getElem?_cons_zero, List.set_cons_succ, List.set_cons_zero, flat, lenG, binD, cmpD, getKD, isD, optB, id, decide_true, decide_false, Nat.reduceAdd, Nat.reduceSub, Bool.not_true, Bool.not_false, CV.dv, getI, Int.cast_ofNat_Int, fldD, getK, if_true, if_false, ite_true, ite_false, reduceIte, Int.reduceLE, Int.reduceLT, Int.reduceToNat, Option.bind, tb0, tb1, tb2, b_need_rule, e]
theorem ar1 {r : Str} (hr : Single r) : arR r = 1 := by
  unfold arR; rcases hr with e | e | e | e <;> simp only [e, ofs_inj, String.reduceEq, true_or, or_true, if_true]
theorem ar3 {r : Str} (hr : Triple r) : arR r = 3 := by
  unfold arR; rcases hr with e | e | e | e | e <;> simp only [e, ofs_inj, String.reduceEq, true_or, or_true, or_self, or_false, if_true, if_false]
theorem ar2d {r : Str} (hr : Divided r) : arR r = 2 := by
  unfold arR; rcases hr with e | e | e <;> simp only [e, ofs_inj, String.reduceEq, true_or, or_true, or_self, or_false, if_true, if_false]
theorem ar2p {r : Str} (hr : Pair r) : arR r = 2 := by
  unfold arR; rcases hr with e | e | e | e | e <;> simp only [e, ofs_inj, String.reduceEq, true_or, or_true, or_self, or_false, if_true, if_false]
theorem q_many_of (n : Nat) (r : Str) (hr : RuleOk r) (S : Sto) : L.phi (n + 1) i_many_of [.str r] S = .ok (.int (arR r)) S := by
  rw [p_many_of]
  rcases hr with hr | hr | hr | hr
  · have e := in7s hr
    simp only [gd_8, CV.dv, List.map_cons, List.map_nil] at e
    rw [ar1 hr]
    simp only [dz0, dz1, dz2, dz3, dz4, dz5, dz6, dz7, Option.isNone_none, Option.isNone_some, Int.reduceSub, Int.reduceAdd, ne_eq, Int.reduceEq, Int.reduceNe, low, lows, putD, List.mem_cons, List.not_mem_nil, or_self, or_false, false_or, not_false_eq_true, Bool.and_self, Bool.true_and, Bool.and_true, Bool.false_and, Bool.and_false, Bool.or_false, Bool.or_true, Bool.false_or, Bool.true_or, Nat.reduceLeDiff, Nat.reduceLT, String.reduceEq, List.map_cons, List.map_nil, List.length_cons, List.length_nil, List.replicate, List.cons_append, List.nil_append, List.getElem?_cons_succ, List.getElem?_cons_zero, List.set_cons_succ, List.set_cons_zero, flat, lenG, binD, cmpD, getKD, isD, optB, id, decide_true, decide_false, Nat.reduceAdd, Nat.reduceSub, Bool.not_true, Bool.not_false, CV.dv, getI, Int.cast_ofNat_Int, fldD, getK, if_true, if_false, ite_true, ite_false, reduceIte, Int.reduceLE, Int.reduceLT, Int.reduceToNat, Option.bind, tb0, tb1, tb2, b_many_of, e]
  · have e := in7d hr
    have e2 := in8d hr
    simp only [gd_8, gd_9, CV.dv, List.map_cons, List.map_nil] at e e2
    rw [ar2d hr]
    simp only [dz0, dz1, dz2, dz3, dz4, dz5, dz6, dz7, Option.isNone_none, Option.isNone_some, Int.reduceSub, Int.reduceAdd, ne_eq, Int.reduceEq, Int.reduceNe, low, lows, putD, List.mem_cons, List.not_mem_nil, or_self, or_false, false_or, not_false_eq_true, Bool.and_self, Bool.true_and, Bool.and_true, Bool.false_and, Bool.and_false, Bool.or_false, Bool.or_true, Bool.false_or, Bool.true_or, Nat.reduceLeDiff, Nat.reduceLT, String.reduceEq, List.map_cons, List.map_nil, List.length_cons, List.length_nil, List.replicate, List.cons_append, List.nil_append, List.getElem?_cons_succ, List.getElem?_cons_zero, List.set_cons_succ, List.set_cons_zero, flat, lenG, binD, cmpD, getKD, isD, optB, id, decide_true, decide_false, Nat.reduceAdd, Nat.reduceSub, Bool.not_true, Bool.not_false, CV.dv, getI, Int.cast_ofNat_Int, fldD, getK, if_true, if_false, ite_true, ite_false, reduceIte, Int.reduceLE, Int.reduceLT, Int.reduceToNat, Option.bind, tb0, tb1, tb2, b_many_of, e, e2]
  · have e := in7p hr
    have e2 := in8p hr
    simp only [gd_8, gd_9, CV.dv, List.map_cons, List.map_nil] at e e2
    rw [ar2p hr]
    simp only [dz0, dz1, dz2, dz3, dz4, dz5, dz6, dz7, Option.isNone_none, Option.isNone_some, Int.reduceSub, Int.reduceAdd, ne_eq, Int.reduceEq, Int.reduceNe, low, lows, putD, List.mem_cons, List.not_mem_nil, or_self, or_false, false_or, not_false_eq_true, Bool.and_self, Bool.true_and, Bool.and_true, Bool.false_and, Bool.and_false, Bool.or_false, Bool.or_true, Bool.false_or, Bool.true_or, Nat.reduceLeDiff, Nat.reduceLT, String.reduceEq, List.map_cons, List.map_nil, List.length_cons, List.length_nil, List.replicate, List.cons_append, List.nil_append, List.getElem?_cons_succ, List.getElem?_cons_zero, List.set_cons_succ, List.set_cons_zero, flat, lenG, binD, cmpD, getKD, isD, optB, id, decide_true, decide_false, Nat.reduceAdd, Nat.reduceSub, Bool.not_true, Bool.not_false, CV.dv, getI, Int.cast_ofNat_Int, fldD, getK, if_true, if_false, ite_true, ite_false, reduceIte, Int.reduceLE, Int.reduceLT, Int.reduceToNat, Option.bind, tb0, tb1, tb2, b_many_of, e, e2]
  · have e := in7t hr
    have e2 := in8t hr
    simp only [gd_8, gd_9, CV.dv, List.map_cons, List.map_nil] at e e2
    rw [ar3 hr]
    simp only [dz0, dz1, dz2, dz3, dz4, dz5, dz6, dz7, Option.isNone_none, Option.isNone_some, Int.reduceSub, Int.reduceAdd, ne_eq, Int.reduceEq, Int.reduceNe, low, lows, putD, List.mem_cons, List.not_mem_nil, or_self, or_false, false_or, not_false_eq_true, Bool.and_self, Bool.true_and, Bool.and_true, Bool.false_and, Bool.and_false, Bool.or_false, Bool.or_true, Bool.false_or, Bool.true_or, Nat.reduceLeDiff, Nat.reduceLT, String.reduceEq, List.map_cons, List.map_nil, List.length_cons, List.length_nil, List.replicate, List.cons_append, List.nil_append, List.getElem?_cons_succ, List.getElem?_cons_zero, List.set_cons_succ, List.set_cons_zero, flat, lenG, binD, cmpD, getKD, isD, optB, id, decide_true, decide_false, Nat.reduceAdd, Nat.reduceSub, Bool.not_true, Bool.not_false, CV.dv, getI, Int.cast_ofNat_Int, fldD, getK, if_true, if_false, ite_true, ite_false, reduceIte, Int.reduceLE, Int.reduceLT, Int.reduceToNat, Option.bind, tb0, tb1, tb2, b_many_of, e, e2]
end K08

set_option Elab.async false
set_option linter.all false
set_option maxRecDepth 100000
set_option maxHeartbeats 2000000
namespace K08
open PySem (Str)
open Dz
theorem q_law_taken (n : Nat) (c : MO) (hc : RowOk c) (S0 : Sto) (m : Int) (h1 : 1 ≤ m) (h2 : sm m) : ∃ t c', L.phi (n + 1) i_law_taken [.mr 1, .int m] (.tab :: c :: S0) = .ok (.int t) (.tab :: c' :: S0) ∧ RowOk c' ∧ 0 ≤ t ∧ t < m := by
  obtain ⟨l, i, s, r, rfl, hi, hs1, hs2⟩ := hc
  have m0 : ¬ m = 0 := by omega
  have d1 : divC m = true := divC_of (sm_small h2) m0
  have d7 : divC 7 = true := by decide
  have mu : mulC s 48271 = true := mulC_of ⟨by omega, by omega⟩ ⟨by decide, by decide⟩
  rw [p_law_taken]
  by_cases hr : 0 < r
  · refine ⟨r.fmod m, .lst [.scr l, .int i, .int s, .int (r.fdiv m)], ?_, ⟨_, _, _, _, rfl, hi, hs1, hs2⟩, fmod_rng (by omega)⟩
    simp only [dz0, dz1, dz2, dz3, dz4, dz5, dz6, dz7, Option.isNone_none, Option.isNone_some, Int.reduceSub, Int.reduceAdd, ne_eq, Int.reduceEq, Int.reduceNe, low, lows, putD, List.mem_cons, List.not_mem_nil, or_self, or_false, false_or, not_false_eq_true, Bool.and_self, Bool.true_and, Bool.and_true, Bool.false_and, Bool.and_false, Bool.or_false, Bool.or_true, Bool.false_or, Bool.true_or, Nat.reduceLeDiff, Nat.reduceLT, String.reduceEq, List.map_cons, List.map_nil, List.length_cons, List.length_nil, List.replicate, List.cons_append, List.nil_append, List.getElem?_cons_succ, List.getElem?_cons_zero, List.set_cons_succ, List.set_cons_zero, flat, lenG, binD, cmpD, getKD, isD, optB, id, decide_true, decide_false, Nat.reduceAdd, Nat.reduceSub, Bool.not_true, Bool.not_false, CV.dv, getI, Int.cast_ofNat_Int, fldD, getK, if_true, if_false, ite_true, ite_false, reduceIte, Int.reduceLE, Int.reduceLT, Int.reduceToNat, Option.bind, tb0, tb1, tb2, dx0, b_law_taken, hr, m0, d1]
  · by_cases hl : (l.length : Int) < i + 1
    · have z := @fmod_rng (s * 48271 + 11) 2147483647 (by decide)
      refine ⟨(((s * 48271 + 11).fmod 2147483647).fdiv 7).fmod m, .lst [.scr l, .int (i + 1), .int ((s * 48271 + 11).fmod 2147483647), .int r], ?_, ⟨_, _, _, _, rfl, by omega, by omega, by omega⟩, fmod_rng (by omega)⟩
      simp only [dz0, dz1, dz2, dz3, dz4, dz5, dz6, dz7, Option.isNone_none, Option.isNone_some, Int.reduceSub, Int.reduceAdd, ne_eq, Int.reduceEq, Int.reduceNe, low, lows, putD, List.mem_cons, List.not_mem_nil, or_self, or_false, false_or, not_false_eq_true, Bool.and_self, Bool.true_and, Bool.and_true, Bool.false_and, Bool.and_false, Bool.or_false, Bool.or_true, Bool.false_or, Bool.true_or, Nat.reduceLeDiff, Nat.reduceLT, String.reduceEq, List.map_cons, List.map_nil, List.length_cons, List.length_nil, List.replicate, List.cons_append, List.nil_append, List.getElem?_cons_succ, List.getElem?_cons_zero, List.set_cons_succ, List.set_cons_zero, flat, lenG, binD, cmpD, getKD, isD, optB, id, decide_true, decide_false, Nat.reduceAdd, Nat.reduceSub, Bool.not_true, Bool.not_false, CV.dv, getI, Int.cast_ofNat_Int, fldD, getK, if_true, if_false, ite_true, ite_false, reduceIte, Int.reduceLE, Int.reduceLT, Int.reduceToNat, Option.bind, tb0, tb1, tb2, dx0, b_law_taken, hr, m0, d1, d7, hl, mu]
    · have hx : ∃ x, L2.atI l (i + 1 - 1) = some x := by
        rw [atI_lt _ _ (by omega) (by omega)]
        exact ⟨_, List.getElem?_eq_getElem (by omega)⟩
      obtain ⟨x, hx⟩ := hx
      have z := @fmod_rng (s * 48271 + x + 11) 2147483647 (by decide)
      by_cases hb : (1000000000000000000 : Int) ≤ x
      · refine ⟨x.fmod m, .lst [.scr l, .int (i + 1), .int ((s * 48271 + x + 11).fmod 2147483647), .int (x.fdiv m)], ?_, ⟨_, _, _, _, rfl, by omega, by omega, by omega⟩, fmod_rng (by omega)⟩
        simp only [dz0, dz1, dz2, dz3, dz4, dz5, dz6, dz7, Option.isNone_none, Option.isNone_some, Int.reduceSub, Int.reduceAdd, ne_eq, Int.reduceEq, Int.reduceNe, low, lows, putD, List.mem_cons, List.not_mem_nil, or_self, or_false, false_or, not_false_eq_true, Bool.and_self, Bool.true_and, Bool.and_true, Bool.false_and, Bool.and_false, Bool.or_false, Bool.or_true, Bool.false_or, Bool.true_or, Nat.reduceLeDiff, Nat.reduceLT, String.reduceEq, List.map_cons, List.map_nil, List.length_cons, List.length_nil, List.replicate, List.cons_append, List.nil_append, List.getElem?_cons_succ, List.getElem?_cons_zero, List.set_cons_succ, List.set_cons_zero, flat, lenG, binD, cmpD, getKD, isD, optB, id, decide_true, decide_false, Nat.reduceAdd, Nat.reduceSub, Bool.not_true, Bool.not_false, CV.dv, getI, Int.cast_ofNat_Int, fldD, getK, if_true, if_false, ite_true, ite_false, reduceIte, Int.reduceLE, Int.reduceLT, Int.reduceToNat, Option.bind, tb0, tb1, tb2, dx0, b_law_taken, hr, m0, d1, hl, mu, getS_some hx, hb, pow18, Int.reducePow]
      · refine ⟨x.fmod m, .lst [.scr l, .int (i + 1), .int ((s * 48271 + x + 11).fmod 2147483647), .int r], ?_, ⟨_, _, _, _, rfl, by omega, by omega, by omega⟩, fmod_rng (by omega)⟩
        simp only [dz0, dz1, dz2, dz3, dz4, dz5, dz6, dz7, Option.isNone_none, Option.isNone_some, Int.reduceSub, Int.reduceAdd, ne_eq, Int.reduceEq, Int.reduceNe, low, lows, putD, List.mem_cons, List.not_mem_nil, or_self, or_false, false_or, not_false_eq_true, Bool.and_self, Bool.true_and, Bool.and_true, Bool.false_and, Bool.and_false, Bool.or_false, Bool.or_true, Bool.false_or, Bool.true_or, Nat.reduceLeDiff, Nat.reduceLT, String.reduceEq, List.map_cons, List.map_nil, List.length_cons, List.length_nil, List.replicate, List.cons_append, List.nil_append, List.getElem?_cons_succ, List.getElem?_cons_zero, List.set_cons_succ, List.set_cons_zero, flat, lenG, binD, cmpD, getKD, isD, optB, id, decide_true, decide_false, Nat.reduceAdd, Nat.reduceSub, Bool.not_true, Bool.not_false, CV.dv, getI, Int.cast_ofNat_Int, fldD, getK, if_true, if_false, ite_true, ite_false, reduceIte, Int.reduceLE, Int.reduceLT, Int.reduceToNat, Option.bind, tb0, tb1, tb2, dx0, b_law_taken, hr, m0, d1, hl, mu, getS_some hx, hb, pow18, Int.reducePow]
theorem q_law_pick (n : Nat) (c : MO) (hc : RowOk c) (S0 : Sto) (ds : List D) (h1 : ds ≠ []) (h2 : ds.length < 1000) : ∃ d c', L.phi (n + 2) i_law_pick [.mr 1, .lst ds] (.tab :: c :: S0) = .ok d (.tab :: c' :: S0) ∧ RowOk c' ∧ d ∈ ds := by
  have hl : 0 < ds.length := List.length_pos_iff.mpr h1
  obtain ⟨t, c', e, hc', t1, t2⟩ := q_law_taken n c hc S0 ds.length (by omega) ⟨by omega, by omega⟩
  have hx : L2.atI ds t = some (ds[t.toNat]'(by omega)) := by
    rw [atI_lt _ _ t1 t2]
    exact List.getElem?_eq_getElem (by omega)
  refine ⟨ds[t.toNat]'(by omega), c', ?_, hc', List.getElem_mem (by omega)⟩
  rw [p_law_pick]
  simp only [dz0, dz1, dz2, dz3, dz4, dz5, dz6, dz7, Option.isNone_none, Option.isNone_some, Int.reduceSub, Int.reduceAdd, ne_eq, Int.reduceEq, Int.reduceNe, low, lows, putD, List.mem_cons, List.not_mem_nil, or_self, or_false, false_or, not_false_eq_true, Bool.and_self, Bool.true_and, Bool.and_true, Bool.false_and, Bool.and_false, Bool.or_false, Bool.or_true, Bool.false_or, Bool.true_or, Nat.reduceLeDiff, Nat.reduceLT, String.reduceEq, List.map_cons, List.map_nil, List.length_cons, List.length_nil, List.replicate, List.cons_append, List.nil_append, List.getElem?_cons_succ, List.getElem?_cons_zero, List.set_cons_succ, List.set_cons_zero, flat, lenG, binD, cmpD, getKD, isD, optB, id, decide_true, decide_false, Nat.reduceAdd, Nat.reduceSub, Bool.not_true, Bool.not_false, CV.dv, getI, Int.cast_ofNat_Int, fldD, getK, if_true, if_false, ite_true, ite_false, reduceIte, Int.reduceLE, Int.reduceLT, Int.reduceToNat, Option.bind, tb0, tb1, tb2, dx0, b_law_pick, e, hx]
end K08

set_option Elab.async false
set_option linter.all false
set_option maxRecDepth 100000
set_option maxHeartbeats 2000000
namespace K08
open PySem (Str)
open Dz
theorem ndS : decide ([("symmetric" : Str), "twos", "unsigned"]).Nodup = true := by decide +kernel
theorem ndQ : decide ([("zero" : Str), "floor", "ceiling", "euclid", "even"]).Nodup = true := by decide +kernel
theorem powC_1 {k : Int} (h0 : 0 ≤ k) (h1 : k ≤ 64) : powC 1 k = true := by
  unfold powC
  rw [decide_eq_true h0, decide_eq_true (show k ≤ 1000000 by omega)]
  rfl
theorem q_law_low (n : Nat) (f : Fm) (h : f.ok) (S : Sto) : L.phi (n + 1) i_law_low [f.D] S = .ok (.int f.lo) S := by
  rw [p_law_low]
  have h1 := h.w1
  have h2 := h.w2
  have c := @powC_1 (f.w - 1) (by omega) (by omega)
  unfold Fm.D Fm.lo half
  rcases h.s with e | e | e <;> simp only [dz0, dz1, dz2, dz3, dz4, dz5, dz6, dz7, Option.isNone_none, Option.isNone_some, Int.reduceSub, Int.reduceAdd, ne_eq, Int.reduceEq, Int.reduceNe, low, lows, putD, List.mem_cons, List.not_mem_nil, or_self, or_false, false_or, not_false_eq_true, Bool.and_self, Bool.true_and, Bool.and_true, Bool.false_and, Bool.and_false, Bool.or_false, Bool.or_true, Bool.false_or, Bool.true_or, Nat.reduceLeDiff, Nat.reduceLT, String.reduceEq, List.map_cons, List.map_nil, List.length_cons, List.length_nil, List.replicate, List.cons_append, List.nil_append, List.getElem?_cons_succ, List.getElem?_cons_zero, List.set_cons_succ, List.set_cons_zero, flat, lenG, binD, cmpD, getKD, isD, optB, id, decide_true, decide_false, Nat.reduceAdd, Nat.reduceSub, Bool.not_true, Bool.not_false, CV.dv, getI, Int.cast_ofNat_Int, fldD, getK, if_true, if_false, ite_true, ite_false, reduceIte, Int.reduceLE, Int.reduceLT, Int.reduceToNat, Option.bind, tb0, tb1, tb2, b_law_low, e, c, ndS, List.isEmpty_cons, Int.one_mul]
theorem q_law_high (n : Nat) (f : Fm) (h : f.ok) (S : Sto) : L.phi (n + 1) i_law_high [f.D] S = .ok (.int f.hi) S := by
  rw [p_law_high]
  have h1 := h.w1
  have h2 := h.w2
  have c := @powC_1 (f.w - 1) (by omega) (by omega)
  have c0 := @powC_1 f.w (by omega) (by omega)
  unfold Fm.D Fm.hi half
  rcases h.s with e | e | e <;> simp only [dz0, dz1, dz2, dz3, dz4, dz5, dz6, dz7, Option.isNone_none, Option.isNone_some, Int.reduceSub, Int.reduceAdd, ne_eq, Int.reduceEq, Int.reduceNe, low, lows, putD, List.mem_cons, List.not_mem_nil, or_self, or_false, false_or, not_false_eq_true, Bool.and_self, Bool.true_and, Bool.and_true, Bool.false_and, Bool.and_false, Bool.or_false, Bool.or_true, Bool.false_or, Bool.true_or, Nat.reduceLeDiff, Nat.reduceLT, String.reduceEq, List.map_cons, List.map_nil, List.length_cons, List.length_nil, List.replicate, List.cons_append, List.nil_append, List.getElem?_cons_succ, List.getElem?_cons_zero, List.set_cons_succ, List.set_cons_zero, flat, lenG, binD, cmpD, getKD, isD, optB, id, decide_true, decide_false, Nat.reduceAdd, Nat.reduceSub, Bool.not_true, Bool.not_false, CV.dv, getI, Int.cast_ofNat_Int, fldD, getK, if_true, if_false, ite_true, ite_false, reduceIte, Int.reduceLE, Int.reduceLT, Int.reduceToNat, Option.bind, tb0, tb1, tb2, b_law_high, e, c, c0, Int.one_mul, Int.sub_zero, Bool.false_eq_true]
end K08

set_option Elab.async false
set_option linter.all false
set_option maxRecDepth 100000
set_option maxHeartbeats 2000000
namespace K08
open PySem (Str)
open Dz
def rulesL : List Str := ["sum grouping", "product grouping", "distribution", "double negation", "difference", "add back", "division", "remainder range", "negated quotient", "shift", "absolute value", "order by difference", "monotone sum", "average", "square", "zero product", "cancellation"]
theorem q_law_rules (n : Nat) (S : Sto) : L.phi (n + 1) i_law_rules [] S = .ok (.lst (rulesL.map D.str)) S := by
  rw [p_law_rules]
  simp only [dz0, dz1, dz2, dz3, dz4, dz5, dz6, dz7, Option.isNone_none, Option.isNone_some, Int.reduceSub, Int.reduceAdd, ne_eq, Int.reduceEq, Int.reduceNe, low, lows, putD, List.mem_cons, List.not_mem_nil, or_self, or_false, false_or, not_false_eq_true, Bool.and_self, Bool.true_and, Bool.and_true, Bool.false_and, Bool.and_false, Bool.or_false, Bool.or_true, Bool.false_or, Bool.true_or, Nat.reduceLeDiff, Nat.reduceLT, String.reduceEq, List.map_cons, List.map_nil, List.length_cons, List.length_nil, List.replicate, List.cons_append, List.nil_append, List.getElem?_cons_succ, List.getElem?_cons_zero, List.set_cons_succ, List.set_cons_zero, flat, lenG, binD, cmpD, getKD, isD, optB, id, decide_true, decide_false, Nat.reduceAdd, Nat.reduceSub, Bool.not_true, Bool.not_false, CV.dv, getI, Int.cast_ofNat_Int, fldD, getK, if_true, if_false, ite_true, ite_false, reduceIte, Int.reduceLE, Int.reduceLT, Int.reduceToNat, Option.bind, tb0, tb1, tb2, b_law_rules, rulesL]
theorem inM3t {r : Str} (hr : Triple r) : inD (.str r) (.lst [.str "sum grouping", .str "product grouping", .str "distribution", .str "monotone sum", .str "cancellation"]) = some true := by rcases hr with e | e | e | e | e <;> rw [e] <;> decide +kernel
theorem inM3f {r : Str} (hr : Single r ∨ Divided r ∨ Pair r) : inD (.str r) (.lst [.str "sum grouping", .str "product grouping", .str "distribution", .str "monotone sum", .str "cancellation"]) = some false := by
  rcases hr with hr | hr | hr
  · rcases hr with e | e | e | e <;> rw [e] <;> decide +kernel
  · rcases hr with e | e | e <;> rw [e] <;> decide +kernel
  · rcases hr with e | e | e | e | e <;> rw [e] <;> decide +kernel
theorem inM1t {r : Str} (hr : Single r) : inD (.str r) (.lst [.str "double negation", .str "shift", .str "absolute value", .str "square"]) = some true := by rcases hr with e | e | e | e <;> rw [e] <;> decide +kernel
theorem inM1f {r : Str} (hr : Divided r ∨ Pair r) : inD (.str r) (.lst [.str "double negation", .str "shift", .str "absolute value", .str "square"]) = some false := by
  rcases hr with hr | hr
  · rcases hr with e | e | e <;> rw [e] <;> decide +kernel
  · rcases hr with e | e | e | e | e <;> rw [e] <;> decide +kernel
theorem q_law_many (n : Nat) (r : Str) (hr : RuleOk r) (S : Sto) : L.phi (n + 1) i_law_many [.str r] S = .ok (.int (arR r)) S := by
  rw [p_law_many]
  rcases hr with hr | hr | hr | hr
  · rw [ar1 hr]; simp only [dz0, dz1, dz2, dz3, dz4, dz5, dz6, dz7, Option.isNone_none, Option.isNone_some, Int.reduceSub, Int.reduceAdd, ne_eq, Int.reduceEq, Int.reduceNe, low, lows, putD, List.mem_cons, List.not_mem_nil, or_self, or_false, false_or, not_false_eq_true, Bool.and_self, Bool.true_and, Bool.and_true, Bool.false_and, Bool.and_false, Bool.or_false, Bool.or_true, Bool.false_or, Bool.true_or, Nat.reduceLeDiff, Nat.reduceLT, String.reduceEq, List.map_cons, List.map_nil, List.length_cons, List.length_nil, List.replicate, List.cons_append, List.nil_append, List.getElem?_cons_succ, List.getElem?_cons_zero, List.set_cons_succ, List.set_cons_zero, flat, lenG, binD, cmpD, getKD, isD, optB, id, decide_true, decide_false, Nat.reduceAdd, Nat.reduceSub, Bool.not_true, Bool.not_false, CV.dv, getI, Int.cast_ofNat_Int, fldD, getK, if_true, if_false, ite_true, ite_false, reduceIte, Int.reduceLE, Int.reduceLT, Int.reduceToNat, Option.bind, tb0, tb1, tb2, b_law_many, inM3f (.inl hr), inM1t hr]
  · rw [ar2d hr]; simp only [dz0, dz1, dz2, dz3, dz4, dz5, dz6, dz7, Option.isNone_none, Option.isNone_some, Int.reduceSub, Int.reduceAdd, ne_eq, Int.reduceEq, Int.reduceNe, low, lows, putD, List.mem_cons, List.not_mem_nil, or_self, or_false, false_or, not_false_eq_true, Bool.and_self, Bool.true_and, Bool.and_true, Bool.false_and, Bool.and_false, Bool.or_false, Bool.or_true, Bool.false_or, Bool.true_or, Nat.reduceLeDiff, Nat.reduceLT, String.reduceEq, List.map_cons, List.map_nil, List.length_cons, List.length_nil, List.replicate, List.cons_append, List.nil_append, List.getElem?_cons_succ, List.getElem?_cons_zero, List.set_cons_succ, List.set_cons_zero, flat, lenG, binD, cmpD, getKD, isD, optB, id, decide_true, decide_false, Nat.reduceAdd, Nat.reduceSub, Bool.not_true, Bool.not_false, CV.dv, getI, Int.cast_ofNat_Int, fldD, getK, if_true, if_false, ite_true, ite_false, reduceIte, Int.reduceLE, Int.reduceLT, Int.reduceToNat, Option.bind, tb0, tb1, tb2, b_law_many, inM3f (.inr (.inl hr)), inM1f (.inl hr)]
  · rw [ar2p hr]; simp only [dz0, dz1, dz2, dz3, dz4, dz5, dz6, dz7, Option.isNone_none, Option.isNone_some, Int.reduceSub, Int.reduceAdd, ne_eq, Int.reduceEq, Int.reduceNe, low, lows, putD, List.mem_cons, List.not_mem_nil, or_self, or_false, false_or, not_false_eq_true, Bool.and_self, Bool.true_and, Bool.and_true, Bool.false_and, Bool.and_false, Bool.or_false, Bool.or_true, Bool.false_or, Bool.true_or, Nat.reduceLeDiff, Nat.reduceLT, String.reduceEq, List.map_cons, List.map_nil, List.length_cons, List.length_nil, List.replicate, List.cons_append, List.nil_append, List.getElem?_cons_succ, List.getElem?_cons_zero, List.set_cons_succ, List.set_cons_zero, flat, lenG, binD, cmpD, getKD, isD, optB, id, decide_true, decide_false, Nat.reduceAdd, Nat.reduceSub, Bool.not_true, Bool.not_false, CV.dv, getI, Int.cast_ofNat_Int, fldD, getK, if_true, if_false, ite_true, ite_false, reduceIte, Int.reduceLE, Int.reduceLT, Int.reduceToNat, Option.bind, tb0, tb1, tb2, b_law_many, inM3f (.inr (.inr hr)), inM1f (.inr hr)]
  · rw [ar3 hr]; simp only [dz0, dz1, dz2, dz3, dz4, dz5, dz6, dz7, Option.isNone_none, Option.isNone_some, Int.reduceSub, Int.reduceAdd, ne_eq, Int.reduceEq, Int.reduceNe, low, lows, putD, List.mem_cons, List.not_mem_nil, or_self, or_false, false_or, not_false_eq_true, Bool.and_self, Bool.true_and, Bool.and_true, Bool.false_and, Bool.and_false, Bool.or_false, Bool.or_true, Bool.false_or, Bool.true_or, Nat.reduceLeDiff, Nat.reduceLT, String.reduceEq, List.map_cons, List.map_nil, List.length_cons, List.length_nil, List.replicate, List.cons_append, List.nil_append, List.getElem?_cons_succ, List.getElem?_cons_zero, List.set_cons_succ, List.set_cons_zero, flat, lenG, binD, cmpD, getKD, isD, optB, id, decide_true, decide_false, Nat.reduceAdd, Nat.reduceSub, Bool.not_true, Bool.not_false, CV.dv, getI, Int.cast_ofNat_Int, fldD, getK, if_true, if_false, ite_true, ite_false, reduceIte, Int.reduceLE, Int.reduceLT, Int.reduceToNat, Option.bind, tb0, tb1, tb2, b_law_many, inM3t hr]
theorem rule_mem {r : Str} (h : r ∈ rulesL) : RuleOk r := by
  unfold rulesL at h
  simp only [List.mem_cons, List.not_mem_nil, or_false] at h
  unfold RuleOk Single Divided Pair Triple
  rcases h with e | e | e | e | e | e | e | e | e | e | e | e | e | e | e | e | e <;> simp only [e, true_or, or_true]
end K08

set_option Elab.async false
set_option linter.all false
set_option maxRecDepth 100000
set_option maxHeartbeats 2000000
namespace K08
open PySem (Str)
open Dz
theorem q_law_formatW (n : Nat) (c : MO) (hc : RowOk c) (S0 : Sto) (most : Int) (h1 : 4 ≤ most) (h2 : most ≤ 64) : ∃ f c', L.phi (n + 3) i_law_format [.mr 1, .int most] (.tab :: c :: S0) = .ok (Fm.D f) (.tab :: c' :: S0) ∧ RowOk c' ∧ Fm.ok f ∧ f.w ≤ most := by
  obtain ⟨t, c1, e1, hc1, t1, t2⟩ := q_law_taken (n + 1) c hc S0 61 (by decide) ⟨by decide, by decide⟩
  obtain ⟨d, c2, e2, hc2, hd⟩ := q_law_pick n c1 hc1 S0 [.int 4, .int 5, .int 5, .int 6, .int 7, .int 8, .int 13, .int 64, .int (4 + t)] (by simp) (by simp)
  obtain ⟨s, c3, e3, hc3, hs⟩ := q_law_pick n c2 hc2 S0 [.str "symmetric", .str "twos", .str "unsigned"] (by simp) (by simp)
  obtain ⟨o, c4, e4, hc4, ho⟩ := q_law_pick n c3 hc3 S0 [.str "saturate", .str "trap", .str "wrap"] (by simp) (by simp)
  obtain ⟨q, c5, e5, hc5, hq⟩ := q_law_pick n c4 hc4 S0 [.str "ceiling", .str "euclid", .str "even", .str "floor", .str "zero"] (by simp) (by simp)
  have hw : ∃ w, d = .int w ∧ 4 ≤ w ∧ w ≤ 64 := by
    simp only [List.mem_cons, List.not_mem_nil, or_false] at hd
    rcases hd with e | e | e | e | e | e | e | e | e <;> exact ⟨_, e, by omega, by omega⟩
  obtain ⟨w, rfl, w1, w2⟩ := hw
  have hs2 : ∃ x : Str, s = .str x ∧ (x = "symmetric" ∨ x = "twos" ∨ x = "unsigned") := by
    simp only [List.mem_cons, List.not_mem_nil, or_false] at hs
    rcases hs with e | e | e <;> exact ⟨_, e, by simp⟩
  obtain ⟨s, rfl, hs2⟩ := hs2
  have ho2 : ∃ x : Str, o = .str x ∧ (x = "saturate" ∨ x = "trap" ∨ x = "wrap") := by
    simp only [List.mem_cons, List.not_mem_nil, or_false] at ho
    rcases ho with e | e | e <;> exact ⟨_, e, by simp⟩
  obtain ⟨o, rfl, ho2⟩ := ho2
  have hq2 : ∃ x : Str, q = .str x ∧ (x = "ceiling" ∨ x = "euclid" ∨ x = "even" ∨ x = "floor" ∨ x = "zero") := by
    simp only [List.mem_cons, List.not_mem_nil, or_false] at hq
    rcases hq with e | e | e | e | e <;> exact ⟨_, e, by simp⟩
  obtain ⟨q, rfl, hq2⟩ := hq2
  refine ⟨⟨if w < most then w else most, s, o, q⟩, c5, ?_, hc5, ⟨by simp only; split <;> omega, by simp only; split <;> omega, hs2, ho2, hq2⟩, by simp only; split <;> omega⟩
  rw [p_law_format]
  unfold Fm.D
  simp only [dz0, dz1, dz2, dz3, dz4, dz5, dz6, dz7, Option.isNone_none, Option.isNone_some, Int.reduceSub, Int.reduceAdd, ne_eq, Int.reduceEq, Int.reduceNe, low, lows, putD, List.mem_cons, List.not_mem_nil, or_self, or_false, false_or, not_false_eq_true, Bool.and_self, Bool.true_and, Bool.and_true, Bool.false_and, Bool.and_false, Bool.or_false, Bool.or_true, Bool.false_or, Bool.true_or, Nat.reduceLeDiff, Nat.reduceLT, String.reduceEq, List.map_cons, List.map_nil, List.length_cons, List.length_nil, List.replicate, List.cons_append, List.nil_append, List.getElem?_cons_succ, List.getElem?_cons_zero, List.set_cons_succ, List.set_cons_zero, flat, lenG, binD, cmpD, getKD, isD, optB, id, decide_true, decide_false, Nat.reduceAdd, Nat.reduceSub, Bool.not_true, Bool.not_false, CV.dv, getI, Int.cast_ofNat_Int, fldD, getK, if_true, if_false, ite_true, ite_false, reduceIte, Int.reduceLE, Int.reduceLT, Int.reduceToNat, Option.bind, tb0, tb1, tb2, dx0, b_law_format, e1, e2, e3, e4, e5]
theorem q_law_format (n : Nat) (c : MO) (hc : RowOk c) (S0 : Sto) (most : Int) (h1 : 4 ≤ most) (h2 : most ≤ 64) : ∃ f c', L.phi (n + 3) i_law_format [.mr 1, .int most] (.tab :: c :: S0) = .ok (Fm.D f) (.tab :: c' :: S0) ∧ RowOk c' ∧ Fm.ok f := by
  obtain ⟨f, c', h, hc', hf, _⟩ := q_law_formatW n c hc S0 most h1 h2
  exact ⟨f, c', h, hc', hf⟩
theorem q_law_number (n : Nat) (f : Fm) (h : f.ok) (c : MO) (hc : RowOk c) (S0 : Sto) : ∃ x c', L.phi (n + 3) i_law_number [.mr 1, f.D] (.tab :: c :: S0) = .ok (.int x) (.tab :: c' :: S0) ∧ RowOk c' ∧ InR f x := by
  have b := h.bounds
  have d2 : divC 2 = true := by decide
  have d3 : divC 3 = true := by decide
  have f2 : f.hi.fdiv 2 = f.hi / 2 := Int.fdiv_eq_ediv_of_nonneg _ (by omega)
  have f3 : f.hi.fdiv 3 = f.hi / 3 := Int.fdiv_eq_ediv_of_nonneg _ (by omega)
  have gl := fun m S => q_law_low m f h S
  have gh := fun m S => q_law_high m f h S
  obtain ⟨t, c1, e1, hc1, t1, t2⟩ := q_law_taken (n + 1) c hc S0 (if (1000000000000000000 : Int) < f.hi - f.lo + 1 then 1000000000000000000 else f.hi - f.lo + 1) (by split <;> omega) ⟨by split <;> omega, by split <;> omega⟩
  obtain ⟨d, c2, e2, hc2, hd⟩ := q_law_pick n c1 hc1 S0 [.int f.lo, .int (f.lo + 1), .int f.hi, .int (f.hi - 1), .int 0, .int 1, .int 2, .int 3, .int (if (-1 : Int) > f.lo then -1 else f.lo), .int (if (-2 : Int) > f.lo then -2 else f.lo), .int (f.hi.fdiv 2), .int (f.hi.fdiv 2 + 1), .int (f.lo + f.hi.fdiv 3)] (by simp) (by simp)
  obtain ⟨u, c3, e3, hc3, u1, u2⟩ := q_law_taken (n + 1) c2 hc2 S0 (if (99 : Int) < f.hi + 1 then 99 else f.hi + 1) (by split <;> omega) ⟨by split <;> omega, by split <;> omega⟩
  have hw : ∃ w, d = .int w ∧ InR f w := by
    rw [f2, f3] at hd
    unfold InR
    simp only [List.mem_cons, List.not_mem_nil, or_false] at hd
    rcases hd with e | e | e | e | e | e | e | e | e | e | e | e | e <;> refine ⟨_, e, ?_, ?_⟩ <;> (try split) <;> omega
  obtain ⟨w, rfl, hw⟩ := hw
  have i2 : InR f (f.lo + t) := by unfold InR; split at t2 <;> omega
  have i3 : InR f u := by unfold InR; split at u2 <;> omega
  obtain ⟨z, c4, e4, hc4, hz⟩ := q_law_pick n c3 hc3 S0 [.int w, .int (f.lo + t), .int u] (by simp) (by simp)
  have hx : ∃ x, z = .int x ∧ InR f x := by
    simp only [List.mem_cons, List.not_mem_nil, or_false] at hz
    rcases hz with e | e | e
    · exact ⟨_, e, hw⟩
    · exact ⟨_, e, i2⟩
    · exact ⟨_, e, i3⟩
  obtain ⟨x, rfl, hx⟩ := hx
  refine ⟨x, c4, ?_, hc4, hx⟩
  rw [p_law_number]
  simp only [dz0, dz1, dz2, dz3, dz4, dz5, dz6, dz7, Option.isNone_none, Option.isNone_some, Int.reduceSub, Int.reduceAdd, ne_eq, Int.reduceEq, Int.reduceNe, low, lows, putD, List.mem_cons, List.not_mem_nil, or_self, or_false, false_or, not_false_eq_true, Bool.and_self, Bool.true_and, Bool.and_true, Bool.false_and, Bool.and_false, Bool.or_false, Bool.or_true, Bool.false_or, Bool.true_or, Nat.reduceLeDiff, Nat.reduceLT, String.reduceEq, List.map_cons, List.map_nil, List.length_cons, List.length_nil, List.replicate, List.cons_append, List.nil_append, List.getElem?_cons_succ, List.getElem?_cons_zero, List.set_cons_succ, List.set_cons_zero, flat, lenG, binD, cmpD, getKD, isD, optB, id, decide_true, decide_false, Nat.reduceAdd, Nat.reduceSub, Bool.not_true, Bool.not_false, CV.dv, getI, Int.cast_ofNat_Int, fldD, getK, if_true, if_false, ite_true, ite_false, reduceIte, Int.reduceLE, Int.reduceLT, Int.reduceToNat, Option.bind, tb0, tb1, tb2, dx0, b_law_number, gl, gh, d2, d3, pow18, Int.reducePow, e1, e2, e3, e4]
end K08

set_option Elab.async false
set_option linter.all false
set_option maxRecDepth 100000
set_option maxHeartbeats 2000000
namespace K08
open PySem (Str)
open Dz
theorem q_need_number (n : Nat) (f : Fm) (h : f.ok) (a : Int) (ia : InR f a) (S : Sto) : L.phi (n + 4) i_need_number [f.D, .int a] S = .ok .non S := by
  rw [p_need_number]
  have g := fun m S => q_has_number m f h a S
  have i1 := ia.1
  have i2 := ia.2
  unfold Fm.D at g ⊢
  simp only [dz0, dz1, dz2, dz3, dz4, dz5, dz6, dz7, Option.isNone_none, Option.isNone_some, Int.reduceSub, Int.reduceAdd, ne_eq, Int.reduceEq, Int.reduceNe, low, lows, putD, List.mem_cons, List.not_mem_nil, or_self, or_false, false_or, not_false_eq_true, Bool.and_self, Bool.true_and, Bool.and_true, Bool.false_and, Bool.and_false, Bool.or_false, Bool.or_true, Bool.false_or, Bool.true_or, Nat.reduceLeDiff, Nat.reduceLT, String.reduceEq, List.map_cons, List.map_nil, List.length_cons, List.length_nil, List.replicate, List.cons_append, List.nil_append, List.getElem?_cons_succ, List.getElem?_cons_zero, List.set_cons_succ, List.set_cons_zero, flat, lenG, binD, cmpD, getKD, isD, optB, id, decide_true, decide_false, Nat.reduceAdd, Nat.reduceSub, Bool.not_true, Bool.not_false, CV.dv, getI, Int.cast_ofNat_Int, fldD, getK, if_true, if_false, ite_true, ite_false, reduceIte, Int.reduceLE, Int.reduceLT, Int.reduceToNat, Option.bind, tb0, tb1, tb2, b_need_number, g, i1, i2]
end K08

set_option Elab.async false
set_option linter.all false
set_option maxRecDepth 100000
set_option maxHeartbeats 2000000
namespace K08
open PySem (Str)
open Dz
def oddF (f : Fm) : List D := [.non, .tup [], .lst [.int f.w, .str f.s, .str f.o, .str f.d], .tup [.int f.w, .str f.s, .str f.o], .tup [.int f.w, .str f.s, .str f.o, .str f.d, .int 0], .tup [.int 3, .str f.s, .str f.o, .str f.d],
  .tup [.int 65, .str f.s, .str f.o, .str f.d], .tup [.bl true, .str f.s, .str f.o, .str f.d], .tup [.int 8, .str "Twos", .str f.o, .str f.d], .tup [.int 8, .str "twos", .str "wraps", .str "floor"], .tup [.int 8, .str "twos", .str "wrap", .str "down"],
  .tup [.int 8, .non, .str "wrap", .str "floor"], .tup [.str "8", .str "twos", .str "wrap", .str "floor"], .str "format", .int 8]
theorem r_lowest (n : Nat) (f : Fm) (c : MO) (d : D) (hd : d ∈ oddF f) : L.phi (n + 10) i_lowest [d] [.tab, c] = .exc 1 [.tab, c] := by
  unfold oddF at hd
  simp only [List.mem_cons, List.not_mem_nil, or_false] at hd
  rcases hd with e | e | e | e | e | e | e | e | e | e | e | e | e | e | e <;> subst e <;> kernel_rfl
theorem r_highest (n : Nat) (f : Fm) (c : MO) (d : D) (hd : d ∈ oddF f) : L.phi (n + 10) i_highest [d] [.tab, c] = .exc 1 [.tab, c] := by
  unfold oddF at hd
  simp only [List.mem_cons, List.not_mem_nil, or_false] at hd
  rcases hd with e | e | e | e | e | e | e | e | e | e | e | e | e | e | e <;> subst e <;> kernel_rfl
theorem r_count_numbers (n : Nat) (f : Fm) (c : MO) (d : D) (hd : d ∈ oddF f) : L.phi (n + 10) i_count_numbers [d] [.tab, c] = .exc 1 [.tab, c] := by
  unfold oddF at hd
  simp only [List.mem_cons, List.not_mem_nil, or_false] at hd
  rcases hd with e | e | e | e | e | e | e | e | e | e | e | e | e | e | e <;> subst e <;> kernel_rfl
theorem r_is_number (n : Nat) (f : Fm) (c : MO) (d : D) (hd : d ∈ oddF f) : L.phi (n + 10) i_is_number [d, .int 0] [.tab, c] = .exc 1 [.tab, c] := by
  unfold oddF at hd
  simp only [List.mem_cons, List.not_mem_nil, or_false] at hd
  rcases hd with e | e | e | e | e | e | e | e | e | e | e | e | e | e | e <;> subst e <;> kernel_rfl
theorem r_fit (n : Nat) (f : Fm) (c : MO) (d : D) (hd : d ∈ oddF f) : L.phi (n + 10) i_fit [d, .non] [.tab, c] = .exc 1 [.tab, c] := by
  unfold oddF at hd
  simp only [List.mem_cons, List.not_mem_nil, or_false] at hd
  rcases hd with e | e | e | e | e | e | e | e | e | e | e | e | e | e | e <;> subst e <;> kernel_rfl
theorem r_add (n : Nat) (f : Fm) (c : MO) (d : D) (hd : d ∈ oddF f) : L.phi (n + 10) i_add [d, .non, .non] [.tab, c] = .exc 1 [.tab, c] := by
  unfold oddF at hd
  simp only [List.mem_cons, List.not_mem_nil, or_false] at hd
  rcases hd with e | e | e | e | e | e | e | e | e | e | e | e | e | e | e <;> subst e <;> kernel_rfl
theorem r_subtract (n : Nat) (f : Fm) (c : MO) (d : D) (hd : d ∈ oddF f) : L.phi (n + 10) i_subtract [d, .int 0, .int 0] [.tab, c] = .exc 1 [.tab, c] := by
  unfold oddF at hd
  simp only [List.mem_cons, List.not_mem_nil, or_false] at hd
  rcases hd with e | e | e | e | e | e | e | e | e | e | e | e | e | e | e <;> subst e <;> kernel_rfl
theorem r_multiply (n : Nat) (f : Fm) (c : MO) (d : D) (hd : d ∈ oddF f) : L.phi (n + 10) i_multiply [d, .int 0, .int 0] [.tab, c] = .exc 1 [.tab, c] := by
  unfold oddF at hd
  simp only [List.mem_cons, List.not_mem_nil, or_false] at hd
  rcases hd with e | e | e | e | e | e | e | e | e | e | e | e | e | e | e <;> subst e <;> kernel_rfl
theorem r_negate (n : Nat) (f : Fm) (c : MO) (d : D) (hd : d ∈ oddF f) : L.phi (n + 10) i_negate [d, .non] [.tab, c] = .exc 1 [.tab, c] := by
  unfold oddF at hd
  simp only [List.mem_cons, List.not_mem_nil, or_false] at hd
  rcases hd with e | e | e | e | e | e | e | e | e | e | e | e | e | e | e <;> subst e <;> kernel_rfl
theorem r_divide (n : Nat) (f : Fm) (c : MO) (d : D) (hd : d ∈ oddF f) : L.phi (n + 10) i_divide [d, .int 0, .int 0] [.tab, c] = .exc 1 [.tab, c] := by
  unfold oddF at hd
  simp only [List.mem_cons, List.not_mem_nil, or_false] at hd
  rcases hd with e | e | e | e | e | e | e | e | e | e | e | e | e | e | e <;> subst e <;> kernel_rfl
theorem r_remainder (n : Nat) (f : Fm) (c : MO) (d : D) (hd : d ∈ oddF f) : L.phi (n + 10) i_remainder [d, .int 0, .int 0] [.tab, c] = .exc 1 [.tab, c] := by
  unfold oddF at hd
  simp only [List.mem_cons, List.not_mem_nil, or_false] at hd
  rcases hd with e | e | e | e | e | e | e | e | e | e | e | e | e | e | e <;> subst e <;> kernel_rfl
theorem r_holds_for (n : Nat) (f : Fm) (c : MO) (d : D) (hd : d ∈ oddF f) : L.phi (n + 10) i_holds_for [d, .non, .non] [.tab, c] = .exc 1 [.tab, c] := by
  unfold oddF at hd
  simp only [List.mem_cons, List.not_mem_nil, or_false] at hd
  rcases hd with e | e | e | e | e | e | e | e | e | e | e | e | e | e | e <;> subst e <;> kernel_rfl
theorem r_holds (n : Nat) (f : Fm) (c : MO) (d : D) (hd : d ∈ oddF f) : L.phi (n + 10) i_holds [d, .non] [.tab, c] = .exc 1 [.tab, c] := by
  unfold oddF at hd
  simp only [List.mem_cons, List.not_mem_nil, or_false] at hd
  rcases hd with e | e | e | e | e | e | e | e | e | e | e | e | e | e | e <;> subst e <;> kernel_rfl
theorem r_counterexample (n : Nat) (f : Fm) (c : MO) (d : D) (hd : d ∈ oddF f) : L.phi (n + 10) i_counterexample [d, .non] [.tab, c] = .exc 1 [.tab, c] := by
  unfold oddF at hd
  simp only [List.mem_cons, List.not_mem_nil, or_false] at hd
  rcases hd with e | e | e | e | e | e | e | e | e | e | e | e | e | e | e <;> subst e <;> kernel_rfl
theorem r_profile (n : Nat) (f : Fm) (c : MO) (d : D) (hd : d ∈ oddF f) : L.phi (n + 10) i_profile [d] [.tab, c] = .exc 1 [.tab, c] := by
  unfold oddF at hd
  simp only [List.mem_cons, List.not_mem_nil, or_false] at hd
  rcases hd with e | e | e | e | e | e | e | e | e | e | e | e | e | e | e <;> subst e <;> kernel_rfl
theorem r_write_format (n : Nat) (f : Fm) (c : MO) (d : D) (hd : d ∈ oddF f) : L.phi (n + 10) i_write_format [d] [.tab, c] = .exc 1 [.tab, c] := by
  unfold oddF at hd
  simp only [List.mem_cons, List.not_mem_nil, or_false] at hd
  rcases hd with e | e | e | e | e | e | e | e | e | e | e | e | e | e | e <;> subst e <;> kernel_rfl
theorem r_is_format (n : Nat) (f : Fm) (c : MO) (d : D) (hd : d ∈ oddF f) : L.phi (n + 10) i_is_format [d] [.tab, c] = .ok (.bl false) [.tab, c] := by
  unfold oddF at hd
  simp only [List.mem_cons, List.not_mem_nil, or_false] at hd
  rcases hd with e | e | e | e | e | e | e | e | e | e | e | e | e | e | e <;> subst e <;> kernel_rfl
end K08

set_option Elab.async false
set_option linter.all false
set_option maxRecDepth 100000
set_option maxHeartbeats 2000000
namespace K08
open PySem (Str)
open Dz
/-- numbers refused -/
def oddN (f : Fm) : List D := [.non, .int (f.hi + 1), .int (f.lo - 1), .bl true, .str "1", .tup [.int 1], .lst [.int 1], .str "trap"]
theorem isin_bad (m : Nat) (c : MO) (l h : Int) (d : D) (hd : d ∈ ([.non, .bl true, .str "1", .tup [.int 1], .lst [.int 1], .str "trap", .str "0", .tup [.int 0]] : List D)) : L.phi (m + 2) i_is_in [d, .int l, .int h] [.tab, c] = .ok (.bl false) [.tab, c] := by
  simp only [List.mem_cons, List.not_mem_nil, or_false] at hd
  rcases hd with e | e | e | e | e | e | e | e <;> subst e <;> kernel_rfl
theorem has_bad0 (m : Nat) (f : Fm) (h : f.ok) (c : MO) (d : D) (hd : d ∈ ([.non, .bl true, .str "1", .tup [.int 1], .lst [.int 1], .str "trap", .str "0", .tup [.int 0]] : List D)) : L.phi (m + 3) i_has_number [f.D, d] [.tab, c] = .ok (.bl false) [.tab, c] := by
  have g1 := fun m S => q_low_of m f h S
  have g2 := fun m S => q_high_of m f h S
  have g3 := fun m l h => isin_bad m c l h d hd
  rw [p_has_number]
  unfold Fm.D at g1 g2 ⊢
  simp only [dz0, dz1, dz2, dz3, dz4, dz5, dz6, dz7, Option.isNone_none, Option.isNone_some, Int.reduceSub, Int.reduceAdd, ne_eq, Int.reduceEq, Int.reduceNe, low, lows, putD, List.mem_cons, List.not_mem_nil, or_self, or_false, false_or, not_false_eq_true, Bool.and_self, Bool.true_and, Bool.and_true, Bool.false_and, Bool.and_false, Bool.or_false, Bool.or_true, Bool.false_or, Bool.true_or, Nat.reduceLeDiff, Nat.reduceLT, String.reduceEq, List.map_cons, List.map_nil, List.length_cons, List.length_nil, List.replicate, List.cons_append, List.nil_append, List.getElem?_cons_succ, List.getElem?_cons_zero, List.set_cons_succ, List.set_cons_zero, flat, lenG, binD, cmpD, getKD, isD, optB, id, decide_true, decide_false, Nat.reduceAdd, Nat.reduceSub, Bool.not_true, Bool.not_false, CV.dv, getI, Int.cast_ofNat_Int, fldD, getK, if_true, if_false, ite_true, ite_false, reduceIte, Int.reduceLE, Int.reduceLT, Int.reduceToNat, Option.bind, tb0, tb1, tb2, dx0, b_has_number, g1, g2, g3]
theorem has_hi (m : Nat) (f : Fm) (h : f.ok) (S : Sto) : L.phi (m + 3) i_has_number [f.D, .int (f.hi + 1)] S = .ok (.bl false) S := by
  have := q_has_number m f h (f.hi + 1) S
  rw [decide_eq_false (show ¬ f.hi + 1 ≤ f.hi by omega), Bool.and_false] at this
  exact this
theorem has_lo (m : Nat) (f : Fm) (h : f.ok) (S : Sto) : L.phi (m + 3) i_has_number [f.D, .int (f.lo - 1)] S = .ok (.bl false) S := by
  have := q_has_number m f h (f.lo - 1) S
  rw [decide_eq_false (show ¬ f.lo ≤ f.lo - 1 by omega), Bool.false_and] at this
  exact this
theorem has_bad (m : Nat) (f : Fm) (h : f.ok) (c : MO) (d : D) (hd : d ∈ oddN f) : L.phi (m + 3) i_has_number [f.D, d] [.tab, c] = .ok (.bl false) [.tab, c] := by
  unfold oddN at hd
  simp only [List.mem_cons, List.not_mem_nil, or_false] at hd
  rcases hd with e | e | e | e | e | e | e | e <;> subst e
  · exact has_bad0 m f h c _ (by simp)
  · exact has_hi m f h _
  · exact has_lo m f h _
  all_goals exact has_bad0 m f h c _ (by simp)
theorem has_ok (m : Nat) (f : Fm) (h : f.ok) (a : Int) (ia : InR f a) (S : Sto) : L.phi (m + 3) i_has_number [f.D, .int a] S = .ok (.bl true) S := by
  have := q_has_number m f h a S
  rw [decide_eq_true ia.1, decide_eq_true ia.2] at this
  exact this
section
variable (n : Nat) (f : Fm) (h : f.ok) (c : MO) (d : D) (hd : d ∈ oddN f)
include h hd
theorem need_bad : L.phi (n + 4) i_need_number [f.D, d] [.tab, c] = .exc 3 [.tab, c] := by
  have g := fun m => has_bad m f h c d hd
  rw [p_need_number]
  unfold Fm.D at g ⊢
  simp only [dz0, dz1, dz2, dz3, dz4, dz5, dz6, dz7, Option.isNone_none, Option.isNone_some, Int.reduceSub, Int.reduceAdd, ne_eq, Int.reduceEq, Int.reduceNe, low, lows, putD, List.mem_cons, List.not_mem_nil, or_self, or_false, false_or, not_false_eq_true, Bool.and_self, Bool.true_and, Bool.and_true, Bool.false_and, Bool.and_false, Bool.or_false, Bool.or_true, Bool.false_or, Bool.true_or, Nat.reduceLeDiff, Nat.reduceLT, String.reduceEq, List.map_cons, List.map_nil, List.length_cons, List.length_nil, List.replicate, List.cons_append, List.nil_append, List.getElem?_cons_succ, List.getElem?_cons_zero, List.set_cons_succ, List.set_cons_zero, flat, lenG, binD, cmpD, getKD, isD, optB, id, decide_true, decide_false, Nat.reduceAdd, Nat.reduceSub, Bool.not_true, Bool.not_false, CV.dv, getI, Int.cast_ofNat_Int, fldD, getK, if_true, if_false, ite_true, ite_false, reduceIte, Int.reduceLE, Int.reduceLT, Int.reduceToNat, Option.bind, tb0, tb1, tb2, dx0, b_need_number, g]
  rfl
theorem pair_bad1 (x : D) : L.phi (n + 5) i_need_pair [f.D, d, x] [.tab, c] = .exc 3 [.tab, c] := by
  have g1 := fun m S => q_need_format m f h S
  have g := fun m => need_bad m f h c d hd
  rw [p_need_pair]
  unfold Fm.D at g g1 ⊢
  simp only [dz0, dz1, dz2, dz3, dz4, dz5, dz6, dz7, Option.isNone_none, Option.isNone_some, Int.reduceSub, Int.reduceAdd, ne_eq, Int.reduceEq, Int.reduceNe, low, lows, putD, List.mem_cons, List.not_mem_nil, or_self, or_false, false_or, not_false_eq_true, Bool.and_self, Bool.true_and, Bool.and_true, Bool.false_and, Bool.and_false, Bool.or_false, Bool.or_true, Bool.false_or, Bool.true_or, Nat.reduceLeDiff, Nat.reduceLT, String.reduceEq, List.map_cons, List.map_nil, List.length_cons, List.length_nil, List.replicate, List.cons_append, List.nil_append, List.getElem?_cons_succ, List.getElem?_cons_zero, List.set_cons_succ, List.set_cons_zero, flat, lenG, binD, cmpD, getKD, isD, optB, id, decide_true, decide_false, Nat.reduceAdd, Nat.reduceSub, Bool.not_true, Bool.not_false, CV.dv, getI, Int.cast_ofNat_Int, fldD, getK, if_true, if_false, ite_true, ite_false, reduceIte, Int.reduceLE, Int.reduceLT, Int.reduceToNat, Option.bind, tb0, tb1, tb2, dx0, b_need_pair, g, g1]
  rfl
theorem pair_bad2 (a : Int) (ia : InR f a) : L.phi (n + 5) i_need_pair [f.D, .int a, d] [.tab, c] = .exc 3 [.tab, c] := by
  have g1 := fun m S => q_need_format m f h S
  have g2 := fun m S => q_need_number m f h a ia S
  have g := fun m => need_bad m f h c d hd
  rw [p_need_pair]
  unfold Fm.D at g g1 g2 ⊢
  simp only [dz0, dz1, dz2, dz3, dz4, dz5, dz6, dz7, Option.isNone_none, Option.isNone_some, Int.reduceSub, Int.reduceAdd, ne_eq, Int.reduceEq, Int.reduceNe, low, lows, putD, List.mem_cons, List.not_mem_nil, or_self, or_false, false_or, not_false_eq_true, Bool.and_self, Bool.true_and, Bool.and_true, Bool.false_and, Bool.and_false, Bool.or_false, Bool.or_true, Bool.false_or, Bool.true_or, Nat.reduceLeDiff, Nat.reduceLT, String.reduceEq, List.map_cons, List.map_nil, List.length_cons, List.length_nil, List.replicate, List.cons_append, List.nil_append, List.getElem?_cons_succ, List.getElem?_cons_zero, List.set_cons_succ, List.set_cons_zero, flat, lenG, binD, cmpD, getKD, isD, optB, id, decide_true, decide_false, Nat.reduceAdd, Nat.reduceSub, Bool.not_true, Bool.not_false, CV.dv, getI, Int.cast_ofNat_Int, fldD, getK, if_true, if_false, ite_true, ite_false, reduceIte, Int.reduceLE, Int.reduceLT, Int.reduceToNat, Option.bind, tb0, tb1, tb2, dx0, b_need_pair, g, g1, g2]
  rfl
theorem w_negate : L.phi (n + 10) i_negate [f.D, d] [.tab, c] = .exc 3 [.tab, c] := by
  have g1 := fun m S => q_need_format m f h S
  have g := fun m => need_bad m f h c d hd
  rw [p_negate]
  unfold Fm.D at g g1 ⊢
  simp only [dz0, dz1, dz2, dz3, dz4, dz5, dz6, dz7, Option.isNone_none, Option.isNone_some, Int.reduceSub, Int.reduceAdd, ne_eq, Int.reduceEq, Int.reduceNe, low, lows, putD, List.mem_cons, List.not_mem_nil, or_self, or_false, false_or, not_false_eq_true, Bool.and_self, Bool.true_and, Bool.and_true, Bool.false_and, Bool.and_false, Bool.or_false, Bool.or_true, Bool.false_or, Bool.true_or, Nat.reduceLeDiff, Nat.reduceLT, String.reduceEq, List.map_cons, List.map_nil, List.length_cons, List.length_nil, List.replicate, List.cons_append, List.nil_append, List.getElem?_cons_succ, List.getElem?_cons_zero, List.set_cons_succ, List.set_cons_zero, flat, lenG, binD, cmpD, getKD, isD, optB, id, decide_true, decide_false, Nat.reduceAdd, Nat.reduceSub, Bool.not_true, Bool.not_false, CV.dv, getI, Int.cast_ofNat_Int, fldD, getK, if_true, if_false, ite_true, ite_false, reduceIte, Int.reduceLE, Int.reduceLT, Int.reduceToNat, Option.bind, tb0, tb1, tb2, dx0, b_negate, g, g1]
  rfl
theorem w_is : L.phi (n + 10) i_is_number [f.D, d] [.tab, c] = .ok (.bl false) [.tab, c] := by
  have g1 := fun m S => q_need_format m f h S
  have g := fun m => has_bad m f h c d hd
  rw [p_is_number]
  unfold Fm.D at g g1 ⊢
  simp only [dz0, dz1, dz2, dz3, dz4, dz5, dz6, dz7, Option.isNone_none, Option.isNone_some, Int.reduceSub, Int.reduceAdd, ne_eq, Int.reduceEq, Int.reduceNe, low, lows, putD, List.mem_cons, List.not_mem_nil, or_self, or_false, false_or, not_false_eq_true, Bool.and_self, Bool.true_and, Bool.and_true, Bool.false_and, Bool.and_false, Bool.or_false, Bool.or_true, Bool.false_or, Bool.true_or, Nat.reduceLeDiff, Nat.reduceLT, String.reduceEq, List.map_cons, List.map_nil, List.length_cons, List.length_nil, List.replicate, List.cons_append, List.nil_append, List.getElem?_cons_succ, List.getElem?_cons_zero, List.set_cons_succ, List.set_cons_zero, flat, lenG, binD, cmpD, getKD, isD, optB, id, decide_true, decide_false, Nat.reduceAdd, Nat.reduceSub, Bool.not_true, Bool.not_false, CV.dv, getI, Int.cast_ofNat_Int, fldD, getK, if_true, if_false, ite_true, ite_false, reduceIte, Int.reduceLE, Int.reduceLT, Int.reduceToNat, Option.bind, tb0, tb1, tb2, dx0, b_is_number, g, g1]
theorem w_add1 : L.phi (n + 10) i_add [f.D, d, .non] [.tab, c] = .exc 3 [.tab, c] := by
  have g := fun m x => pair_bad1 m f h c d hd x
  rw [p_add]
  unfold Fm.D at g ⊢
  simp only [dz0, dz1, dz2, dz3, dz4, dz5, dz6, dz7, Option.isNone_none, Option.isNone_some, Int.reduceSub, Int.reduceAdd, ne_eq, Int.reduceEq, Int.reduceNe, low, lows, putD, List.mem_cons, List.not_mem_nil, or_self, or_false, false_or, not_false_eq_true, Bool.and_self, Bool.true_and, Bool.and_true, Bool.false_and, Bool.and_false, Bool.or_false, Bool.or_true, Bool.false_or, Bool.true_or, Nat.reduceLeDiff, Nat.reduceLT, String.reduceEq, List.map_cons, List.map_nil, List.length_cons, List.length_nil, List.replicate, List.cons_append, List.nil_append, List.getElem?_cons_succ, List.getElem?_cons_zero, List.set_cons_succ, List.set_cons_zero, flat, lenG, binD, cmpD, getKD, isD, optB, id, decide_true, decide_false, Nat.reduceAdd, Nat.reduceSub, Bool.not_true, Bool.not_false, CV.dv, getI, Int.cast_ofNat_Int, fldD, getK, if_true, if_false, ite_true, ite_false, reduceIte, Int.reduceLE, Int.reduceLT, Int.reduceToNat, Option.bind, tb0, tb1, tb2, dx0, b_add, g]
  rfl
theorem w_add2 (a : Int) (ia : InR f a) : L.phi (n + 10) i_add [f.D, .int a, d] [.tab, c] = .exc 3 [.tab, c] := by
  have g := fun m => pair_bad2 m f h c d hd a ia
  rw [p_add]
  unfold Fm.D at g ⊢
  simp only [dz0, dz1, dz2, dz3, dz4, dz5, dz6, dz7, Option.isNone_none, Option.isNone_some, Int.reduceSub, Int.reduceAdd, ne_eq, Int.reduceEq, Int.reduceNe, low, lows, putD, List.mem_cons, List.not_mem_nil, or_self, or_false, false_or, not_false_eq_true, Bool.and_self, Bool.true_and, Bool.and_true, Bool.false_and, Bool.and_false, Bool.or_false, Bool.or_true, Bool.false_or, Bool.true_or, Nat.reduceLeDiff, Nat.reduceLT, String.reduceEq, List.map_cons, List.map_nil, List.length_cons, List.length_nil, List.replicate, List.cons_append, List.nil_append, List.getElem?_cons_succ, List.getElem?_cons_zero, List.set_cons_succ, List.set_cons_zero, flat, lenG, binD, cmpD, getKD, isD, optB, id, decide_true, decide_false, Nat.reduceAdd, Nat.reduceSub, Bool.not_true, Bool.not_false, CV.dv, getI, Int.cast_ofNat_Int, fldD, getK, if_true, if_false, ite_true, ite_false, reduceIte, Int.reduceLE, Int.reduceLT, Int.reduceToNat, Option.bind, tb0, tb1, tb2, dx0, b_add, g]
  rfl
theorem w_subtract1 : L.phi (n + 10) i_subtract [f.D, d, .int 0] [.tab, c] = .exc 3 [.tab, c] := by
  have g := fun m x => pair_bad1 m f h c d hd x
  rw [p_subtract]
  unfold Fm.D at g ⊢
  simp only [dz0, dz1, dz2, dz3, dz4, dz5, dz6, dz7, Option.isNone_none, Option.isNone_some, Int.reduceSub, Int.reduceAdd, ne_eq, Int.reduceEq, Int.reduceNe, low, lows, putD, List.mem_cons, List.not_mem_nil, or_self, or_false, false_or, not_false_eq_true, Bool.and_self, Bool.true_and, Bool.and_true, Bool.false_and, Bool.and_false, Bool.or_false, Bool.or_true, Bool.false_or, Bool.true_or, Nat.reduceLeDiff, Nat.reduceLT, String.reduceEq, List.map_cons, List.map_nil, List.length_cons, List.length_nil, List.replicate, List.cons_append, List.nil_append, List.getElem?_cons_succ, List.getElem?_cons_zero, List.set_cons_succ, List.set_cons_zero, flat, lenG, binD, cmpD, getKD, isD, optB, id, decide_true, decide_false, Nat.reduceAdd, Nat.reduceSub, Bool.not_true, Bool.not_false, CV.dv, getI, Int.cast_ofNat_Int, fldD, getK, if_true, if_false, ite_true, ite_false, reduceIte, Int.reduceLE, Int.reduceLT, Int.reduceToNat, Option.bind, tb0, tb1, tb2, dx0, b_subtract, g]
  rfl
theorem w_subtract2 (a : Int) (ia : InR f a) : L.phi (n + 10) i_subtract [f.D, .int a, d] [.tab, c] = .exc 3 [.tab, c] := by
  have g := fun m => pair_bad2 m f h c d hd a ia
  rw [p_subtract]
  unfold Fm.D at g ⊢
  simp only [dz0, dz1, dz2, dz3, dz4, dz5, dz6, dz7, Option.isNone_none, Option.isNone_some, Int.reduceSub, Int.reduceAdd, ne_eq, Int.reduceEq, Int.reduceNe, low, lows, putD, List.mem_cons, List.not_mem_nil, or_self, or_false, false_or, not_false_eq_true, Bool.and_self, Bool.true_and, Bool.and_true, Bool.false_and, Bool.and_false, Bool.or_false, Bool.or_true, Bool.false_or, Bool.true_or, Nat.reduceLeDiff, Nat.reduceLT, String.reduceEq, List.map_cons, List.map_nil, List.length_cons, List.length_nil, List.replicate, List.cons_append, List.nil_append, List.getElem?_cons_succ, List.getElem?_cons_zero, List.set_cons_succ, List.set_cons_zero, flat, lenG, binD, cmpD, getKD, isD, optB, id, decide_true, decide_false, Nat.reduceAdd, Nat.reduceSub, Bool.not_true, Bool.not_false, CV.dv, getI, Int.cast_ofNat_Int, fldD, getK, if_true, if_false, ite_true, ite_false, reduceIte, Int.reduceLE, Int.reduceLT, Int.reduceToNat, Option.bind, tb0, tb1, tb2, dx0, b_subtract, g]
  rfl
theorem w_multiply1 (a : Int) : L.phi (n + 10) i_multiply [f.D, d, .int a] [.tab, c] = .exc 3 [.tab, c] := by
  have g := fun m x => pair_bad1 m f h c d hd x
  rw [p_multiply]
  unfold Fm.D at g ⊢
  simp only [dz0, dz1, dz2, dz3, dz4, dz5, dz6, dz7, Option.isNone_none, Option.isNone_some, Int.reduceSub, Int.reduceAdd, ne_eq, Int.reduceEq, Int.reduceNe, low, lows, putD, List.mem_cons, List.not_mem_nil, or_self, or_false, false_or, not_false_eq_true, Bool.and_self, Bool.true_and, Bool.and_true, Bool.false_and, Bool.and_false, Bool.or_false, Bool.or_true, Bool.false_or, Bool.true_or, Nat.reduceLeDiff, Nat.reduceLT, String.reduceEq, List.map_cons, List.map_nil, List.length_cons, List.length_nil, List.replicate, List.cons_append, List.nil_append, List.getElem?_cons_succ, List.getElem?_cons_zero, List.set_cons_succ, List.set_cons_zero, flat, lenG, binD, cmpD, getKD, isD, optB, id, decide_true, decide_false, Nat.reduceAdd, Nat.reduceSub, Bool.not_true, Bool.not_false, CV.dv, getI, Int.cast_ofNat_Int, fldD, getK, if_true, if_false, ite_true, ite_false, reduceIte, Int.reduceLE, Int.reduceLT, Int.reduceToNat, Option.bind, tb0, tb1, tb2, dx0, b_multiply, g]
  rfl
theorem w_divide1 : L.phi (n + 10) i_divide [f.D, d, .int 0] [.tab, c] = .exc 3 [.tab, c] := by
  have g := fun m x => pair_bad1 m f h c d hd x
  rw [p_divide]
  unfold Fm.D at g ⊢
  simp only [dz0, dz1, dz2, dz3, dz4, dz5, dz6, dz7, Option.isNone_none, Option.isNone_some, Int.reduceSub, Int.reduceAdd, ne_eq, Int.reduceEq, Int.reduceNe, low, lows, putD, List.mem_cons, List.not_mem_nil, or_self, or_false, false_or, not_false_eq_true, Bool.and_self, Bool.true_and, Bool.and_true, Bool.false_and, Bool.and_false, Bool.or_false, Bool.or_true, Bool.false_or, Bool.true_or, Nat.reduceLeDiff, Nat.reduceLT, String.reduceEq, List.map_cons, List.map_nil, List.length_cons, List.length_nil, List.replicate, List.cons_append, List.nil_append, List.getElem?_cons_succ, List.getElem?_cons_zero, List.set_cons_succ, List.set_cons_zero, flat, lenG, binD, cmpD, getKD, isD, optB, id, decide_true, decide_false, Nat.reduceAdd, Nat.reduceSub, Bool.not_true, Bool.not_false, CV.dv, getI, Int.cast_ofNat_Int, fldD, getK, if_true, if_false, ite_true, ite_false, reduceIte, Int.reduceLE, Int.reduceLT, Int.reduceToNat, Option.bind, tb0, tb1, tb2, dx0, b_divide, g]
  rfl
theorem w_divide2 (a : Int) (ia : InR f a) : L.phi (n + 10) i_divide [f.D, .int a, d] [.tab, c] = .exc 3 [.tab, c] := by
  have g := fun m => pair_bad2 m f h c d hd a ia
  rw [p_divide]
  unfold Fm.D at g ⊢
  simp only [dz0, dz1, dz2, dz3, dz4, dz5, dz6, dz7, Option.isNone_none, Option.isNone_some, Int.reduceSub, Int.reduceAdd, ne_eq, Int.reduceEq, Int.reduceNe, low, lows, putD, List.mem_cons, List.not_mem_nil, or_self, or_false, false_or, not_false_eq_true, Bool.and_self, Bool.true_and, Bool.and_true, Bool.false_and, Bool.and_false, Bool.or_false, Bool.or_true, Bool.false_or, Bool.true_or, Nat.reduceLeDiff, Nat.reduceLT, String.reduceEq, List.map_cons, List.map_nil, List.length_cons, List.length_nil, List.replicate, List.cons_append, List.nil_append, List.getElem?_cons_succ, List.getElem?_cons_zero, List.set_cons_succ, List.set_cons_zero, flat, lenG, binD, cmpD, getKD, isD, optB, id, decide_true, decide_false, Nat.reduceAdd, Nat.reduceSub, Bool.not_true, Bool.not_false, CV.dv, getI, Int.cast_ofNat_Int, fldD, getK, if_true, if_false, ite_true, ite_false, reduceIte, Int.reduceLE, Int.reduceLT, Int.reduceToNat, Option.bind, tb0, tb1, tb2, dx0, b_divide, g]
  rfl
theorem w_remainder1 : L.phi (n + 10) i_remainder [f.D, d, .int 0] [.tab, c] = .exc 3 [.tab, c] := by
  have g := fun m x => pair_bad1 m f h c d hd x
  rw [p_remainder]
  unfold Fm.D at g ⊢
  simp only [dz0, dz1, dz2, dz3, dz4, dz5, dz6, dz7, Option.isNone_none, Option.isNone_some, Int.reduceSub, Int.reduceAdd, ne_eq, Int.reduceEq, Int.reduceNe, low, lows, putD, List.mem_cons, List.not_mem_nil, or_self, or_false, false_or, not_false_eq_true, Bool.and_self, Bool.true_and, Bool.and_true, Bool.false_and, Bool.and_false, Bool.or_false, Bool.or_true, Bool.false_or, Bool.true_or, Nat.reduceLeDiff, Nat.reduceLT, String.reduceEq, List.map_cons, List.map_nil, List.length_cons, List.length_nil, List.replicate, List.cons_append, List.nil_append, List.getElem?_cons_succ, List.getElem?_cons_zero, List.set_cons_succ, List.set_cons_zero, flat, lenG, binD, cmpD, getKD, isD, optB, id, decide_true, decide_false, Nat.reduceAdd, Nat.reduceSub, Bool.not_true, Bool.not_false, CV.dv, getI, Int.cast_ofNat_Int, fldD, getK, if_true, if_false, ite_true, ite_false, reduceIte, Int.reduceLE, Int.reduceLT, Int.reduceToNat, Option.bind, tb0, tb1, tb2, dx0, b_remainder, g]
  rfl
theorem w_remainder2 (a : Int) (ia : InR f a) : L.phi (n + 10) i_remainder [f.D, .int a, d] [.tab, c] = .exc 3 [.tab, c] := by
  have g := fun m => pair_bad2 m f h c d hd a ia
  rw [p_remainder]
  unfold Fm.D at g ⊢
  simp only [dz0, dz1, dz2, dz3, dz4, dz5, dz6, dz7, Option.isNone_none, Option.isNone_some, Int.reduceSub, Int.reduceAdd, ne_eq, Int.reduceEq, Int.reduceNe, low, lows, putD, List.mem_cons, List.not_mem_nil, or_self, or_false, false_or, not_false_eq_true, Bool.and_self, Bool.true_and, Bool.and_true, Bool.false_and, Bool.and_false, Bool.or_false, Bool.or_true, Bool.false_or, Bool.true_or, Nat.reduceLeDiff, Nat.reduceLT, String.reduceEq, List.map_cons, List.map_nil, List.length_cons, List.length_nil, List.replicate, List.cons_append, List.nil_append, List.getElem?_cons_succ, List.getElem?_cons_zero, List.set_cons_succ, List.set_cons_zero, flat, lenG, binD, cmpD, getKD, isD, optB, id, decide_true, decide_false, Nat.reduceAdd, Nat.reduceSub, Bool.not_true, Bool.not_false, CV.dv, getI, Int.cast_ofNat_Int, fldD, getK, if_true, if_false, ite_true, ite_false, reduceIte, Int.reduceLE, Int.reduceLT, Int.reduceToNat, Option.bind, tb0, tb1, tb2, dx0, b_remainder, g]
  rfl
end
theorem w_isn (n : Nat) (f : Fm) (h : f.ok) (a : Int) (ia : InR f a) (c : MO) : L.phi (n + 10) i_is_number [f.D, .int a] [.tab, c] = .ok (.bl true) [.tab, c] := by
  have g1 := fun m S => q_need_format m f h S
  have g := fun m S => has_ok m f h a ia S
  rw [p_is_number]
  unfold Fm.D at g g1 ⊢
  simp only [dz0, dz1, dz2, dz3, dz4, dz5, dz6, dz7, Option.isNone_none, Option.isNone_some, Int.reduceSub, Int.reduceAdd, ne_eq, Int.reduceEq, Int.reduceNe, low, lows, putD, List.mem_cons, List.not_mem_nil, or_self, or_false, false_or, not_false_eq_true, Bool.and_self, Bool.true_and, Bool.and_true, Bool.false_and, Bool.and_false, Bool.or_false, Bool.or_true, Bool.false_or, Bool.true_or, Nat.reduceLeDiff, Nat.reduceLT, String.reduceEq, List.map_cons, List.map_nil, List.length_cons, List.length_nil, List.replicate, List.cons_append, List.nil_append, List.getElem?_cons_succ, List.getElem?_cons_zero, List.set_cons_succ, List.set_cons_zero, flat, lenG, binD, cmpD, getKD, isD, optB, id, decide_true, decide_false, Nat.reduceAdd, Nat.reduceSub, Bool.not_true, Bool.not_false, CV.dv, getI, Int.cast_ofNat_Int, fldD, getK, if_true, if_false, ite_true, ite_false, reduceIte, Int.reduceLE, Int.reduceLT, Int.reduceToNat, Option.bind, tb0, tb1, tb2, dx0, b_is_number, g, g1]
/-- integers refused -/
def oddI : List D := [.non, .int 1000000000000000000000000000000000000000000000000000000000001, .int (-1000000000000000000000000000000000000000000000000000000000001), .bl true, .str "0", .tup [.int 0]]
theorem isin_int (m : Nat) (c : MO) (d : D) (hd : d ∈ oddI) : L.phi (m + 2) i_is_in [d, .int (-1000000000000000000000000000000000000000000000000000000000000), .int 1000000000000000000000000000000000000000000000000000000000000] [.tab, c] = .ok (.bl false) [.tab, c] := by
  unfold oddI at hd
  simp only [List.mem_cons, List.not_mem_nil, or_false] at hd
  rcases hd with e | e | e | e | e | e <;> subst e <;> kernel_rfl
theorem w_fit (n : Nat) (f : Fm) (h : f.ok) (c : MO) (d : D) (hd : d ∈ oddI) : L.phi (n + 10) i_fit [f.D, d] [.tab, c] = .exc 2 [.tab, c] := by
  have g1 := fun m S => q_need_format m f h S
  have g := fun m => isin_int m c d hd
  rw [p_fit]
  unfold Fm.D at g1 ⊢
  simp only [dz0, dz1, dz2, dz3, dz4, dz5, dz6, dz7, Option.isNone_none, Option.isNone_some, Int.reduceSub, Int.reduceAdd, ne_eq, Int.reduceEq, Int.reduceNe, low, lows, putD, List.mem_cons, List.not_mem_nil, or_self, or_false, false_or, not_false_eq_true, Bool.and_self, Bool.true_and, Bool.and_true, Bool.false_and, Bool.and_false, Bool.or_false, Bool.or_true, Bool.false_or, Bool.true_or, Nat.reduceLeDiff, Nat.reduceLT, String.reduceEq, List.map_cons, List.map_nil, List.length_cons, List.length_nil, List.replicate, List.cons_append, List.nil_append, List.getElem?_cons_succ, List.getElem?_cons_zero, List.set_cons_succ, List.set_cons_zero, flat, lenG, binD, cmpD, getKD, isD, optB, id, decide_true, decide_false, Nat.reduceAdd, Nat.reduceSub, Bool.not_true, Bool.not_false, CV.dv, getI, Int.cast_ofNat_Int, fldD, getK, if_true, if_false, ite_true, ite_false, reduceIte, Int.reduceLE, Int.reduceLT, Int.reduceToNat, Option.bind, tb0, tb1, tb2, dx0, b_fit, g, g1]
  rfl
/-- rules refused -/
def oddR : List D := [.non, .str "", .str "Shift", .str "sum", .int 0, .tup [.str "shift"], .str "square "]
section
variable (n : Nat) (f : Fm) (h : f.ok) (c : MO) (d : D) (hd : d ∈ oddR)
include hd
theorem nr_bad : L.phi (n + 1) i_need_rule [d] [.tab, c] = .exc 4 [.tab, c] := by
  unfold oddR at hd
  simp only [List.mem_cons, List.not_mem_nil, or_false] at hd
  rcases hd with e | e | e | e | e | e | e <;> subst e <;> kernel_rfl
theorem v_arity : L.phi (n + 10) i_arity [d] [.tab, c] = .exc 4 [.tab, c] := by
  unfold oddR at hd
  simp only [List.mem_cons, List.not_mem_nil, or_false] at hd
  rcases hd with e | e | e | e | e | e | e <;> subst e <;> kernel_rfl
theorem v_implies1 : L.phi (n + 10) i_implies [d, .non] [.tab, c] = .exc 4 [.tab, c] := by
  unfold oddR at hd
  simp only [List.mem_cons, List.not_mem_nil, or_false] at hd
  rcases hd with e | e | e | e | e | e | e <;> subst e <;> kernel_rfl
theorem v_implies2 : L.phi (n + 10) i_implies [.str "shift", d] [.tab, c] = .exc 4 [.tab, c] := by
  unfold oddR at hd
  simp only [List.mem_cons, List.not_mem_nil, or_false] at hd
  rcases hd with e | e | e | e | e | e | e <;> subst e <;> kernel_rfl
theorem v_parting1 : L.phi (n + 10) i_parting [d, .non] [.tab, c] = .exc 4 [.tab, c] := by
  unfold oddR at hd
  simp only [List.mem_cons, List.not_mem_nil, or_false] at hd
  rcases hd with e | e | e | e | e | e | e <;> subst e <;> kernel_rfl
theorem v_parting2 : L.phi (n + 10) i_parting [.str "shift", d] [.tab, c] = .exc 4 [.tab, c] := by
  unfold oddR at hd
  simp only [List.mem_cons, List.not_mem_nil, or_false] at hd
  rcases hd with e | e | e | e | e | e | e <;> subst e <;> kernel_rfl
include h
theorem v_holds_for : L.phi (n + 10) i_holds_for [f.D, d, .non] [.tab, c] = .exc 4 [.tab, c] := by
  have g1 := fun m S => q_need_format m f h S
  have g := fun m => nr_bad m c d hd
  rw [p_holds_for]
  unfold Fm.D at g1 ⊢
  simp only [dz0, dz1, dz2, dz3, dz4, dz5, dz6, dz7, Option.isNone_none, Option.isNone_some, Int.reduceSub, Int.reduceAdd, ne_eq, Int.reduceEq, Int.reduceNe, low, lows, putD, List.mem_cons, List.not_mem_nil, or_self, or_false, false_or, not_false_eq_true, Bool.and_self, Bool.true_and, Bool.and_true, Bool.false_and, Bool.and_false, Bool.or_false, Bool.or_true, Bool.false_or, Bool.true_or, Nat.reduceLeDiff, Nat.reduceLT, String.reduceEq, List.map_cons, List.map_nil, List.length_cons, List.length_nil, List.replicate, List.cons_append, List.nil_append, List.getElem?_cons_succ, List.getElem?_cons_zero, List.set_cons_succ, List.set_cons_zero, flat, lenG, binD, cmpD, getKD, isD, optB, id, decide_true, decide_false, Nat.reduceAdd, Nat.reduceSub, Bool.not_true, Bool.not_false, CV.dv, getI, Int.cast_ofNat_Int, fldD, getK, if_true, if_false, ite_true, ite_false, reduceIte, Int.reduceLE, Int.reduceLT, Int.reduceToNat, Option.bind, tb0, tb1, tb2, dx0, b_holds_for, g, g1]
  rfl
theorem v_holds : L.phi (n + 10) i_holds [f.D, d] [.tab, c] = .exc 4 [.tab, c] := by
  have g1 := fun m S => q_need_format m f h S
  have g := fun m => nr_bad m c d hd
  rw [p_holds]
  unfold Fm.D at g1 ⊢
  simp only [dz0, dz1, dz2, dz3, dz4, dz5, dz6, dz7, Option.isNone_none, Option.isNone_some, Int.reduceSub, Int.reduceAdd, ne_eq, Int.reduceEq, Int.reduceNe, low, lows, putD, List.mem_cons, List.not_mem_nil, or_self, or_false, false_or, not_false_eq_true, Bool.and_self, Bool.true_and, Bool.and_true, Bool.false_and, Bool.and_false, Bool.or_false, Bool.or_true, Bool.false_or, Bool.true_or, Nat.reduceLeDiff, Nat.reduceLT, String.reduceEq, List.map_cons, List.map_nil, List.length_cons, List.length_nil, List.replicate, List.cons_append, List.nil_append, List.getElem?_cons_succ, List.getElem?_cons_zero, List.set_cons_succ, List.set_cons_zero, flat, lenG, binD, cmpD, getKD, isD, optB, id, decide_true, decide_false, Nat.reduceAdd, Nat.reduceSub, Bool.not_true, Bool.not_false, CV.dv, getI, Int.cast_ofNat_Int, fldD, getK, if_true, if_false, ite_true, ite_false, reduceIte, Int.reduceLE, Int.reduceLT, Int.reduceToNat, Option.bind, tb0, tb1, tb2, dx0, b_holds, g, g1]
  rfl
theorem v_counterexample : L.phi (n + 10) i_counterexample [f.D, d] [.tab, c] = .exc 4 [.tab, c] := by
  have g1 := fun m S => q_need_format m f h S
  have g := fun m => nr_bad m c d hd
  rw [p_counterexample]
  unfold Fm.D at g1 ⊢
  simp only [dz0, dz1, dz2, dz3, dz4, dz5, dz6, dz7, Option.isNone_none, Option.isNone_some, Int.reduceSub, Int.reduceAdd, ne_eq, Int.reduceEq, Int.reduceNe, low, lows, putD, List.mem_cons, List.not_mem_nil, or_self, or_false, false_or, not_false_eq_true, Bool.and_self, Bool.true_and, Bool.and_true, Bool.false_and, Bool.and_false, Bool.or_false, Bool.or_true, Bool.false_or, Bool.true_or, Nat.reduceLeDiff, Nat.reduceLT, String.reduceEq, List.map_cons, List.map_nil, List.length_cons, List.length_nil, List.replicate, List.cons_append, List.nil_append, List.getElem?_cons_succ, List.getElem?_cons_zero, List.set_cons_succ, List.set_cons_zero, flat, lenG, binD, cmpD, getKD, isD, optB, id, decide_true, decide_false, Nat.reduceAdd, Nat.reduceSub, Bool.not_true, Bool.not_false, CV.dv, getI, Int.cast_ofNat_Int, fldD, getK, if_true, if_false, ite_true, ite_false, reduceIte, Int.reduceLE, Int.reduceLT, Int.reduceToNat, Option.bind, tb0, tb1, tb2, dx0, b_counterexample, g, g1]
  rfl
end
end K08

set_option Elab.async false
set_option linter.all false
set_option maxRecDepth 100000
set_option maxHeartbeats 2000000
namespace K08
open PySem (Str)
open Dz
/-- numbers of a rule refused -/
def oddB (f : Fm) (a : Int) (k : Nat) : List D := [.non, .tup [], .lst (List.replicate k (.int a)), .tup (List.replicate k (.int a) ++ [.int a]), .tup (List.replicate k (.int (f.hi + 1))), .int a, .tup ((List.replicate k (.int a)).dropLast ++ [.non]), .tup (List.replicate k (.bl true))]
theorem al1 (b : Bool) (S : Sto) : bltD .all [.lst [.bl b]] S = .ok (.bl b) S := by simp [bltD, bools]
theorem al2 (b c : Bool) (S : Sto) : bltD .all [.lst [.bl b, .bl c]] S = .ok (.bl (b && c)) S := by simp [bltD, bools]
theorem al3 (b c d : Bool) (S : Sto) : bltD .all [.lst [.bl b, .bl c, .bl d]] S = .ok (.bl (b && (c && d))) S := by simp [bltD, bools]
theorem u_holds_for (n : Nat) (f : Fm) (h : f.ok) (a : Int) (ia : InR f a) (r : Str) (hr : RuleOk r) (c : MO) (d : D) (k : Nat) (hk : arR r = k) (hk3 : k = 1 ∨ k = 2 ∨ k = 3) (hd : d ∈ oddB f a k) : L.phi (n + 10) i_holds_for [f.D, .str r, d] [.tab, c] = .exc 5 [.tab, c] := by
  have g1 := fun m S => q_need_format m f h S
  have g2 := fun m S => q_need_rule m r hr S
  have g3 := fun m S => q_many_of m r hr S
  rw [hk] at g3
  have h1 := fun m S => has_hi m f h S
  have h2 := fun m S => has_ok m f h a ia S
  have h3 := fun m => has_bad0 m f h c .non (by simp)
  have h4 := fun m => has_bad0 m f h c (.bl true) (by simp)
  unfold oddB at hd
  rw [p_holds_for]
  unfold Fm.D at g1 h1 h2 h3 h4 ⊢
  rcases hk3 with e | e | e <;> subst e
  all_goals simp only [List.replicate, List.dropLast, List.nil_append, List.cons_append, List.mem_cons, List.not_mem_nil, or_false] at hd
  all_goals rcases hd with e | e | e | e | e | e | e | e <;> subst e
  all_goals simp only [dz0, dz1, dz2, dz3, dz4, dz5, dz6, dz7, Option.isNone_none, Option.isNone_some, Int.reduceSub, Int.reduceAdd, ne_eq, Int.reduceEq, Int.reduceNe, low, lows, putD, List.mem_cons, List.not_mem_nil, or_self, or_false, false_or, not_false_eq_true, Bool.and_self, Bool.true_and, Bool.and_true, Bool.false_and, Bool.and_false, Bool.or_false, Bool.or_true, Bool.false_or, Bool.true_or, Nat.reduceLeDiff, Nat.reduceLT, String.reduceEq, List.map_cons, List.map_nil, List.length_cons, List.length_nil, List.replicate, List.cons_append, List.nil_append, List.getElem?_cons_succ, List.getElem?_cons_zero, List.set_cons_succ, List.set_cons_zero, flat, lenG, binD, cmpD, getKD, isD, optB, id, decide_true, decide_false, Nat.reduceAdd, Nat.reduceSub, Bool.not_true, Bool.not_false, CV.dv, getI, Int.cast_ofNat_Int, fldD, getK, if_true, if_false, ite_true, ite_false, reduceIte, Int.reduceLE, Int.reduceLT, Int.reduceToNat, Option.bind, tb0, tb1, tb2, dx0, b_holds_for, g1, g2, g3, h1, h2, h3, h4, al1, al2, al3, Int.reduceAdd]
  all_goals rfl
end K08

set_option Elab.async false
set_option linter.all false
set_option maxRecDepth 100000
set_option maxHeartbeats 2000000
namespace K08
open PySem (Str)
open Dz
def stN : Nat → Ss → St
  | 0, .cons s _ => s
  | n + 1, .cons _ ss => stN n ss
  | _, .nil => .pass
theorem res_1 : X.resD 1 = some (.str "format") := by kernel_rfl
theorem res_2 : X.resD 2 = some (.str "integer") := by kernel_rfl
theorem res_3 : X.resD 3 = some (.str "number") := by kernel_rfl
theorem res_4 : X.resD 4 = some (.str "rule") := by kernel_rfl
theorem res_5 : X.resD 5 = some (.str "numbers") := by kernel_rfl
theorem ncM_l (l : List D) : ncM (.lst l) = ncs l := rfl
theorem ncM_t : ncM .tab = true := rfl
theorem xL : X.L = L := rfl
theorem nc_F {f : Fm} {d : D} (hd : d ∈ oddF f) : nc d = true := by
  unfold oddF at hd
  simp only [List.mem_cons, List.not_mem_nil, or_false] at hd
  rcases hd with e | e | e | e | e | e | e | e | e | e | e | e | e | e | e <;> subst e <;> rfl
theorem nc_N {f : Fm} {d : D} (hd : d ∈ oddN f) : nc d = true := by
  unfold oddN at hd
  simp only [List.mem_cons, List.not_mem_nil, or_false] at hd
  rcases hd with e | e | e | e | e | e | e | e <;> subst e <;> rfl
theorem nc_I {d : D} (hd : d ∈ oddI) : nc d = true := by
  unfold oddI at hd
  simp only [List.mem_cons, List.not_mem_nil, or_false] at hd
  rcases hd with e | e | e | e | e | e <;> subst e <;> rfl
theorem nc_R {d : D} (hd : d ∈ oddR) : nc d = true := by
  unfold oddR at hd
  simp only [List.mem_cons, List.not_mem_nil, or_false] at hd
  rcases hd with e | e | e | e | e | e | e <;> subst e <;> rfl
def es1 : List E := [(.call 11 (.cons (.var 4) .nil)), (.call 12 (.cons (.var 4) .nil)), (.call 13 (.cons (.var 4) .nil)), (.call 14 (.cons (.var 4) (.cons (.cst (.int 0)) .nil))), (.call 28 (.cons (.var 4) (.cons (.cst .non) .nil))), (.call 29 (.cons (.var 4) (.cons (.cst .non) (.cons (.cst .non) .nil)))), (.call 30 (.cons (.var 4) (.cons (.cst (.int 0)) (.cons (.cst (.int 0)) .nil)))), (.call 31 (.cons (.var 4) (.cons (.cst (.int 0)) (.cons (.cst (.int 0)) .nil)))), (.call 32 (.cons (.var 4) (.cons (.cst .non) .nil))), (.call 33 (.cons (.var 4) (.cons (.cst (.int 0)) (.cons (.cst (.int 0)) .nil)))), (.call 34 (.cons (.var 4) (.cons (.cst (.int 0)) (.cons (.cst (.int 0)) .nil)))), (.call 45 (.cons (.var 4) (.cons (.cst .non) (.cons (.cst .non) .nil)))), (.call 57 (.cons (.var 4) (.cons (.cst .non) .nil))), (.call 58 (.cons (.var 4) (.cons (.cst .non) .nil))), (.call 62 (.cons (.var 4) .nil)), (.call 65 (.cons (.var 4) .nil))]
def es2 : List E := [(.call 29 (.cons (.var 2) (.cons (.var 4) (.cons (.cst .non) .nil)))), (.call 29 (.cons (.var 2) (.cons (.var 6) (.cons (.var 4) .nil)))), (.call 30 (.cons (.var 2) (.cons (.var 4) (.cons (.cst (.int 0)) .nil)))), (.call 30 (.cons (.var 2) (.cons (.var 6) (.cons (.var 4) .nil)))), (.call 31 (.cons (.var 2) (.cons (.var 4) (.cons (.var 6) .nil)))), (.call 32 (.cons (.var 2) (.cons (.var 4) .nil))), (.call 33 (.cons (.var 2) (.cons (.var 4) (.cons (.cst (.int 0)) .nil)))), (.call 33 (.cons (.var 2) (.cons (.var 6) (.cons (.var 4) .nil)))), (.call 34 (.cons (.var 2) (.cons (.var 4) (.cons (.cst (.int 0)) .nil)))), (.call 34 (.cons (.var 2) (.cons (.var 6) (.cons (.var 4) .nil))))]
def es3 : List E := [(.call 44 (.cons (.var 4) .nil)), (.call 45 (.cons (.var 2) (.cons (.var 4) (.cons (.cst .non) .nil)))), (.call 57 (.cons (.var 2) (.cons (.var 4) .nil))), (.call 58 (.cons (.var 2) (.cons (.var 4) .nil))), (.call 63 (.cons (.var 4) (.cons (.cst .non) .nil))), (.call 63 (.cons (.cst (.str "shift")) (.cons (.var 4) .nil))), (.call 64 (.cons (.var 4) (.cons (.cst .non) .nil))), (.call 64 (.cons (.cst (.str "shift")) (.cons (.var 4) .nil)))]
section
variable (n : Nat) (f : Fm) (h : f.ok) (c : MO) (hc : ncM c = true) (d : D) (a0 a1 a3 a5 a7 a8 : Option D) (e : E)
theorem ev_1 (a6 : Option D) (hc : ncM c = true) (hd : d ∈ oddF f) (he : e ∈ es1) : ev (X.Cb (n + 10)) e [a0, a1, some f.D, a3, some d, a5, a6, a7, a8] [.tab, c] = .exc 1 [.tab, c] := by
  have nd := nc_F hd
  unfold es1 at he
  simp only [List.mem_cons, List.not_mem_nil, or_false] at he
  rcases he with e | e | e | e | e | e | e | e | e | e | e | e | e | e | e | e <;> subst e <;> simp only [dz0, dz1, dz2, dz3, dz4, dz5, dz6, dz7, Option.isNone_none, Option.isNone_some, Int.reduceSub, Int.reduceAdd, ne_eq, Int.reduceEq, Int.reduceNe, low, lows, putD, List.mem_cons, List.not_mem_nil, or_self, or_false, false_or, not_false_eq_true, Bool.and_self, Bool.true_and, Bool.and_true, Bool.false_and, Bool.and_false, Bool.or_false, Bool.or_true, Bool.false_or, Bool.true_or, Nat.reduceLeDiff, Nat.reduceLT, String.reduceEq, List.map_cons, List.map_nil, List.length_cons, List.length_nil, List.replicate, List.cons_append, List.nil_append, List.getElem?_cons_succ, List.getElem?_cons_zero, List.set_cons_succ, List.set_cons_zero, flat, lenG, binD, cmpD, getKD, isD, optB, id, decide_true, decide_false, Nat.reduceAdd, Nat.reduceSub, Bool.not_true, Bool.not_false, CV.dv, getI, Int.cast_ofNat_Int, fldD, getK, if_true, if_false, ite_true, ite_false, reduceIte, Int.reduceLE, Int.reduceLT, Int.reduceToNat, Option.bind, tb0, tb1, tb2, dz7, dx0, nc, ncs, ncM_l, ncM_t, ncS, xL, hc, nd, r_lowest n f c d hd, r_highest n f c d hd, r_count_numbers n f c d hd, r_is_number n f c d hd, r_fit n f c d hd, r_add n f c d hd, r_subtract n f c d hd, r_multiply n f c d hd, r_negate n f c d hd, r_divide n f c d hd, r_remainder n f c d hd, r_holds_for n f c d hd, r_holds n f c d hd, r_counterexample n f c d hd, r_profile n f c d hd, r_write_format n f c d hd]
theorem ev_2 (a : Int) (h : f.ok) (hc : ncM c = true) (ia : InR f a) (hd : d ∈ oddN f) (he : e ∈ es2) : ev (X.Cb (n + 10)) e [a0, a1, some f.D, a3, some d, a5, some (.int a), a7, a8] [.tab, c] = .exc 3 [.tab, c] := by
  have nd := nc_N hd
  have nf : nc f.D = true := rfl
  unfold es2 at he
  simp only [List.mem_cons, List.not_mem_nil, or_false] at he
  rcases he with e | e | e | e | e | e | e | e | e | e <;> subst e <;> simp only [dz0, dz1, dz2, dz3, dz4, dz5, dz6, dz7, Option.isNone_none, Option.isNone_some, Int.reduceSub, Int.reduceAdd, ne_eq, Int.reduceEq, Int.reduceNe, low, lows, putD, List.mem_cons, List.not_mem_nil, or_self, or_false, false_or, not_false_eq_true, Bool.and_self, Bool.true_and, Bool.and_true, Bool.false_and, Bool.and_false, Bool.or_false, Bool.or_true, Bool.false_or, Bool.true_or, Nat.reduceLeDiff, Nat.reduceLT, String.reduceEq, List.map_cons, List.map_nil, List.length_cons, List.length_nil, List.replicate, List.cons_append, List.nil_append, List.getElem?_cons_succ, List.getElem?_cons_zero, List.set_cons_succ, List.set_cons_zero, flat, lenG, binD, cmpD, getKD, isD, optB, id, decide_true, decide_false, Nat.reduceAdd, Nat.reduceSub, Bool.not_true, Bool.not_false, CV.dv, getI, Int.cast_ofNat_Int, fldD, getK, if_true, if_false, ite_true, ite_false, reduceIte, Int.reduceLE, Int.reduceLT, Int.reduceToNat, Option.bind, tb0, tb1, tb2, dz7, dx0, nc, ncs, ncM_l, ncM_t, ncS, xL, hc, nd, nf, w_add1 n f h c d hd, w_add2 n f h c d hd a ia, w_subtract1 n f h c d hd, w_subtract2 n f h c d hd a ia, w_multiply1 n f h c d hd a, w_negate n f h c d hd, w_divide1 n f h c d hd, w_divide2 n f h c d hd a ia, w_remainder1 n f h c d hd, w_remainder2 n f h c d hd a ia]
theorem ev_3 (a6 : Option D) (h : f.ok) (hc : ncM c = true) (hd : d ∈ oddR) (he : e ∈ es3) : ev (X.Cb (n + 10)) e [a0, a1, some f.D, a3, some d, a5, a6, a7, a8] [.tab, c] = .exc 4 [.tab, c] := by
  have nd := nc_R hd
  have nf : nc f.D = true := rfl
  unfold es3 at he
  simp only [List.mem_cons, List.not_mem_nil, or_false] at he
  rcases he with e | e | e | e | e | e | e | e <;> subst e <;> simp only [dz0, dz1, dz2, dz3, dz4, dz5, dz6, dz7, Option.isNone_none, Option.isNone_some, Int.reduceSub, Int.reduceAdd, ne_eq, Int.reduceEq, Int.reduceNe, low, lows, putD, List.mem_cons, List.not_mem_nil, or_self, or_false, false_or, not_false_eq_true, Bool.and_self, Bool.true_and, Bool.and_true, Bool.false_and, Bool.and_false, Bool.or_false, Bool.or_true, Bool.false_or, Bool.true_or, Nat.reduceLeDiff, Nat.reduceLT, String.reduceEq, List.map_cons, List.map_nil, List.length_cons, List.length_nil, List.replicate, List.cons_append, List.nil_append, List.getElem?_cons_succ, List.getElem?_cons_zero, List.set_cons_succ, List.set_cons_zero, flat, lenG, binD, cmpD, getKD, isD, optB, id, decide_true, decide_false, Nat.reduceAdd, Nat.reduceSub, Bool.not_true, Bool.not_false, CV.dv, getI, Int.cast_ofNat_Int, fldD, getK, if_true, if_false, ite_true, ite_false, reduceIte, Int.reduceLE, Int.reduceLT, Int.reduceToNat, Option.bind, tb0, tb1, tb2, dz7, dx0, nc, ncs, ncM_l, ncM_t, ncS, xL, hc, nd, nf, v_arity n c d hd, v_holds_for n f h c d hd, v_holds n f h c d hd, v_counterexample n f h c d hd, v_implies1 n c d hd, v_implies2 n c d hd, v_parting1 n c d hd, v_parting2 n c d hd]
end
section
variable (n : Nat) (f : Fm) (a0 a1 a2 a3 a4 a6 a7 a8 : Option D) (c : MO)
theorem odd_a : exec (X.C n) (stN 2 b_law) [a0, a1, some f.D, none, a4, none, a6, a7, a8] [.tab, c] = .nx [a0, a1, some f.D, some (.lst ((oddF f).take 9)), a4, none, a6, a7, a8] [.tab, c] := by kernel_rfl
theorem odd_b : exec (X.C n) (stN 3 b_law) [a0, a1, a2, some (.lst ((oddF f).take 9)), a4, none, a6, a7, a8] [.tab, c] = .nx [a0, a1, a2, some (.lst (oddF f)), a4, none, a6, a7, a8] [.tab, c] := by kernel_rfl
theorem wk_5 : exec (X.C n) (stN 5 b_law) [a0, a1, a2, a3, a4, none, a6, a7, a8] [.tab, c] = .nx [a0, a1, a2, a3, a4, some (.lst ((es1.take 5).map D.clo)), a6, a7, a8] [.tab, c] := by kernel_rfl
theorem wk_6 : exec (X.C n) (stN 6 b_law) [a0, a1, a2, a3, a4, some (.lst ((es1.take 5).map D.clo)), a6, a7, a8] [.tab, c] = .nx [a0, a1, a2, a3, a4, some (.lst ((es1.take 9).map D.clo)), a6, a7, a8] [.tab, c] := by kernel_rfl
theorem wk_7 : exec (X.C n) (stN 7 b_law) [a0, a1, a2, a3, a4, some (.lst ((es1.take 9).map D.clo)), a6, a7, a8] [.tab, c] = .nx [a0, a1, a2, a3, a4, some (.lst ((es1.take 13).map D.clo)), a6, a7, a8] [.tab, c] := by kernel_rfl
theorem wk_8 : exec (X.C n) (stN 8 b_law) [a0, a1, a2, a3, a4, some (.lst ((es1.take 13).map D.clo)), a6, a7, a8] [.tab, c] = .nx [a0, a1, a2, a3, a4, some (.lst (es1.map D.clo)), a6, a7, a8] [.tab, c] := by kernel_rfl
theorem wk_12 (a5 : Option D) : exec (X.C n) (stN 12 b_law) [a0, a1, a2, a3, a4, a5, a6, a7, a8] [.tab, c] = .nx [a0, a1, a2, a3, a4, some (.lst ((es2.take 4).map D.clo)), a6, a7, a8] [.tab, c] := by kernel_rfl
theorem wk_13 : exec (X.C n) (stN 13 b_law) [a0, a1, a2, a3, a4, some (.lst ((es2.take 4).map D.clo)), a6, a7, a8] [.tab, c] = .nx [a0, a1, a2, a3, a4, some (.lst ((es2.take 8).map D.clo)), a6, a7, a8] [.tab, c] := by kernel_rfl
theorem wk_14 : exec (X.C n) (stN 14 b_law) [a0, a1, a2, a3, a4, some (.lst ((es2.take 8).map D.clo)), a6, a7, a8] [.tab, c] = .nx [a0, a1, a2, a3, a4, some (.lst (es2.map D.clo)), a6, a7, a8] [.tab, c] := by kernel_rfl
theorem wk_18 (a5 : Option D) : exec (X.C n) (stN 18 b_law) [a0, a1, a2, a3, a4, a5, a6, a7, a8] [.tab, c] = .nx [a0, a1, a2, a3, a4, some (.lst ((es3.take 4).map D.clo)), a6, a7, a8] [.tab, c] := by kernel_rfl
theorem wk_19 : exec (X.C n) (stN 19 b_law) [a0, a1, a2, a3, a4, some (.lst ((es3.take 4).map D.clo)), a6, a7, a8] [.tab, c] = .nx [a0, a1, a2, a3, a4, some (.lst (es3.map D.clo)), a6, a7, a8] [.tab, c] := by kernel_rfl
end
theorem at_in {α : Type} (l : List α) (g : α → D) (t : Int) (h1 : 0 ≤ t) (h2 : t < l.length) : ∃ e, e ∈ l ∧ L2.atI (l.map g) t = some (g e) := by
  rw [atI_lt _ _ h1 (by rw [List.length_map]; exact h2), List.getElem?_map]
  have hl : t.toNat < l.length := by omega
  rw [List.getElem?_eq_getElem hl]
  exact ⟨_, List.getElem_mem hl, rfl⟩
theorem at_in2 (l : List D) (t : Int) (h1 : 0 ≤ t) (h2 : t < l.length) : ∃ e, e ∈ l ∧ L2.atI l t = some e := by
  have := at_in l id t h1 h2
  rw [List.map_id] at this
  exact this
end K08

set_option Elab.async false
set_option linter.all false
set_option maxRecDepth 100000
set_option maxHeartbeats 2000000
namespace K08
open PySem (Str)
open Dz
theorem ncs_strs2 : ∀ l : List Str, ncs (l.map D.str) = true
  | [] => rfl
  | _ :: l => by
    show (true && ncs (l.map D.str)) = true
    rw [ncs_strs2 l]
    rfl
theorem arR_3 {r : Str} (hr : RuleOk r) : arR r = 1 ∨ arR r = 2 ∨ arR r = 3 := by
  rcases hr with e | e | e | e
  · exact .inl (ar1 e)
  · exact .inr (.inl (ar2d e))
  · exact .inr (.inl (ar2p e))
  · exact .inr (.inr (ar3 e))
theorem slm1 (x : D) (S : Sto) : slcD (.tup [x]) none (some (-1)) S = .ok (.tup []) S := rfl
theorem slm2 (x y : D) (S : Sto) : slcD (.tup [x, y]) none (some (-1)) S = .ok (.tup [x]) S := rfl
theorem slm3 (x y z : D) (S : Sto) : slcD (.tup [x, y, z]) none (some (-1)) S = .ok (.tup [x, y]) S := rfl
theorem q_law (n : Nat) (ns : List Int) : ∃ S', X.phi (n + 10) [.scr ns] [.tab] = .ok (.bl true) S' := by
  have hc0 : RowOk (.lst [.scr ns, .int 0, .int 15308, .int 0]) := ⟨_, _, _, _, rfl, by decide, by decide, by decide⟩
  obtain ⟨f, c1, e1, hc1, hf⟩ : ∃ f c', L.phi (n + 10) i_law_format [.mr 1, .int 64] [.tab, .lst [.scr ns, .int 0, .int 15308, .int 0]] = .ok (Fm.D f) [.tab, c'] ∧ RowOk c' ∧ Fm.ok f := q_law_format (n + 7) _ hc0 [] 64 (by decide) (by decide)
  have nf : nc f.D = true := rfl
  have m1 := ncM_row hc1
  obtain ⟨t, c2, e2, hc2, t1, t2⟩ : ∃ t c', L.phi (n + 10) i_law_taken [.mr 1, .int 15] [.tab, c1] = .ok (.int t) [.tab, c'] ∧ RowOk c' ∧ 0 ≤ t ∧ t < 15 := q_law_taken (n + 9) _ hc1 [] 15 (by decide) ⟨by decide, by decide⟩
  have m2 := ncM_row hc2
  obtain ⟨d, hd, hdx⟩ := at_in2 (oddF f) t t1 t2
  obtain ⟨u, c3, e3, hc3, u1, u2⟩ : ∃ t c', L.phi (n + 10) i_law_taken [.mr 1, .int 16] [.tab, c2] = .ok (.int t) [.tab, c'] ∧ RowOk c' ∧ 0 ≤ t ∧ t < 16 := q_law_taken (n + 9) _ hc2 [] 16 (by decide) ⟨by decide, by decide⟩
  have m3 := ncM_row hc3
  obtain ⟨x, hx, hxx⟩ := at_in es1 D.clo u u1 u2
  obtain ⟨a, c4, e4, hc4, ia⟩ : ∃ x c', L.phi (n + 10) i_law_number [.mr 1, f.D] [.tab, c3] = .ok (.int x) [.tab, c'] ∧ RowOk c' ∧ InR f x := q_law_number (n + 7) f hf c3 hc3 []
  have m4 := ncM_row hc4
  obtain ⟨v, c5, e5, hc5, v1, v2⟩ : ∃ t c', L.phi (n + 10) i_law_taken [.mr 1, .int 8] [.tab, c4] = .ok (.int t) [.tab, c'] ∧ RowOk c' ∧ 0 ≤ t ∧ t < 8 := q_law_taken (n + 9) _ hc4 [] 8 (by decide) ⟨by decide, by decide⟩
  have m5 := ncM_row hc5
  obtain ⟨d2, hd2, hdx2⟩ := at_in2 (oddN f) v v1 v2
  obtain ⟨w, c6, e6, hc6, w1, w2⟩ : ∃ t c', L.phi (n + 10) i_law_taken [.mr 1, .int 10] [.tab, c5] = .ok (.int t) [.tab, c'] ∧ RowOk c' ∧ 0 ≤ t ∧ t < 10 := q_law_taken (n + 9) _ hc5 [] 10 (by decide) ⟨by decide, by decide⟩
  have m6 := ncM_row hc6
  obtain ⟨x2, hx2, hxx2⟩ := at_in es2 D.clo w w1 w2
  obtain ⟨d3, c7, e7, hc7, hd3⟩ : ∃ d c', L.phi (n + 10) i_law_pick [.mr 1, .lst oddI] [.tab, c6] = .ok d [.tab, c'] ∧ RowOk c' ∧ d ∈ oddI := q_law_pick (n + 8) _ hc6 [] _ (by simp [oddI]) (by simp [oddI])
  have m7 := ncM_row hc7
  obtain ⟨d4, c8, e8, hc8, hd4⟩ : ∃ d c', L.phi (n + 10) i_law_pick [.mr 1, .lst oddR] [.tab, c7] = .ok d [.tab, c'] ∧ RowOk c' ∧ d ∈ oddR := q_law_pick (n + 8) _ hc7 [] _ (by simp [oddR]) (by simp [oddR])
  have m8 := ncM_row hc8
  obtain ⟨y, c9, e9, hc9, y1, y2⟩ : ∃ t c', L.phi (n + 10) i_law_taken [.mr 1, .int 8] [.tab, c8] = .ok (.int t) [.tab, c'] ∧ RowOk c' ∧ 0 ≤ t ∧ t < 8 := q_law_taken (n + 9) _ hc8 [] 8 (by decide) ⟨by decide, by decide⟩
  have m9 := ncM_row hc9
  obtain ⟨x3, hx3, hxx3⟩ := at_in es3 D.clo y y1 y2
  obtain ⟨r0, c10, e10, hc10, hr0⟩ : ∃ d c', L.phi (n + 10) i_law_pick [.mr 1, .lst (rulesL.map D.str)] [.tab, c9] = .ok d [.tab, c'] ∧ RowOk c' ∧ d ∈ rulesL.map D.str := q_law_pick (n + 8) _ hc9 [] _ (by simp [rulesL]) (by simp [rulesL])
  have m10 := ncM_row hc10
  obtain ⟨r, hr1, rfl⟩ := List.mem_map.mp hr0
  have hr := rule_mem hr1
  obtain ⟨k, hk⟩ : ∃ k, arR r = k := ⟨_, rfl⟩
  have hk3 : k = 1 ∨ k = 2 ∨ k = 3 := by rw [← hk]; exact arR_3 hr
  obtain ⟨d5, c11, e11, hc11, hd5⟩ : ∃ d c', L.phi (n + 10) i_law_pick [.mr 1, .lst (oddB f a k)] [.tab, c10] = .ok d [.tab, c'] ∧ RowOk c' ∧ d ∈ oddB f a k := q_law_pick (n + 8) _ hc10 [] _ (by simp [oddB]) (by simp [oddB])
  have m11 := ncM_row hc11
  have gl := fun S => q_law_low (n + 9) f hf S
  have gh := fun S => q_law_high (n + 9) f hf S
  have qf := fun S => q_is_format (n + 7) f hf S
  have pw : powC 10 60 = true := by decide +kernel
  have s0 : exec (X.C (n + 10)) (stN 0 b_law) [some (.scr ns), none, none, none, none, none, none, none, none] [.tab] = .nx [some (.scr ns), some (.mr 1), none, none, none, none, none, none, none] [.tab, .lst [.scr ns, .int 0, .int 15308, .int 0]] := by kernel_rfl
  have s1 : exec (X.C (n + 10)) (stN 1 b_law) [some (.scr ns), some (.mr 1), none, none, none, none, none, none, none] [.tab, .lst [.scr ns, .int 0, .int 15308, .int 0]] = .nx [some (.scr ns), some (.mr 1), some f.D, none, none, none, none, none, none] [.tab, c1] := by
    simp only [dz0, dz1, dz2, dz3, dz4, dz5, dz6, dz7, Option.isNone_none, Option.isNone_some, Int.reduceSub, Int.reduceAdd, ne_eq, Int.reduceEq, Int.reduceNe, low, lows, putD, List.mem_cons, List.not_mem_nil, or_self, or_false, false_or, not_false_eq_true, Bool.and_self, Bool.true_and, Bool.and_true, Bool.false_and, Bool.and_false, Bool.or_false, Bool.or_true, Bool.false_or, Bool.true_or, Nat.reduceLeDiff, Nat.reduceLT, String.reduceEq, List.map_cons, List.map_nil, List.length_cons, List.length_nil, List.replicate, List.cons_append, List.nil_append, List.getElem?_cons_succ, List.getElem?_cons_zero, List.set_cons_succ, List.set_cons_zero, flat, lenG, binD, cmpD, getKD, isD, optB, id, decide_true, decide_false, Nat.reduceAdd, Nat.reduceSub, Bool.not_true, Bool.not_false, CV.dv, getI, Int.cast_ofNat_Int, fldD, getK, if_true, if_false, ite_true, ite_false, reduceIte, Int.reduceLE, Int.reduceLT, Int.reduceToNat, Option.bind, tb0, tb1, tb2, dz7, dx0, stN, b_law, nc, ncs, ncM_l, ncM_t, ncS, xL, e1]
  have s4 : exec (X.C (n + 10)) (stN 4 b_law) [some (.scr ns), some (.mr 1), some f.D, some (.lst (oddF f)), none, none, none, none, none] [.tab, c1] = .nx [some (.scr ns), some (.mr 1), some f.D, some (.lst (oddF f)), some d, none, none, none, none] [.tab, c2] := by
    generalize oddF f = od at hdx ⊢
    simp only [dz0, dz1, dz2, dz3, dz4, dz5, dz6, dz7, Option.isNone_none, Option.isNone_some, Int.reduceSub, Int.reduceAdd, ne_eq, Int.reduceEq, Int.reduceNe, low, lows, putD, List.mem_cons, List.not_mem_nil, or_self, or_false, false_or, not_false_eq_true, Bool.and_self, Bool.true_and, Bool.and_true, Bool.false_and, Bool.and_false, Bool.or_false, Bool.or_true, Bool.false_or, Bool.true_or, Nat.reduceLeDiff, Nat.reduceLT, String.reduceEq, List.map_cons, List.map_nil, List.length_cons, List.length_nil, List.replicate, List.cons_append, List.nil_append, List.getElem?_cons_succ, List.getElem?_cons_zero, List.set_cons_succ, List.set_cons_zero, flat, lenG, binD, cmpD, getKD, isD, optB, id, decide_true, decide_false, Nat.reduceAdd, Nat.reduceSub, Bool.not_true, Bool.not_false, CV.dv, getI, Int.cast_ofNat_Int, fldD, getK, if_true, if_false, ite_true, ite_false, reduceIte, Int.reduceLE, Int.reduceLT, Int.reduceToNat, Option.bind, tb0, tb1, tb2, dz7, dx0, stN, b_law, nc, ncs, ncM_l, ncM_t, ncS, xL, m1, e2, hdx]
  have s9 : exec (X.C (n + 10)) (stN 9 b_law) [some (.scr ns), some (.mr 1), some f.D, some (.lst (oddF f)), some d, some (.lst (es1.map D.clo)), none, none, none] [.tab, c2] = .nx [some (.scr ns), some (.mr 1), some f.D, some (.lst (oddF f)), some d, some (.lst (es1.map D.clo)), none, none, none] [.tab, c3] := by
    have g1 := fun z => ev_1 n f c3 d (some (.scr ns)) (some (.mr 1)) (some (.lst (oddF f))) z none none x none m3 hd hx
    have g2 := r_is_format n f c3 d hd
    have nd := nc_F hd
    generalize es1.map D.clo = wl at hxx ⊢
    generalize oddF f = od at g1 ⊢
    simp only [dz0, dz1, dz2, dz3, dz4, dz5, dz6, dz7, Option.isNone_none, Option.isNone_some, Int.reduceSub, Int.reduceAdd, ne_eq, Int.reduceEq, Int.reduceNe, low, lows, putD, List.mem_cons, List.not_mem_nil, or_self, or_false, false_or, not_false_eq_true, Bool.and_self, Bool.true_and, Bool.and_true, Bool.false_and, Bool.and_false, Bool.or_false, Bool.or_true, Bool.false_or, Bool.true_or, Nat.reduceLeDiff, Nat.reduceLT, String.reduceEq, List.map_cons, List.map_nil, List.length_cons, List.length_nil, List.replicate, List.cons_append, List.nil_append, List.getElem?_cons_succ, List.getElem?_cons_zero, List.set_cons_succ, List.set_cons_zero, flat, lenG, binD, cmpD, getKD, isD, optB, id, decide_true, decide_false, Nat.reduceAdd, Nat.reduceSub, Bool.not_true, Bool.not_false, CV.dv, getI, Int.cast_ofNat_Int, fldD, getK, if_true, if_false, ite_true, ite_false, reduceIte, Int.reduceLE, Int.reduceLT, Int.reduceToNat, Option.bind, tb0, tb1, tb2, dz7, dx0, stN, b_law, nc, ncs, ncM_l, ncM_t, ncS, xL, m2, m3, e3, hxx, g1, g2, nd, nf, qf, res_1]
  have s10 : exec (X.C (n + 10)) (stN 10 b_law) [some (.scr ns), some (.mr 1), some f.D, some (.lst (oddF f)), some d, some (.lst (es1.map D.clo)), none, none, none] [.tab, c3] = .nx [some (.scr ns), some (.mr 1), some f.D, some (.lst (oddN f)), some d, some (.lst (es1.map D.clo)), some (.int a), none, none] [.tab, c4] := by
    unfold oddN
    generalize es1.map D.clo = wl
    generalize oddF f = od
    simp only [dz0, dz1, dz2, dz3, dz4, dz5, dz6, dz7, Option.isNone_none, Option.isNone_some, Int.reduceSub, Int.reduceAdd, ne_eq, Int.reduceEq, Int.reduceNe, low, lows, putD, List.mem_cons, List.not_mem_nil, or_self, or_false, false_or, not_false_eq_true, Bool.and_self, Bool.true_and, Bool.and_true, Bool.false_and, Bool.and_false, Bool.or_false, Bool.or_true, Bool.false_or, Bool.true_or, Nat.reduceLeDiff, Nat.reduceLT, String.reduceEq, List.map_cons, List.map_nil, List.length_cons, List.length_nil, List.replicate, List.cons_append, List.nil_append, List.getElem?_cons_succ, List.getElem?_cons_zero, List.set_cons_succ, List.set_cons_zero, flat, lenG, binD, cmpD, getKD, isD, optB, id, decide_true, decide_false, Nat.reduceAdd, Nat.reduceSub, Bool.not_true, Bool.not_false, CV.dv, getI, Int.cast_ofNat_Int, fldD, getK, if_true, if_false, ite_true, ite_false, reduceIte, Int.reduceLE, Int.reduceLT, Int.reduceToNat, Option.bind, tb0, tb1, tb2, dz7, dx0, stN, b_law, nc, ncs, ncM_l, ncM_t, ncS, xL, m3, m4, e4, nf, gl, gh]
  have s11 : exec (X.C (n + 10)) (stN 11 b_law) [some (.scr ns), some (.mr 1), some f.D, some (.lst (oddN f)), some d, some (.lst (es1.map D.clo)), some (.int a), none, none] [.tab, c4] = .nx [some (.scr ns), some (.mr 1), some f.D, some (.lst (oddN f)), some d2, some (.lst (es1.map D.clo)), some (.int a), none, none] [.tab, c5] := by
    generalize oddN f = od at hdx2 ⊢
    generalize es1.map D.clo = wl
    simp only [dz0, dz1, dz2, dz3, dz4, dz5, dz6, dz7, Option.isNone_none, Option.isNone_some, Int.reduceSub, Int.reduceAdd, ne_eq, Int.reduceEq, Int.reduceNe, low, lows, putD, List.mem_cons, List.not_mem_nil, or_self, or_false, false_or, not_false_eq_true, Bool.and_self, Bool.true_and, Bool.and_true, Bool.false_and, Bool.and_false, Bool.or_false, Bool.or_true, Bool.false_or, Bool.true_or, Nat.reduceLeDiff, Nat.reduceLT, String.reduceEq, List.map_cons, List.map_nil, List.length_cons, List.length_nil, List.replicate, List.cons_append, List.nil_append, List.getElem?_cons_succ, List.getElem?_cons_zero, List.set_cons_succ, List.set_cons_zero, flat, lenG, binD, cmpD, getKD, isD, optB, id, decide_true, decide_false, Nat.reduceAdd, Nat.reduceSub, Bool.not_true, Bool.not_false, CV.dv, getI, Int.cast_ofNat_Int, fldD, getK, if_true, if_false, ite_true, ite_false, reduceIte, Int.reduceLE, Int.reduceLT, Int.reduceToNat, Option.bind, tb0, tb1, tb2, dz7, dx0, stN, b_law, nc, ncs, ncM_l, ncM_t, ncS, xL, m4, e5, hdx2]
  have s15 : exec (X.C (n + 10)) (stN 15 b_law) [some (.scr ns), some (.mr 1), some f.D, some (.lst (oddN f)), some d2, some (.lst (es2.map D.clo)), some (.int a), none, none] [.tab, c5] = .nx [some (.scr ns), some (.mr 1), some f.D, some (.lst (oddN f)), some d2, some (.lst (es2.map D.clo)), some (.int a), none, none] [.tab, c6] := by
    have g1 := fun z => ev_2 n f c6 d2 (some (.scr ns)) (some (.mr 1)) (some (.lst (oddN f))) z none none x2 a hf m6 ia hd2 hx2
    have g2 := w_is n f hf c6 d2 hd2
    have g3 := w_isn n f hf a ia c6
    have nd := nc_N hd2
    generalize es2.map D.clo = wl at hxx2 ⊢
    generalize oddN f = od at g1 ⊢
    simp only [dz0, dz1, dz2, dz3, dz4, dz5, dz6, dz7, Option.isNone_none, Option.isNone_some, Int.reduceSub, Int.reduceAdd, ne_eq, Int.reduceEq, Int.reduceNe, low, lows, putD, List.mem_cons, List.not_mem_nil, or_self, or_false, false_or, not_false_eq_true, Bool.and_self, Bool.true_and, Bool.and_true, Bool.false_and, Bool.and_false, Bool.or_false, Bool.or_true, Bool.false_or, Bool.true_or, Nat.reduceLeDiff, Nat.reduceLT, String.reduceEq, List.map_cons, List.map_nil, List.length_cons, List.length_nil, List.replicate, List.cons_append, List.nil_append, List.getElem?_cons_succ, List.getElem?_cons_zero, List.set_cons_succ, List.set_cons_zero, flat, lenG, binD, cmpD, getKD, isD, optB, id, decide_true, decide_false, Nat.reduceAdd, Nat.reduceSub, Bool.not_true, Bool.not_false, CV.dv, getI, Int.cast_ofNat_Int, fldD, getK, if_true, if_false, ite_true, ite_false, reduceIte, Int.reduceLE, Int.reduceLT, Int.reduceToNat, Option.bind, tb0, tb1, tb2, dz7, dx0, stN, b_law, nc, ncs, ncM_l, ncM_t, ncS, xL, m5, m6, e6, hxx2, g1, g2, g3, nd, nf, res_3]
  have s16 : exec (X.C (n + 10)) (stN 16 b_law) [some (.scr ns), some (.mr 1), some f.D, some (.lst (oddN f)), some d2, some (.lst (es2.map D.clo)), some (.int a), none, none] [.tab, c6] = .nx [some (.scr ns), some (.mr 1), some f.D, some (.lst (oddN f)), some d2, some (.lst (es2.map D.clo)), some (.int a), none, none] [.tab, c7] := by
    have g1 := w_fit n f hf c7 d3 hd3
    have nd := nc_I hd3
    unfold oddI at e7
    generalize es2.map D.clo = wl
    generalize oddN f = od
    simp only [dz0, dz1, dz2, dz3, dz4, dz5, dz6, dz7, Option.isNone_none, Option.isNone_some, Int.reduceSub, Int.reduceAdd, ne_eq, Int.reduceEq, Int.reduceNe, low, lows, putD, List.mem_cons, List.not_mem_nil, or_self, or_false, false_or, not_false_eq_true, Bool.and_self, Bool.true_and, Bool.and_true, Bool.false_and, Bool.and_false, Bool.or_false, Bool.or_true, Bool.false_or, Bool.true_or, Nat.reduceLeDiff, Nat.reduceLT, String.reduceEq, List.map_cons, List.map_nil, List.length_cons, List.length_nil, List.replicate, List.cons_append, List.nil_append, List.getElem?_cons_succ, List.getElem?_cons_zero, List.set_cons_succ, List.set_cons_zero, flat, lenG, binD, cmpD, getKD, isD, optB, id, decide_true, decide_false, Nat.reduceAdd, Nat.reduceSub, Bool.not_true, Bool.not_false, CV.dv, getI, Int.cast_ofNat_Int, fldD, getK, if_true, if_false, ite_true, ite_false, reduceIte, Int.reduceLE, Int.reduceLT, Int.reduceToNat, Option.bind, tb0, tb1, tb2, dz7, dx0, stN, b_law, nc, ncs, ncM_l, ncM_t, ncS, xL, m6, m7, e7, g1, nd, nf, pw, Int.reducePow, Int.reduceNeg, res_2]
  have s17 : exec (X.C (n + 10)) (stN 17 b_law) [some (.scr ns), some (.mr 1), some f.D, some (.lst (oddN f)), some d2, some (.lst (es2.map D.clo)), some (.int a), none, none] [.tab, c7] = .nx [some (.scr ns), some (.mr 1), some f.D, some (.lst (oddN f)), some d4, some (.lst (es2.map D.clo)), some (.int a), none, none] [.tab, c8] := by
    unfold oddR at e8
    generalize es2.map D.clo = wl
    generalize oddN f = od
    simp only [dz0, dz1, dz2, dz3, dz4, dz5, dz6, dz7, Option.isNone_none, Option.isNone_some, Int.reduceSub, Int.reduceAdd, ne_eq, Int.reduceEq, Int.reduceNe, low, lows, putD, List.mem_cons, List.not_mem_nil, or_self, or_false, false_or, not_false_eq_true, Bool.and_self, Bool.true_and, Bool.and_true, Bool.false_and, Bool.and_false, Bool.or_false, Bool.or_true, Bool.false_or, Bool.true_or, Nat.reduceLeDiff, Nat.reduceLT, String.reduceEq, List.map_cons, List.map_nil, List.length_cons, List.length_nil, List.replicate, List.cons_append, List.nil_append, List.getElem?_cons_succ, List.getElem?_cons_zero, List.set_cons_succ, List.set_cons_zero, flat, lenG, binD, cmpD, getKD, isD, optB, id, decide_true, decide_false, Nat.reduceAdd, Nat.reduceSub, Bool.not_true, Bool.not_false, CV.dv, getI, Int.cast_ofNat_Int, fldD, getK, if_true, if_false, ite_true, ite_false, reduceIte, Int.reduceLE, Int.reduceLT, Int.reduceToNat, Option.bind, tb0, tb1, tb2, dz7, dx0, stN, b_law, nc, ncs, ncM_l, ncM_t, ncS, xL, m7, e8]
  have s20 : exec (X.C (n + 10)) (stN 20 b_law) [some (.scr ns), some (.mr 1), some f.D, some (.lst (oddN f)), some d4, some (.lst (es3.map D.clo)), some (.int a), none, none] [.tab, c8] = .nx [some (.scr ns), some (.mr 1), some f.D, some (.lst (oddN f)), some d4, some (.lst (es3.map D.clo)), some (.int a), none, none] [.tab, c9] := by
    have g1 := fun z => ev_3 n f c9 d4 (some (.scr ns)) (some (.mr 1)) (some (.lst (oddN f))) z none none x3 (some (.int a)) hf m9 hd4 hx3
    generalize es3.map D.clo = wl at hxx3 ⊢
    generalize oddN f = od at g1 ⊢
    simp only [dz0, dz1, dz2, dz3, dz4, dz5, dz6, dz7, Option.isNone_none, Option.isNone_some, Int.reduceSub, Int.reduceAdd, ne_eq, Int.reduceEq, Int.reduceNe, low, lows, putD, List.mem_cons, List.not_mem_nil, or_self, or_false, false_or, not_false_eq_true, Bool.and_self, Bool.true_and, Bool.and_true, Bool.false_and, Bool.and_false, Bool.or_false, Bool.or_true, Bool.false_or, Bool.true_or, Nat.reduceLeDiff, Nat.reduceLT, String.reduceEq, List.map_cons, List.map_nil, List.length_cons, List.length_nil, List.replicate, List.cons_append, List.nil_append, List.getElem?_cons_succ, List.getElem?_cons_zero, List.set_cons_succ, List.set_cons_zero, flat, lenG, binD, cmpD, getKD, isD, optB, id, decide_true, decide_false, Nat.reduceAdd, Nat.reduceSub, Bool.not_true, Bool.not_false, CV.dv, getI, Int.cast_ofNat_Int, fldD, getK, if_true, if_false, ite_true, ite_false, reduceIte, Int.reduceLE, Int.reduceLT, Int.reduceToNat, Option.bind, tb0, tb1, tb2, dz7, dx0, stN, b_law, nc, ncs, ncM_l, ncM_t, ncS, xL, m8, m9, e9, hxx3, g1, res_4]
  have s21 : exec (X.C (n + 10)) (stN 21 b_law) [some (.scr ns), some (.mr 1), some f.D, some (.lst (oddN f)), some d4, some (.lst (es3.map D.clo)), some (.int a), none, none] [.tab, c9] = .nx [some (.scr ns), some (.mr 1), some f.D, some (.lst (oddN f)), some d4, some (.lst (es3.map D.clo)), some (.int a), some (.str r), none] [.tab, c10] := by
    have g1 := fun S => q_law_rules (n + 9) S
    have g2 := ncs_strs2 rulesL
    generalize es3.map D.clo = wl
    generalize oddN f = od
    generalize rulesL.map D.str = rl at e10 g1 g2
    simp only [dz0, dz1, dz2, dz3, dz4, dz5, dz6, dz7, Option.isNone_none, Option.isNone_some, Int.reduceSub, Int.reduceAdd, ne_eq, Int.reduceEq, Int.reduceNe, low, lows, putD, List.mem_cons, List.not_mem_nil, or_self, or_false, false_or, not_false_eq_true, Bool.and_self, Bool.true_and, Bool.and_true, Bool.false_and, Bool.and_false, Bool.or_false, Bool.or_true, Bool.false_or, Bool.true_or, Nat.reduceLeDiff, Nat.reduceLT, String.reduceEq, List.map_cons, List.map_nil, List.length_cons, List.length_nil, List.replicate, List.cons_append, List.nil_append, List.getElem?_cons_succ, List.getElem?_cons_zero, List.set_cons_succ, List.set_cons_zero, flat, lenG, binD, cmpD, getKD, isD, optB, id, decide_true, decide_false, Nat.reduceAdd, Nat.reduceSub, Bool.not_true, Bool.not_false, CV.dv, getI, Int.cast_ofNat_Int, fldD, getK, if_true, if_false, ite_true, ite_false, reduceIte, Int.reduceLE, Int.reduceLT, Int.reduceToNat, Option.bind, tb0, tb1, tb2, dz7, dx0, stN, b_law, nc, ncs, ncM_l, ncM_t, ncS, xL, m9, e10, g1, g2]
  have s22 : exec (X.C (n + 10)) (stN 22 b_law) [some (.scr ns), some (.mr 1), some f.D, some (.lst (oddN f)), some d4, some (.lst (es3.map D.clo)), some (.int a), some (.str r), none] [.tab, c10] = .nx [some (.scr ns), some (.mr 1), some f.D, some (.lst (oddN f)), some d4, some (.lst (es3.map D.clo)), some (.int a), some (.str r), some (.tup (List.replicate k (.int a)))] [.tab, c10] := by
    have g1 := fun S => q_law_many (n + 9) r hr S
    rw [hk] at g1
    generalize es3.map D.clo = wl
    generalize oddN f = od
    rcases hk3 with z | z | z <;> subst z <;> simp only [dz0, dz1, dz2, dz3, dz4, dz5, dz6, dz7, Option.isNone_none, Option.isNone_some, Int.reduceSub, Int.reduceAdd, ne_eq, Int.reduceEq, Int.reduceNe, low, lows, putD, List.mem_cons, List.not_mem_nil, or_self, or_false, false_or, not_false_eq_true, Bool.and_self, Bool.true_and, Bool.and_true, Bool.false_and, Bool.and_false, Bool.or_false, Bool.or_true, Bool.false_or, Bool.true_or, Nat.reduceLeDiff, Nat.reduceLT, String.reduceEq, List.map_cons, List.map_nil, List.length_cons, List.length_nil, List.replicate, List.cons_append, List.nil_append, List.getElem?_cons_succ, List.getElem?_cons_zero, List.set_cons_succ, List.set_cons_zero, flat, lenG, binD, cmpD, getKD, isD, optB, id, decide_true, decide_false, Nat.reduceAdd, Nat.reduceSub, Bool.not_true, Bool.not_false, CV.dv, getI, Int.cast_ofNat_Int, fldD, getK, if_true, if_false, ite_true, ite_false, reduceIte, Int.reduceLE, Int.reduceLT, Int.reduceToNat, Option.bind, tb0, tb1, tb2, dz7, dx0, stN, b_law, nc, ncs, ncM_l, ncM_t, ncS, xL, m10, g1, List.isEmpty_cons, List.flatten_cons, List.flatten_nil]
  have s23 : exec (X.C (n + 10)) (stN 23 b_law) [some (.scr ns), some (.mr 1), some f.D, some (.lst (oddN f)), some d4, some (.lst (es3.map D.clo)), some (.int a), some (.str r), some (.tup (List.replicate k (.int a)))] [.tab, c10] = .nx [some (.scr ns), some (.mr 1), some f.D, some (.lst (oddN f)), some d5, some (.lst (es3.map D.clo)), some (.int a), some (.str r), some (.tup (List.replicate k (.int a)))] [.tab, c11] := by
    have g1 := fun S => q_law_many (n + 9) r hr S
    rw [hk] at g1
    unfold oddB at e11
    generalize es3.map D.clo = wl
    generalize oddN f = od
    rcases hk3 with z | z | z <;> subst z <;> simp only [List.replicate, List.dropLast, List.nil_append, List.cons_append] at e11 <;> simp only [dz0, dz1, dz2, dz3, dz4, dz5, dz6, dz7, Option.isNone_none, Option.isNone_some, Int.reduceSub, Int.reduceAdd, ne_eq, Int.reduceEq, Int.reduceNe, low, lows, putD, List.mem_cons, List.not_mem_nil, or_self, or_false, false_or, not_false_eq_true, Bool.and_self, Bool.true_and, Bool.and_true, Bool.false_and, Bool.and_false, Bool.or_false, Bool.or_true, Bool.false_or, Bool.true_or, Nat.reduceLeDiff, Nat.reduceLT, String.reduceEq, List.map_cons, List.map_nil, List.length_cons, List.length_nil, List.replicate, List.cons_append, List.nil_append, List.getElem?_cons_succ, List.getElem?_cons_zero, List.set_cons_succ, List.set_cons_zero, flat, lenG, binD, cmpD, getKD, isD, optB, id, decide_true, decide_false, Nat.reduceAdd, Nat.reduceSub, Bool.not_true, Bool.not_false, CV.dv, getI, Int.cast_ofNat_Int, fldD, getK, if_true, if_false, ite_true, ite_false, reduceIte, Int.reduceLE, Int.reduceLT, Int.reduceToNat, Option.bind, tb0, tb1, tb2, dz7, dx0, stN, b_law, nc, ncs, ncM_l, ncM_t, ncS, xL, m10, m11, nf, g1, gh, e11, slm1, slm2, slm3, List.isEmpty_cons, List.flatten_cons, List.flatten_nil, Int.reduceNeg]
  have nd5 : nc d5 = true := by
    unfold oddB at hd5
    rcases hk3 with z | z | z <;> subst z <;> simp only [List.replicate, List.dropLast, List.nil_append, List.cons_append, List.mem_cons, List.not_mem_nil, or_false] at hd5 <;> rcases hd5 with e | e | e | e | e | e | e | e <;> subst e <;> rfl
  have s24 : exec (X.C (n + 10)) (stN 24 b_law) [some (.scr ns), some (.mr 1), some f.D, some (.lst (oddN f)), some d5, some (.lst (es3.map D.clo)), some (.int a), some (.str r), some (.tup (List.replicate k (.int a)))] [.tab, c11] = .rt (.bl true) [.tab, c11] := by
    have g1 := u_holds_for n f hf a ia r hr c11 d5 k hk hk3 hd5
    generalize es3.map D.clo = wl
    generalize oddN f = od
    generalize List.replicate k (D.int a) = sm
    simp only [dz0, dz1, dz2, dz3, dz4, dz5, dz6, dz7, Option.isNone_none, Option.isNone_some, Int.reduceSub, Int.reduceAdd, ne_eq, Int.reduceEq, Int.reduceNe, low, lows, putD, List.mem_cons, List.not_mem_nil, or_self, or_false, false_or, not_false_eq_true, Bool.and_self, Bool.true_and, Bool.and_true, Bool.false_and, Bool.and_false, Bool.or_false, Bool.or_true, Bool.false_or, Bool.true_or, Nat.reduceLeDiff, Nat.reduceLT, String.reduceEq, List.map_cons, List.map_nil, List.length_cons, List.length_nil, List.replicate, List.cons_append, List.nil_append, List.getElem?_cons_succ, List.getElem?_cons_zero, List.set_cons_succ, List.set_cons_zero, flat, lenG, binD, cmpD, getKD, isD, optB, id, decide_true, decide_false, Nat.reduceAdd, Nat.reduceSub, Bool.not_true, Bool.not_false, CV.dv, getI, Int.cast_ofNat_Int, fldD, getK, if_true, if_false, ite_true, ite_false, reduceIte, Int.reduceLE, Int.reduceLT, Int.reduceToNat, Option.bind, tb0, tb1, tb2, dz7, dx0, stN, b_law, nc, ncs, ncM_l, ncM_t, ncS, xL, m11, nf, nd5, g1, res_5]
  have key : execs (X.C (n + 10)) b_law [some (.scr ns), none, none, none, none, none, none, none, none] [.tab] = .rt (.bl true) [.tab, c11] := by
    show execs (X.C (n + 10)) (.cons (stN 0 b_law) (.cons (stN 1 b_law) (.cons (stN 2 b_law) (.cons (stN 3 b_law) (.cons (stN 4 b_law) (.cons (stN 5 b_law) (.cons (stN 6 b_law) (.cons (stN 7 b_law) (.cons (stN 8 b_law) (.cons (stN 9 b_law) (.cons (stN 10 b_law) (.cons (stN 11 b_law) (.cons (stN 12 b_law) (.cons (stN 13 b_law) (.cons (stN 14 b_law) (.cons (stN 15 b_law) (.cons (stN 16 b_law) (.cons (stN 17 b_law) (.cons (stN 18 b_law) (.cons (stN 19 b_law) (.cons (stN 20 b_law) (.cons (stN 21 b_law) (.cons (stN 22 b_law) (.cons (stN 23 b_law) (.cons (stN 24 b_law) .nil))))))))))))))))))))))))) [some (.scr ns), none, none, none, none, none, none, none, none] [.tab] = _
    rw [stp s0, stp s1, stp (odd_a _ _ _ _ _ _ _ _ _), stp (odd_b _ _ _ _ _ _ _ _ _ _), stp s4, stp (wk_5 _ _ _ _ _ _ _ _ _ _), stp (wk_6 _ _ _ _ _ _ _ _ _ _), stp (wk_7 _ _ _ _ _ _ _ _ _ _), stp (wk_8 _ _ _ _ _ _ _ _ _ _), stp s9, stp s10, stp s11,
      stp (wk_12 _ _ _ _ _ _ _ _ _ _ _), stp (wk_13 _ _ _ _ _ _ _ _ _ _), stp (wk_14 _ _ _ _ _ _ _ _ _ _), stp s15, stp s16, stp s17, stp (wk_18 _ _ _ _ _ _ _ _ _ _ _), stp (wk_19 _ _ _ _ _ _ _ _ _ _), stp s20, stp s21, stp s22, stp s23, xs_cons, s24]
    rfl
  refine ⟨[.tab, c11].take 1, ?_⟩
  rw [p_law]
  show (match execs (X.C (n + 10)) b_law [some (.scr ns), none, none, none, none, none, none, none, none] [.tab] with | .nx _ S' => fin 1 .non S' | .rt d S' => fin 1 d S' | .ex c S' => .exc c (S'.take 1) | _ => .bad) = _
  rw [key]
  rfl
theorem law_holds (ns : List Int) (_ : ns.length ≤ 63) : ∃ S', X.phi 28 [.scr ns] [.tab] = .ok (.bl true) S' := q_law 18 ns
end K08

theorem PySem.Challenge.cw_widthrules_k08_whole_refused_holds : PySem.Challenge.rw_widthrules_k08_whole_refused.Holds := by
  exact K08.holds_of K08.law_holds
