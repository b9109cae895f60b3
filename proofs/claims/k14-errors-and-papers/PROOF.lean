import PyProof.Rows.All
import Wide.All
import OpenK.AllK
import Wide.FinOn
import HandS.ForMost
import HandS.ForExc
import HandS.Walk
import HandS.Star
import HandS.ClsMeth
import HandS.MakeKw
import HandS.MakeKwOnly
import HandS.Zip
import HandS.TupAny
import HandS.DictComp
import HandS.Defaults
import HandS.IsInst
import HandS.MethStar
import HandS.RaiseMore
import HandS.CallSlots
import HandS.Flow
import HandS.Style
import HandS.Conv
import HandS.ExcInit
import HandS.Deep
import KE.KIsAll
import KE.KTryMore
import HandS.ExcIs
import HandS.ExcField
import HandS.ListEq
import HandS.DictEq
import HandS.DeepEq
import HandS.OwnEq
import HandS.Small
import HandS.Words
import HandS.HeadHook1
import HandS.HeadHook2
import HandS.HeadHook3
import HandS.HeadHook4
import KE.KStateDown
import HandS.Ends
import HandS.More
import HandS.Head0
import HandS.Head1
import HandS.Head2
import HandS.HeadEnd
import PySem.Challenge.RW_lastcall_k14_errors_and_papers_and_what
set_option Elab.async false
set_option linter.all false
set_option maxRecDepth 100000
set_option maxHeartbeats 0
/-! EV0: symbolic values, a small symbolic heap, and what relates them to the layer's abstract heap. -/
namespace EV
open PySem PySem.Spec PyProof.Rows L2

/-- the written part, and where its classes stand -/
structure KG where
  K : PySem.W.Frag
  G : Nat → Addr
/-- a text's codes -/
abbrev Cs := List Nat
def toS (x : Cs) : Str := ⟨x.toArray⟩
theorem toS_inj {x y : Cs} (h : toS x = toS y) : x = y := by
  have := congrArg (fun s : Str => s.cps.toList) h
  simpa [toS] using this

/-- symbolic values. Pure ones hold no ref; ref: an object of the symbolic heap; tupR: a tuple that may hold refs; un: nothing is known -/
inductive SV where
  | un | non | bl (b : Bool) | int (i : Int) | str (x : Cs) | ty (n : String) | gl (c : Nat) | ref (n : Nat)
  | tup (l : List SV) | lst (l : List SV) | dct (l : List (SV × SV)) | ins (C : Nat) (fs : List (Cs × SV)) | xo (C : Nat) (fs : List (Cs × SV)) | arg (l : List SV) | tupR (l : List SV)
  deriving Inhabited

/-- symbolic objects (mutable). lk: locked while it is walked (read alone) -/
inductive SO where
  | lst (l : List SV) | dct (l : List (SV × SV)) | ins (C : Nat) (fs : List (Cs × SV)) | lk (o : SO)
  deriving Inhabited

abbrev SHp := List SO
abbrev SSt := List SV
/-- what an expression comes to -/
inductive R where
  | val (v : SV) (h : SHp) | exc (C : Nat) (fs : List (Cs × SV)) (h : SHp) | bad
  deriving Inhabited
abbrev M := SSt → SHp → R

def keyOf : SV → Option Key
  | .int i => some (.inl i)
  | .str x => some (.inr (toS x))
  | _ => none

section
variable (K : KG) (T : Addr → Prop) (H : Hp)
mutual
/-- pure values: immutable, or never written any more -/
inductive RP : SV → V → Prop
  | non : RP .non .non
  | bl (b : Bool) : RP (.bl b) (.bl b)
  | int (i : Int) : RP (.int i) (.int i)
  | str (x : Cs) : RP (.str x) (.str (toS x))
  | ty (n : String) : RP (.ty n) (.ty n)
  | gl (c : Nat) : RP (.gl c) (.ref (K.G c))
  | tup {a : Addr} {vs : List V} {l : List SV} (h : SqT K.K H a vs) (r : RPs l vs) : RP (.tup l) (.ref a)
  | lst {a : Addr} {vs : List V} {l : List SV} (h : Rd H a (.lst vs)) (t : ¬ T a) (r : RPs l vs) : RP (.lst l) (.ref a)
  | arg {a : Addr} {vs : List V} {l : List SV} (h : ∀ H', SqL K.K H' a vs) (r : RPs l vs) : RP (.arg l) (.ref a)
  | dct {a : Addr} {kvs : List (Key × V)} {l : List (SV × SV)} (h : Rd H a (.dK kvs)) (t : ¬ T a) (r : RPk l kvs) : RP (.dct l) (.ref a)
  | ins {a dx : Addr} {C : Nat} {fs' : List (Str × V)} {fs : List (Cs × SV)} (h : H a = some (.ins (K.G C) dx fs')) (t : ¬ T a) (r : RPf fs fs') : RP (.ins C fs) (.ref a)
  | xo {a d : Addr} {C : Nat} {fs' : List (Str × V)} {fs : List (Cs × SV)} (h : H a = some (exo a (K.G C) (some d))) (h2 : H d = some (exd d fs')) (t : ¬ T a) (t2 : ¬ T d) (r : RPf fs fs') : RP (.xo C fs) (.ref a)
inductive RPs : List SV → List V → Prop
  | nil : RPs [] []
  | cons {v : SV} {w : V} {l : List SV} {ws : List V} (h : RP v w) (r : RPs l ws) : RPs (v :: l) (w :: ws)
inductive RPk : List (SV × SV) → List (Key × V) → Prop
  | nil : RPk [] []
  | cons {k v : SV} {k' : Key} {w : V} {l : List (SV × SV)} {ws : List (Key × V)} (hk : keyOf k = some k') (h : RP v w) (r : RPk l ws) : RPk ((k, v) :: l) ((k', w) :: ws)
inductive RPf : List (Cs × SV) → List (Str × V) → Prop
  | nil : RPf [] []
  | cons {f : Cs} {v : SV} {w : V} {l : List (Cs × SV)} {ws : List (Str × V)} (h : RP v w) (r : RPf l ws) : RPf ((f, v) :: l) ((toS f, w) :: ws)
end
end

/-- tracked addresses -/
def Tr (μ : Nat → Addr) (n : Nat) (a : Addr) : Prop := ∃ i, i < n ∧ μ i = a

section
variable (K : KG) (μ : Nat → Addr) (n : Nat) (H : Hp)
inductive RS1 : SV → V → Prop
  | un (w : V) : RS1 .un w
  | pure {v : SV} {w : V} (h : RP K (Tr μ n) H v w) : RS1 v w
  | ref (i : Nat) (h : i < n) : RS1 (.ref i) (.ref (μ i))
inductive RSs1 : List SV → List V → Prop
  | nil : RSs1 [] []
  | cons {v : SV} {w : V} {l : List SV} {ws : List V} (h : RS1 K μ n H v w) (r : RSs1 l ws) : RSs1 (v :: l) (w :: ws)
inductive RS : SV → V → Prop
  | one {v : SV} {w : V} (h : RS1 K μ n H v w) : RS v w
  | tupR {a : Addr} {vs : List V} {l : List SV} (h : SqT K.K H a vs) (r : RSs1 K μ n H l vs) : RS (.tupR l) (.ref a)
inductive RSs : List SV → List V → Prop
  | nil : RSs [] []
  | cons {v : SV} {w : V} {l : List SV} {ws : List V} (h : RS K μ n H v w) (r : RSs l ws) : RSs (v :: l) (w :: ws)
inductive RSk : List (SV × SV) → List (Key × V) → Prop
  | nil : RSk [] []
  | cons {k v : SV} {k' : Key} {w : V} {l : List (SV × SV)} {ws : List (Key × V)} (hk : keyOf k = some k') (h : RS K μ n H v w) (r : RSk l ws) : RSk ((k, v) :: l) ((k', w) :: ws)
inductive RSf : List (Cs × SV) → List (Str × V) → Prop
  | nil : RSf [] []
  | cons {f : Cs} {v : SV} {w : V} {l : List (Cs × SV)} {ws : List (Str × V)} (h : RS K μ n H v w) (r : RSf l ws) : RSf ((f, v) :: l) ((toS f, w) :: ws)
/-- the slots -/
inductive RSt : List SV → List (Option V) → Prop
  | nil : RSt [] []
  | none {o : Option V} {l : List SV} {ws : List (Option V)} (r : RSt l ws) : RSt (.un :: l) (o :: ws)
  | cons {v : SV} {w : V} {l : List SV} {ws : List (Option V)} (h : RS K μ n H v w) (r : RSt l ws) : RSt (v :: l) (some w :: ws)
/-- an object -/
def RO : SO → Option HO → Prop
  | .lst l, o => ∃ vs, o = some (.lst vs) ∧ RSs K μ n H l vs
  | .dct l, o => ∃ kvs, o = some (.dK kvs) ∧ RSk K μ n H l kvs
  | .ins C fs, o => ∃ dx fs', o = some (.ins (K.G C) dx fs') ∧ RSf K μ n H fs fs'
  | .lk (.lst l), o => ∃ vs, o = some (.lst vs) ∧ RSs K μ n H l vs
  | .lk (.dct l), o => ∃ kvs ob, o = some (.frz ob (.dK kvs)) ∧ RSk K μ n H l kvs
  | .lk _, _ => False
end

/-- the symbolic heap stands in H -/
structure Sim (K : KG) (μ : Nat → Addr) (h : SHp) (H : Hp) : Prop where
  inj : ∀ i j, i < h.length → j < h.length → μ i = μ j → i = j
  obj : ∀ i o, h[i]? = some o → RO K μ h.length H o (H (μ i))

/-- what is never locked -/
def Solid : HO → Prop
  | .ins _ _ _ => True
  | .ext _ => True
  | _ => False
/-- what stays from one state to a later one -/
structure Fr (μ : Nat → Addr) (n : Nat) (H : Hp) (μ' : Nat → Addr) (n' : Nat) (H' : Hp) : Prop where
  le : n ≤ n'
  mu : ∀ i, i < n → μ' i = μ i
  rd : ∀ a u, Rd H a u → ¬ Tr μ n a → Rd H' a u
  tup : ∀ a vs, Rd H a (.tup vs) → Rd H' a (.tup vs)
  ins : ∀ a u, H a = some u → Solid u → ¬ Tr μ n a → H' a = some u
  frz : ∀ a o u, H a = some (.frz o u) → H' a = some (.frz o u)
  nt : ∀ a, (H a).isSome = true → ¬ Tr μ n a → ¬ Tr μ' n' a

section
variable {K : KG} {μ μ' μ2 : Nat → Addr} {n n' n2 : Nat} {H H' H2 : Hp} {T T' : Addr → Prop}

theorem rd_some {a : Addr} {u : HO} (h : Rd H a u) : (H a).isSome = true := by
  rcases h with h | ⟨o, h⟩ <;> rw [h] <;> rfl
theorem Fr.trans (a : Fr μ n H μ' n' H') (b : Fr μ' n' H' μ2 n2 H2) : Fr μ n H μ2 n2 H2 where
  le := Nat.le_trans a.le b.le
  mu := fun i hi => (b.mu i (Nat.lt_of_lt_of_le hi a.le)).trans (a.mu i hi)
  rd := fun c u q t => b.rd c u (a.rd c u q t) (a.nt c (rd_some q) t)
  tup := fun c vs q => b.tup c vs (a.tup c vs q)
  ins := fun c u q sd t => b.ins c u (a.ins c u q sd t) sd (a.nt c (by rw [q]; rfl) t)
  frz := fun c o u q => b.frz c o u (a.frz c o u q)
  nt := fun c q t => by
    obtain ⟨u, hu⟩ := Option.isSome_iff_exists.mp q
    have h1 := a.rd c u (.inl hu) t
    exact b.nt c (rd_some h1) (a.nt c q t)

theorem sqT_fr {a : Addr} {vs : List V} (f : ∀ a vs, Rd H a (.tup vs) → Rd H' a (.tup vs)) (h : SqT K.K H a vs) : SqT K.K H' a vs := by
  rcases h with h | h
  · exact .inl (f _ _ h)
  · exact .inr h

mutual
theorem RP.mono (rd : ∀ a u, Rd H a u → ¬ T a → Rd H' a u) (tu : ∀ a vs, Rd H a (.tup vs) → Rd H' a (.tup vs)) (ins : ∀ a u, H a = some u → Solid u → ¬ T a → H' a = some u)
    (nt : ∀ a, (H a).isSome = true → ¬ T a → ¬ T' a) {v : SV} {w : V} (h : RP K T H v w) : RP K T' H' v w := by
  cases h with
  | non => exact .non
  | bl b => exact .bl b
  | int i => exact .int i
  | str x => exact .str x
  | ty n => exact .ty n
  | gl a => exact .gl a
  | tup h r => exact .tup (sqT_fr tu h) (RPs.mono rd tu ins nt r)
  | lst h t r => exact .lst (rd _ _ h t) (nt _ (rd_some h) t) (RPs.mono rd tu ins nt r)
  | arg h r => exact .arg h (RPs.mono rd tu ins nt r)
  | dct h t r => exact .dct (rd _ _ h t) (nt _ (rd_some h) t) (RPk.mono rd tu ins nt r)
  | ins h t r => exact .ins (ins _ _ h trivial t) (nt _ (by rw [h]; rfl) t) (RPf.mono rd tu ins nt r)
  | xo h h2 t t2 r => exact .xo (ins _ _ h trivial t) (ins _ _ h2 trivial t2) (nt _ (by rw [h]; rfl) t) (nt _ (by rw [h2]; rfl) t2) (RPf.mono rd tu ins nt r)
theorem RPs.mono (rd : ∀ a u, Rd H a u → ¬ T a → Rd H' a u) (tu : ∀ a vs, Rd H a (.tup vs) → Rd H' a (.tup vs)) (ins : ∀ a u, H a = some u → Solid u → ¬ T a → H' a = some u)
    (nt : ∀ a, (H a).isSome = true → ¬ T a → ¬ T' a) {v : List SV} {w : List V} (h : RPs K T H v w) : RPs K T' H' v w := by
  cases h with
  | nil => exact .nil
  | cons h r => exact .cons (RP.mono rd tu ins nt h) (RPs.mono rd tu ins nt r)
theorem RPk.mono (rd : ∀ a u, Rd H a u → ¬ T a → Rd H' a u) (tu : ∀ a vs, Rd H a (.tup vs) → Rd H' a (.tup vs)) (ins : ∀ a u, H a = some u → Solid u → ¬ T a → H' a = some u)
    (nt : ∀ a, (H a).isSome = true → ¬ T a → ¬ T' a) {v : List (SV × SV)} {w : List (Key × V)} (h : RPk K T H v w) : RPk K T' H' v w := by
  cases h with
  | nil => exact .nil
  | cons hk h r => exact .cons hk (RP.mono rd tu ins nt h) (RPk.mono rd tu ins nt r)
theorem RPf.mono (rd : ∀ a u, Rd H a u → ¬ T a → Rd H' a u) (tu : ∀ a vs, Rd H a (.tup vs) → Rd H' a (.tup vs)) (ins : ∀ a u, H a = some u → Solid u → ¬ T a → H' a = some u)
    (nt : ∀ a, (H a).isSome = true → ¬ T a → ¬ T' a) {v : List (Cs × SV)} {w : List (Str × V)} (h : RPf K T H v w) : RPf K T' H' v w := by
  cases h with
  | nil => exact .nil
  | cons h r => exact .cons (RP.mono rd tu ins nt h) (RPf.mono rd tu ins nt r)
end

theorem RS1.fr (f : Fr μ n H μ' n' H') {v : SV} {w : V} (h : RS1 K μ n H v w) : RS1 K μ' n' H' v w := by
  cases h with
  | un w => exact .un w
  | pure h => exact .pure (RP.mono f.rd f.tup f.ins f.nt h)
  | ref i hi => rw [← f.mu i hi]; exact .ref i (Nat.lt_of_lt_of_le hi f.le)
theorem RSs1.fr (f : Fr μ n H μ' n' H') : ∀ {v : List SV} {w : List V}, RSs1 K μ n H v w → RSs1 K μ' n' H' v w
  | _, _, .nil => .nil
  | _, _, .cons h r => .cons (h.fr f) (RSs1.fr f r)
theorem RS.fr (f : Fr μ n H μ' n' H') {v : SV} {w : V} (h : RS K μ n H v w) : RS K μ' n' H' v w := by
  cases h with
  | one h => exact .one (h.fr f)
  | tupR h r => exact .tupR (sqT_fr f.tup h) (r.fr f)
theorem RSs.fr (f : Fr μ n H μ' n' H') : ∀ {v : List SV} {w : List V}, RSs K μ n H v w → RSs K μ' n' H' v w
  | _, _, .nil => .nil
  | _, _, .cons h r => .cons (h.fr f) (RSs.fr f r)
theorem RSk.fr (f : Fr μ n H μ' n' H') : ∀ {v : List (SV × SV)} {w : List (Key × V)}, RSk K μ n H v w → RSk K μ' n' H' v w
  | _, _, .nil => .nil
  | _, _, .cons hk h r => .cons hk (h.fr f) (RSk.fr f r)
theorem RSf.fr (f : Fr μ n H μ' n' H') : ∀ {v : List (Cs × SV)} {w : List (Str × V)}, RSf K μ n H v w → RSf K μ' n' H' v w
  | _, _, .nil => .nil
  | _, _, .cons h r => .cons (h.fr f) (RSf.fr f r)
theorem RSt.fr (f : Fr μ n H μ' n' H') : ∀ {v : List SV} {w : List (Option V)}, RSt K μ n H v w → RSt K μ' n' H' v w
  | _, _, .nil => .nil
  | _, _, .none r => .none (RSt.fr f r)
  | _, _, .cons h r => .cons (h.fr f) (RSt.fr f r)

theorem Fr.refl : Fr μ n H μ n H := ⟨Nat.le_refl _, fun _ _ => rfl, fun _ _ h _ => h, fun _ _ h => h, fun _ _ h _ _ => h, fun _ _ _ h => h, fun _ _ h => h⟩
/-- a new untracked object -/
theorem Fr.new {p : Addr} {o : HO} (hp : H p = none) : Fr μ n H μ n (upd H p o) := by
  have k : ∀ a u, H a = some u → upd H p o a = some u := fun a u h => by rw [upd_ne (ne_of_none h hp)]; exact h
  have r : ∀ a u, Rd H a u → Rd (upd H p o) a u := fun a u h => by
    rcases h with h | ⟨ob, h⟩
    · exact .inl (k _ _ h)
    · exact .inr ⟨ob, k _ _ h⟩
  exact ⟨Nat.le_refl _, fun _ _ => rfl, fun a u h _ => r a u h, fun a vs h => r a _ h, fun a u h _ _ => k _ _ h, fun a o u h => k _ _ h, fun _ _ h => h⟩

theorem RO.fr (f : Fr μ n H μ' n' H') {s : SO} {o : Option HO} (h : RO K μ n H s o) : RO K μ' n' H' s o := by
  cases s with
  | lst l => obtain ⟨vs, e, r⟩ := h; exact ⟨vs, e, r.fr f⟩
  | dct l => obtain ⟨vs, e, r⟩ := h; exact ⟨vs, e, r.fr f⟩
  | ins C l => obtain ⟨dx, vs, e, r⟩ := h; exact ⟨dx, vs, e, r.fr f⟩
  | lk s =>
    cases s with
    | lst l => obtain ⟨vs, e, r⟩ := h; exact ⟨vs, e, r.fr f⟩
    | dct l => obtain ⟨vs, ob, e, r⟩ := h; exact ⟨vs, ob, e, r.fr f⟩
    | ins C l => exact h
    | lk s => exact h
theorem RO.there {s : SO} {o : Option HO} (h : RO K μ n H s o) : ∃ u, o = some u := by
  cases s with
  | lst l => obtain ⟨vs, e, r⟩ := h; exact ⟨_, e⟩
  | dct l => obtain ⟨vs, e, r⟩ := h; exact ⟨_, e⟩
  | ins C l => obtain ⟨dx, vs, e, r⟩ := h; exact ⟨_, e⟩
  | lk s =>
    cases s with
    | lst l => obtain ⟨vs, e, r⟩ := h; exact ⟨_, e⟩
    | dct l => obtain ⟨vs, ob, e, r⟩ := h; exact ⟨_, e⟩
    | ins C l => exact h.elim
    | lk s => exact h.elim
variable {h : SHp}
theorem Sim.there (S : Sim K μ h H) {i : Nat} (hi : i < h.length) : ∃ u, H (μ i) = some u :=
  (S.obj i h[i] (by simp [hi])).there
theorem Sim.not_tr (S : Sim K μ h H) {p : Addr} (hp : H p = none) : ¬ Tr μ h.length p := fun ⟨i, hi, e⟩ => by
  obtain ⟨u, hu⟩ := S.there hi
  rw [e, hp] at hu; cases hu
/-- Sim over a heap in which a new untracked object has come -/
theorem Sim.new (S : Sim K μ h H) {p : Addr} {o : HO} (hp : H p = none) : Sim K μ h (upd H p o) :=
  ⟨S.inj, fun i s e => by
    have hi : i < h.length := (List.getElem?_eq_some_iff.mp e).1
    obtain ⟨u, hu⟩ := S.there hi
    rw [upd_ne (ne_of_none hu hp)]
    exact (S.obj i s e).fr (Fr.new hp)⟩

/-- a new tracked object: its number is the heap's length -/
def put (μ : Nat → Addr) (n : Nat) (p : Addr) : Nat → Addr := fun i => if i = n then p else μ i
theorem put_lt {p : Addr} {i : Nat} (h : i < n) : put μ n p i = μ i := if_neg (Nat.ne_of_lt h)
theorem put_at {p : Addr} : put μ n p n = p := if_pos rfl
theorem Fr.alloc {p : Addr} {o : HO} (hp : H p = none) : Fr μ n H (put μ n p) (n + 1) (upd H p o) := by
  have k : ∀ a u, H a = some u → upd H p o a = some u := fun a u h => by rw [upd_ne (ne_of_none h hp)]; exact h
  have r : ∀ a u, Rd H a u → Rd (upd H p o) a u := fun a u h => by
    rcases h with h | ⟨ob, h⟩
    · exact .inl (k _ _ h)
    · exact .inr ⟨ob, k _ _ h⟩
  refine ⟨Nat.le_succ _, fun i hi => put_lt hi, fun a u h _ => r a u h, fun a vs h => r a _ h, fun a u h _ _ => k _ _ h, fun a o u h => k _ _ h, fun a ha nt t => ?_⟩
  obtain ⟨i, hi, e⟩ := t
  by_cases q : i = n
  · subst q
    rw [put_at] at e
    subst e
    rw [hp] at ha; cases ha
  · exact nt ⟨i, by omega, by rw [← e, put_lt (by omega)]⟩
theorem Sim.alloc (S : Sim K μ h H) {p : Addr} {o : HO} {s : SO} (hp : H p = none) (r : RO K (put μ h.length p) (h.length + 1) (upd H p o) s (some o)) : Sim K (put μ h.length p) (h ++ [s]) (upd H p o) := by
  refine ⟨fun i j hi hj e => ?_, fun i s' e => ?_⟩
  · simp only [List.length_append, List.length_cons, List.length_nil] at hi hj
    by_cases qi : i = h.length
    · by_cases qj : j = h.length
      · rw [qi, qj]
      · subst qi
        rw [put_at, put_lt (by omega)] at e
        obtain ⟨u, hu⟩ := S.there (show j < h.length by omega)
        rw [← e, hp] at hu; cases hu
    · by_cases qj : j = h.length
      · subst qj
        rw [put_at, put_lt (by omega)] at e
        obtain ⟨u, hu⟩ := S.there (show i < h.length by omega)
        rw [e, hp] at hu; cases hu
      · rw [put_lt (by omega), put_lt (by omega)] at e
        exact S.inj i j (by omega) (by omega) e
  · rw [show (h ++ [s]).length = h.length + 1 by simp]
    by_cases q : i < h.length
    · rw [List.getElem?_append_left q] at e
      rw [put_lt q]
      obtain ⟨u, hu⟩ := S.there q
      rw [upd_ne (ne_of_none hu hp)]
      exact (S.obj i s' e).fr (Fr.alloc hp)
    · rw [List.getElem?_append_right (by omega)] at e
      have q2 : i - h.length = 0 := by
        cases z : i - h.length with
        | zero => rfl
        | succ k => rw [z] at e; simp at e
      rw [q2] at e
      simp at e
      subst e
      have q3 : i = h.length := by omega
      subst q3
      rw [put_at, upd_same]
      exact r
/-- a tracked object is written -/
theorem Fr.write {i : Nat} {o : HO} (hi : i < n) (nf : ∀ vs, ¬ Rd H (μ i) (.tup vs)) (nz : ∀ o u, H (μ i) ≠ some (.frz o u)) : Fr μ n H μ n (upd H (μ i) o) := by
  have k : ∀ a, ¬ Tr μ n a → upd H (μ i) o a = H a := fun a t => upd_ne fun e => t ⟨i, hi, e.symm⟩
  refine ⟨Nat.le_refl _, fun _ _ => rfl, fun a u h t => ?_, fun a vs h => ?_, fun a u h _ t => by rw [k a t]; exact h, fun a o u h => by rw [upd_ne (fun z => by subst z; exact nz _ _ h)]; exact h, fun _ _ h => h⟩
  · unfold Rd; rw [k a t]; exact h
  · by_cases e : a = μ i
    · subst e; exact (nf vs h).elim
    · unfold Rd; rw [upd_ne e]; exact h
theorem RO.notup {s : SO} {a : Addr} (h : RO K μ n H s (H a)) : ∀ vs, ¬ Rd H a (.tup vs) := fun vs q => by
  have key : ∀ u, H a = Option.some u → (∀ ws, u ≠ HO.tup ws) → (∀ ob ws, u ≠ HO.frz ob (HO.tup ws)) → False := fun u e h1 h2 => by
    rcases q with q | ⟨ob, q⟩
    · rw [q] at e; cases e; exact h1 _ rfl
    · rw [q] at e; cases e; exact h2 _ _ rfl
  cases s with
  | lst l => obtain ⟨vs, e, r⟩ := h; exact key _ e (fun _ z => nomatch z) (fun _ _ z => nomatch z)
  | dct l => obtain ⟨vs, e, r⟩ := h; exact key _ e (fun _ z => nomatch z) (fun _ _ z => nomatch z)
  | ins C l => obtain ⟨dx, vs, e, r⟩ := h; exact key _ e (fun _ z => nomatch z) (fun _ _ z => nomatch z)
  | lk s =>
    cases s with
    | lst l => obtain ⟨vs, e, r⟩ := h; exact key _ e (fun _ z => nomatch z) (fun _ _ z => nomatch z)
    | dct l => obtain ⟨vs, ob, e, r⟩ := h; exact key _ e (fun _ z => nomatch z) (fun _ _ z => by cases z)
    | ins C l => exact h
    | lk s => exact h
theorem Sim.write (S : Sim K μ h H) {i : Nat} {o : HO} {s : SO} (hi : i < h.length) (nz : ∀ o u, H (μ i) ≠ some (.frz o u)) (r : RO K μ h.length (upd H (μ i) o) s (some o)) : Sim K μ (h.set i s) (upd H (μ i) o) := by
  have f : Fr μ h.length H μ h.length (upd H (μ i) o) := Fr.write hi (S.obj i h[i] (by simp [hi])).notup nz
  refine ⟨fun a b ha hb e => S.inj a b (by simpa using ha) (by simpa using hb) e, fun j s' e => ?_⟩
  rw [List.length_set]
  by_cases q : i = j
  · subst q
    rw [List.getElem?_set_self hi] at e
    cases e
    rw [upd_same]
    exact r
  · rw [List.getElem?_set_ne q] at e
    have hj : j < h.length := (List.getElem?_eq_some_iff.mp e).1
    rw [upd_ne (fun z => q (S.inj i j hi hj z.symm))]
    exact (S.obj j s' e).fr f
theorem Sim.frW (S : Sim K μ h H) {i : Nat} {o : HO} (hi : i < h.length) (nz : ∀ o u, H (μ i) ≠ some (.frz o u)) : Fr μ h.length H μ h.length (upd H (μ i) o) := Fr.write hi (S.obj i h[i] (by simp [hi])).notup nz
end
end EV

/-! EV1: readings by symbolic functions; binding; leaves; operators by values. -/
namespace EV
open PySem PySem.Spec PyProof.Rows L2

def Post (K : KG) (μ : Nat → Addr) (n : Nat) (H : Hp) (r : R) (Q : VK) (E : XK) : Prop :=
  match r with
  | .val v h' => ∀ μ' H' V, Fr μ n H μ' h'.length H' → Sim K μ' h' H' → RS K μ' h'.length H' v V → Q V H'
  | .exc C fs h' => ∀ μ' H' d fs', Fr μ n H μ' h'.length H' → Sim K μ' h' H' → H' d = some (.xd fs') → RPf K (Tr μ' h'.length) H' fs fs' → E (.ref (K.G C)) (some d) H'
  | .bad => False
section
variable {K : KG} {μ μ' : Nat → Addr} {n n' : Nat} {H H' : Hp} {Q Q' : VK} {E E' : XK} {r : R}
theorem Post.fr (f : Fr μ n H μ' n' H') (p : Post K μ n H r Q E) : Post K μ' n' H' r Q E := by
  cases r with
  | val v h => exact fun μ2 H2 V f2 => p μ2 H2 V (f.trans f2)
  | exc C fs h => exact fun μ2 H2 d fs' f2 => p μ2 H2 d fs' (f.trans f2)
  | bad => exact p
end

/-- a reading by a symbolic function -/
def rd (K : KG) (m : M) (W : WX) : TE := fun σ H Q => ∃ μ σs h, Sim K μ h H ∧ RSt K μ h.length H σs σ ∧ Post K μ h.length H (m σs h) Q (WE W σ)
/-- .. behind values that are held -/
def rd1 (K : KG) (k : SV → M) (V1 : V) (W : WX) : TE := fun σ H Q => ∃ μ σs h x, Sim K μ h H ∧ RSt K μ h.length H σs σ ∧ RS K μ h.length H x V1 ∧ Post K μ h.length H (k x σs h) Q (WE W σ)
def rd2 (K : KG) (k : SV → SV → M) (V1 V2 : V) (W : WX) : TE := fun σ H Q => ∃ μ σs h x y, Sim K μ h H ∧ RSt K μ h.length H σs σ ∧ RS K μ h.length H x V1 ∧ RS K μ h.length H y V2 ∧ Post K μ h.length H (k x y σs h) Q (WE W σ)
def rd3 (K : KG) (k : SV → SV → SV → M) (V1 V2 V3 : V) (W : WX) : TE := fun σ H Q => ∃ μ σs h x y z, Sim K μ h H ∧ RSt K μ h.length H σs σ ∧ RS K μ h.length H x V1 ∧ RS K μ h.length H y V2 ∧ RS K μ h.length H z V3 ∧ Post K μ h.length H (k x y z σs h) Q (WE W σ)
def rdL (K : KG) (k : List SV → M) (Vs : List V) (W : WX) : TE := fun σ H Q => ∃ μ σs h xs, Sim K μ h H ∧ RSt K μ h.length H σs σ ∧ RSs K μ h.length H xs Vs ∧ Post K μ h.length H (k xs σs h) Q (WE W σ)

def bnd (a : M) (k : SV → M) : M := fun σ h => match a σ h with
  | .val v h' => k v σ h'
  | .exc C f h' => .exc C f h'
  | .bad => .bad

section
variable {K : KG} {W : WX} {σ : L2.St} {H : Hp} {Q : VK} {a : M}
theorem Post.imp {μ : Nat → Addr} {n : Nat} {r : R} {Q' : VK} {E : XK} (p : Post K μ n H r Q E) (h : ∀ V H', Q V H' → Q' V H') : Post K μ n H r Q' E := by
  cases r with
  | val v h' => exact fun μ' H' V f S r => h _ _ (p μ' H' V f S r)
  | exc C fs h' => exact p
  | bad => exact p
theorem rd_imp {Q' : VK} (x : rd K a W σ H Q) (h : ∀ V H', Q V H' → Q' V H') : rd K a W σ H Q' := by
  obtain ⟨μ, σs, hs, S, st, p⟩ := x
  exact ⟨μ, σs, hs, S, st, p.imp h⟩
/-- the core of all binding -/
theorem post_bnd {μ : Nat → Addr} {h : SHp} {σs : SSt} {k : SV → M} {Q' : VK} {E : XK} (p : Post K μ h.length H (bnd a k σs h) Q E)
    (go : ∀ μ' H' h' v V, Fr μ h.length H μ' h'.length H' → Sim K μ' h' H' → RS K μ' h'.length H' v V → Post K μ' h'.length H' (k v σs h') Q E → Q' V H') : Post K μ h.length H (a σs h) Q' E := by
  unfold bnd at p
  cases e : a σs h with
  | val v h' =>
    rw [e] at p
    exact fun μ' H' V f S r => go μ' H' h' v V f S r (Post.fr f p)
  | exc C fs h' => rw [e] at p; exact p
  | bad => rw [e] at p; exact p
theorem rd_bnd {k : SV → M} (x : rd K (bnd a k) W σ H Q) : rd K a W σ H fun V H1 => rd1 K k V W σ H1 Q := by
  obtain ⟨μ, σs, h, S, st, p⟩ := x
  exact ⟨μ, σs, h, S, st, post_bnd p fun μ' H' h' v V f S' r p' => ⟨μ', σs, h', v, S', st.fr f, r, p'⟩⟩
theorem rd1_bnd {k : SV → SV → M} {V1 : V} (x : rd1 K (fun u => bnd a (k u)) V1 W σ H Q) : rd K a W σ H fun V H1 => rd2 K k V1 V W σ H1 Q := by
  obtain ⟨μ, σs, h, u, S, st, r1, p⟩ := x
  exact ⟨μ, σs, h, S, st, post_bnd p fun μ' H' h' v V f S' r p' => ⟨μ', σs, h', u, v, S', st.fr f, r1.fr f, r, p'⟩⟩
theorem rd2_bnd {k : SV → SV → SV → M} {V1 V2 : V} (x : rd2 K (fun u v => bnd a (k u v)) V1 V2 W σ H Q) : rd K a W σ H fun V H1 => rd3 K k V1 V2 V W σ H1 Q := by
  obtain ⟨μ, σs, h, u, u2, S, st, r1, r2, p⟩ := x
  exact ⟨μ, σs, h, S, st, post_bnd p fun μ' H' h' v V f S' r p' => ⟨μ', σs, h', u, u2, v, S', st.fr f, r1.fr f, r2.fr f, r, p'⟩⟩
theorem RSs.snoc {μ : Nat → Addr} {n : Nat} {v : SV} {V1 : V} (r : RS K μ n H v V1) : ∀ {l : List SV} {ws : List V}, RSs K μ n H l ws → RSs K μ n H (l ++ [v]) (ws ++ [V1])
  | _, _, .nil => .cons r .nil
  | _, _, .cons h t => .cons h (RSs.snoc r t)
theorem RSs.length {μ : Nat → Addr} {n : Nat} : ∀ {l : List SV} {ws : List V}, RSs K μ n H l ws → l.length = ws.length
  | _, _, .nil => rfl
  | _, _, .cons _ t => by simp [RSs.length t]
theorem rdL_bnd {k : List SV → M} {Vs : List V} (x : rdL K (fun us => bnd a fun v => k (us ++ [v])) Vs W σ H Q) : rd K a W σ H fun V H1 => rdL K k (Vs ++ [V]) W σ H1 Q := by
  obtain ⟨μ, σs, h, us, S, st, r1, p⟩ := x
  exact ⟨μ, σs, h, S, st, post_bnd p fun μ' H' h' v V f S' r p' => ⟨μ', σs, h', us ++ [v], S', st.fr f, RSs.snoc r (r1.fr f), p'⟩⟩
theorem rdL_nil {k : List SV → M} {b : M} (e : ∀ σs h, b σs h = k [] σs h) (x : rd K b W σ H Q) : rdL K k [] W σ H Q := by
  obtain ⟨μ, σs, h, S, st, p⟩ := x
  exact ⟨μ, σs, h, [], S, st, .nil, by rw [← e]; exact p⟩
end

/-- an operation on values: what it gives from a symbolic heap, which stays -/
def rv1 (K : KG) (f : SHp → SV → Option SV) : V → Hp → VK → Prop := fun V1 H Q => ∃ μ h x z, Sim K μ h H ∧ RS K μ h.length H x V1 ∧ f h x = some z ∧
  ∀ μ' H' V, Fr μ h.length H μ' h.length H' → Sim K μ' h H' → RS K μ' h.length H' z V → Q V H'
def rv2 (K : KG) (f : SHp → SV → SV → Option SV) : V → V → Hp → VK → Prop := fun V1 V2 H Q => ∃ μ h x y z, Sim K μ h H ∧ RS K μ h.length H x V1 ∧ RS K μ h.length H y V2 ∧ f h x y = some z ∧
  ∀ μ' H' V, Fr μ h.length H μ' h.length H' → Sim K μ' h H' → RS K μ' h.length H' z V → Q V H'
def rvL (K : KG) (f : SHp → List SV → Option SV) : List V → Hp → VK → Prop := fun Vs H Q => ∃ μ h xs z, Sim K μ h H ∧ RSs K μ h.length H xs Vs ∧ f h xs = some z ∧
  ∀ μ' H' V, Fr μ h.length H μ' h.length H' → Sim K μ' h H' → RS K μ' h.length H' z V → Q V H'
def ofO (h : SHp) : Option SV → R
  | some v => .val v h
  | none => .bad
def mV1 (f : SHp → SV → Option SV) (a : M) : M := bnd a fun x _ h => ofO h (f h x)
def mV2 (f : SHp → SV → SV → Option SV) (a b : M) : M := bnd a fun x => bnd b fun y _ h => ofO h (f h x y)
section
variable {K : KG} {W : WX} {σ : L2.St} {H : Hp} {Q : VK}
theorem rd1_v {f : SHp → SV → Option SV} {V1 : V} (x : rd1 K (fun x _ h => ofO h (f h x)) V1 W σ H Q) : rv1 K f V1 H Q := by
  obtain ⟨μ, σs, h, u, S, st, r, p⟩ := x
  cases e : f h u with
  | none => simp only [e, ofO] at p; exact p.elim
  | some z => simp only [e, ofO] at p; exact ⟨μ, h, u, z, S, r, e, p⟩
theorem rd2_v {f : SHp → SV → SV → Option SV} {V1 V2 : V} (x : rd2 K (fun x y _ h => ofO h (f h x y)) V1 V2 W σ H Q) : rv2 K f V1 V2 H Q := by
  obtain ⟨μ, σs, h, u, v, S, st, r, r2, p⟩ := x
  cases e : f h u v with
  | none => simp only [e, ofO] at p; exact p.elim
  | some z => simp only [e, ofO] at p; exact ⟨μ, h, u, v, z, S, r, r2, e, p⟩
theorem rdL_v {f : SHp → List SV → Option SV} {Vs : List V} (x : rdL K (fun x _ h => ofO h (f h x)) Vs W σ H Q) : rvL K f Vs H Q := by
  obtain ⟨μ, σs, h, u, S, st, r, p⟩ := x
  cases e : f h u with
  | none => simp only [e, ofO] at p; exact p.elim
  | some z => simp only [e, ofO] at p; exact ⟨μ, h, u, z, S, r, e, p⟩
end

/-- an expression is read by a symbolic function, whatever is wished of exceptions -/
structure PEs (G : Nat → Addr) (X : Cx) (e : Expr) (m : M) : Prop where
  run : ∀ W, Takes X W → PE X e (rd ⟨X.K, G⟩ m W)
theorem wkPE {X : Cx} {e : Expr} {t t' : TE} (h : PE X e t) (w : ∀ σ H Q, t' σ H Q → t σ H Q) : PE X e t' := ⟨fun pins s σ H Q I q => h.run pins s σ H Q I (w σ H Q q)⟩
theorem wkPT {X : Cx} {e : Expr} {t t' : TT} (h : PT X e t) (w : ∀ σ H Q, t' σ H Q → t σ H Q) : PT X e t' := ⟨fun pins s σ H Q I q => h.run pins s σ H Q I (w σ H Q q)⟩
theorem wkPS {X : Cx} {e : Stmt} {t t' : TS} (h : PS X e t) (w : ∀ D σ H, t' D σ H → t D σ H) : PS X e t' := ⟨fun pins s σ H D I q => h.run pins s σ H D I (w D σ H q)⟩
theorem wkPSs {X : Cx} {e : List Stmt} {t t' : TS} (h : PSs X e t) (w : ∀ D σ H, t' D σ H → t D σ H) : PSs X e t' := ⟨fun pins s σ H D I q => h.run pins s σ H D I (w D σ H q)⟩

/-! ### leaves -/
def nth : List SV → Nat → SV
  | [], _ => .un
  | x :: _, 0 => x
  | _ :: r, i + 1 => nth r i
def mC (v : SV) : M := fun _ h => .val v h
/-- a slot -/
def mVar (i : Nat) : M := fun σ h => match nth σ i with
  | .un => .bad
  | v => .val v h
theorem mVar_of {i : Nat} {σ : SSt} {h : SHp} {K : KG} {μ : Nat → Addr} {n : Nat} {H : Hp} {Q : VK} {E : XK} (p : Post K μ n H (mVar i σ h) Q E) : nth σ i ≠ .un ∧ Post K μ n H (.val (nth σ i) h) Q E := by
  unfold mVar at p
  cases e : nth σ i with
  | un => rw [e] at p; exact p.elim
  | _ => rw [e] at p; exact ⟨fun z => (nomatch z), p⟩
section
variable {K : KG} {W : WX} {σ : L2.St} {H : Hp} {Q : VK} {μ : Nat → Addr} {n : Nat}
theorem RSt.nth : ∀ {l : List SV} {ws : List (Option V)} {i : Nat}, RSt K μ n H l ws → nth l i ≠ .un → ∃ w, ws[i]? = some (some w) ∧ RS K μ n H (nth l i) w
  | _, _, _, .nil, h => absurd rfl h
  | _, _, 0, .none r, h => absurd rfl h
  | _, _, 0, .cons r t, h => ⟨_, rfl, r⟩
  | _, _, i + 1, .none t, h => RSt.nth (i := i) t h
  | _, _, i + 1, .cons r t, h => RSt.nth (i := i) t h
theorem RSt.length : ∀ {l : List SV} {ws : List (Option V)}, RSt K μ n H l ws → l.length = ws.length
  | _, _, .nil => rfl
  | _, _, .none t => by simp [RSt.length t]
  | _, _, .cons _ t => by simp [RSt.length t]
def setn (v : SV) : Nat → List SV → List SV
  | _, [] => []
  | 0, _ :: r => v :: r
  | i + 1, x :: r => x :: setn v i r
theorem RSt.set {v : SV} {w : V} (r : RS K μ n H v w) : ∀ {l : List SV} {ws : List (Option V)} (i : Nat), RSt K μ n H l ws → RSt K μ n H (setn v i l) (ws.set i (some w))
  | _, _, 0, .nil => .nil
  | _, _, _ + 1, .nil => .nil
  | _, _, 0, .none t => .cons r t
  | _, _, 0, .cons _ t => .cons r t
  | _, _, i + 1, .none t => .none (RSt.set r i t)
  | _, _, i + 1, .cons q t => .cons q (RSt.set r i t)
theorem rd_var {i : Nat} (x : rd K (mVar i) W σ H Q) : tVar i σ H Q := by
  obtain ⟨μ, σs, h, S, st, p⟩ := x
  obtain ⟨ne, q⟩ := mVar_of p
  obtain ⟨w, e, r⟩ := st.nth ne
  exact ⟨w, e, q μ H w Fr.refl S r⟩
theorem rd_c {v : SV} {w : V} (r : ∀ μ n, RS K μ n H v w) (x : rd K (mC v) W σ H Q) : tC w σ H Q := by
  obtain ⟨μ, σs, h, S, st, p⟩ := x
  exact p μ H w Fr.refl S (r _ _)
end
section
variable {X : Cx} {G : Nat → Addr} {pos : Pos}
theorem e_var {i : Nat} {x : Str} (hN : X.N[i]? = some x) (hv : Vis X.env.scope x) (hd : (x == ("__debug__" : Str)) = false := by decide) (hcd : (x == ("__classdict__" : Str)) = false := by decide) : PEs G X (.Name x pos) (mVar i) :=
  ⟨fun W tk => wkPE (pe_var hN hv hd hcd) fun _ _ _ => rd_var⟩
theorem e_int {i : Int} {j : Nat} : PEs G X (.Constant (.int i) j pos) (mC (.int i)) := ⟨fun W tk => wkPE pe_int fun _ _ _ => rd_c fun _ _ => .one (.pure (.int i))⟩
theorem e_bl {b : Bool} {j : Nat} : PEs G X (.Constant (.bool b) j pos) (mC (.bl b)) := ⟨fun W tk => wkPE pe_bl fun _ _ _ => rd_c fun _ _ => .one (.pure (.bl b))⟩
theorem e_non {j : Nat} : PEs G X (.Constant .none j pos) (mC .non) := ⟨fun W tk => wkPE pe_non fun _ _ _ => rd_c fun _ _ => .one (.pure .non)⟩
theorem e_str {x : Str} {c : Cs} {j : Nat} (e : toS c = x) : PEs G X (.Constant (.str x) j pos) (mC (.str c)) := ⟨fun W tk => wkPE pe_str fun _ _ _ => rd_c fun _ _ => .one (.pure (by rw [← e]; exact .str c))⟩
/-- a module's name as a value -/
theorem e_glob {x : Str} {v : SV} {w : V} {u : Value} (hg : Gl X x) (hm : X.mg x = some u) (r : RelV w u) (rp : ∀ T H, RP ⟨X.K, G⟩ T H v w) (hd : (x == ("__debug__" : Str)) = false := by decide) : PEs G X (.Name x pos) (mC v) :=
  ⟨fun W tk => wkPE (pe_glob hg hm r hd) fun _ _ _ => rd_c fun _ _ => .one (.pure (rp _ _))⟩
theorem e_bltn {x : Str} {n : String} (hg : Gl X x) (hm : X.mg x = none) (hv : bootBuiltins x = some (.type n)) (hn : x ≠ "__name__" := by decide) (hd : (x == ("__debug__" : Str)) = false := by decide) : PEs G X (.Name x pos) (mC (.ty n)) :=
  ⟨fun W tk => wkPE (pe_bltn hg hm hv (v := .ty n) rfl hn hd) fun _ _ _ => rd_c fun _ _ => .one (.pure (.ty n))⟩
/-- an operator -/
theorem e_op {op : Operator} {f : SHp → SV → SV → Option SV} {a b : Expr} {ma mb : M} (ho : OpR X (binaryOp op) (rv2 ⟨X.K, G⟩ f)) (ha : PEs G X a ma) (hb : PEs G X b mb) : PEs G X (.BinOp a op b pos) (mV2 f ma mb) :=
  ⟨fun W tk => wkPE (pe_op ho (ha.run W tk) (hb.run W tk)) fun σ H Q x => rd_imp (rd_bnd x) fun V H1 y => rd_imp (rd1_bnd y) fun V2 H2 z => rd2_v z⟩
end
end EV

/-! EV2: operators and tests by symbolic values. -/
namespace EV
open PySem PySem.Spec PyProof.Rows L2

section
variable {K : KG} {μ : Nat → Addr} {n : Nat} {H : Hp} {V1 : L2.V}
theorem RS.int_ {i : Int} (r : RS K μ n H (.int i) V1) : V1 = .int i := by
  cases r with | one r => cases r with | pure r => cases r; rfl
theorem RS.str_ {x : Cs} (r : RS K μ n H (.str x) V1) : V1 = .str (toS x) := by
  cases r with | one r => cases r with | pure r => cases r; rfl
theorem RS.bl_ {x : Bool} (r : RS K μ n H (.bl x) V1) : V1 = .bl x := by
  cases r with | one r => cases r with | pure r => cases r; rfl
theorem RS.non_ (r : RS K μ n H .non V1) : V1 = .non := by
  cases r with | one r => cases r with | pure r => cases r; rfl
theorem RS.ty_ {x : String} (r : RS K μ n H (.ty x) V1) : V1 = .ty x := by
  cases r with | one r => cases r with | pure r => cases r; rfl
theorem RS.gl_ {x : Nat} (r : RS K μ n H (.gl x) V1) : V1 = .ref (K.G x) := by
  cases r with | one r => cases r with | pure r => cases r; rfl
theorem RS.tup_ {l : List SV} (r : RS K μ n H (.tup l) V1) : ∃ a vs, V1 = .ref a ∧ SqT K.K H a vs ∧ RPs K (Tr μ n) H l vs := by
  cases r with | one r => cases r with | pure r => cases r with | tup h r => exact ⟨_, _, rfl, h, r⟩
theorem RS.lst_ {l : List SV} (r : RS K μ n H (.lst l) V1) : ∃ a vs, V1 = .ref a ∧ SqL K.K H a vs ∧ RPs K (Tr μ n) H l vs := by
  cases r with | one r => cases r with | pure r => cases r with
    | lst h t r => exact ⟨_, _, rfl, .inl h, r⟩
theorem RS.dct_ {l : List (SV × SV)} (r : RS K μ n H (.dct l) V1) : ∃ a kvs, V1 = .ref a ∧ Rd H a (.dK kvs) ∧ ¬ Tr μ n a ∧ RPk K (Tr μ n) H l kvs := by
  cases r with | one r => cases r with | pure r => cases r with | dct h t r => exact ⟨_, _, rfl, h, t, r⟩
theorem RS.ins_ {C : Nat} {l : List (Cs × SV)} (r : RS K μ n H (.ins C l) V1) : ∃ a dx fs, V1 = .ref a ∧ H a = some (.ins (K.G C) dx fs) ∧ ¬ Tr μ n a ∧ RPf K (Tr μ n) H l fs := by
  cases r with | one r => cases r with | pure r => cases r with | ins h t r => exact ⟨_, _, _, rfl, h, t, r⟩
theorem RS.ref_ {i : Nat} (r : RS K μ n H (.ref i) V1) : i < n ∧ V1 = .ref (μ i) := by
  cases r with | one r => cases r with
    | pure r => cases r
    | ref _ h => exact ⟨h, rfl⟩
theorem RS.of {v : SV} {w : L2.V} (h : RP K (Tr μ n) H v w) : RS K μ n H v w := .one (.pure h)
theorem RPs.length {T : Addr → Prop} : ∀ {l : List SV} {vs : List L2.V}, RPs K T H l vs → l.length = vs.length
  | _, _, .nil => rfl
  | _, _, .cons _ t => by simp [RPs.length t]
theorem RPs.append {T : Addr → Prop} : ∀ {l l' : List SV} {vs vs' : List L2.V}, RPs K T H l vs → RPs K T H l' vs' → RPs K T H (l ++ l') (vs ++ vs')
  | _, _, _, _, .nil, s => s
  | _, _, _, _, .cons h t, s => .cons h (RPs.append t s)
theorem RPs.drop {T : Addr → Prop} : ∀ {l : List SV} {vs : List L2.V} (i : Nat), RPs K T H l vs → RPs K T H (l.drop i) (vs.drop i)
  | _, _, 0, h => h
  | _, _, _ + 1, .nil => .nil
  | _, _, i + 1, .cons _ t => RPs.drop i t
theorem RPs.take {T : Addr → Prop} : ∀ {l : List SV} {vs : List L2.V} (i : Nat), RPs K T H l vs → RPs K T H (l.take i) (vs.take i)
  | _, _, 0, _ => .nil
  | _, _, _ + 1, .nil => .nil
  | _, _, i + 1, .cons h t => .cons h (RPs.take i t)
theorem RPs.get {T : Addr → Prop} : ∀ {l : List SV} {vs : List L2.V} {i : Nat} {v : SV}, RPs K T H l vs → l[i]? = some v → ∃ w, vs[i]? = some w ∧ RP K T H v w
  | _, _, _, _, .nil, e => by simp at e
  | _, _, 0, v, .cons h _, e => by simp at e; subst e; exact ⟨_, rfl, h⟩
  | _, _, i + 1, v, .cons _ t, e => by
    obtain ⟨w, h1, h2⟩ := RPs.get (i := i) (v := v) t (by simpa using e)
    exact ⟨w, by simpa using h1, h2⟩
theorem RSs.get : ∀ {l : List SV} {vs : List L2.V} {i : Nat} {v : SV}, RSs K μ n H l vs → l[i]? = some v → ∃ w, vs[i]? = some w ∧ RS K μ n H v w
  | _, _, _, _, .nil, e => by simp at e
  | _, _, 0, v, .cons h _, e => by simp at e; subst e; exact ⟨_, rfl, h⟩
  | _, _, i + 1, v, .cons _ t, e => by
    obtain ⟨w, h1, h2⟩ := RSs.get (i := i) (v := v) t (by simpa using e)
    exact ⟨w, by simpa using h1, h2⟩

/-- a pure value -/
def isP : SV → Bool
  | .un => false
  | .ref _ => false
  | .tupR _ => false
  | _ => true
theorem RS.pure_ {v : SV} {w : L2.V} (r : RS K μ n H v w) (p : isP v = true) : RP K (Tr μ n) H v w := by
  cases r with
  | one r =>
    cases r with
    | un => cases p
    | pure h => exact h
    | ref => cases p
  | tupR => cases p
theorem RSs.pure_ : ∀ {l : List SV} {vs : List L2.V}, RSs K μ n H l vs → l.all isP = true → RPs K (Tr μ n) H l vs
  | _, _, .nil, _ => .nil
  | _, _, .cons h t, p => by
    simp only [List.all_cons, Bool.and_eq_true] at p
    exact .cons (h.pure_ p.1) (RSs.pure_ t p.2)
theorem RPs.rs : ∀ {l : List SV} {vs : List L2.V}, RPs K (Tr μ n) H l vs → RSs K μ n H l vs
  | _, _, .nil => .nil
  | _, _, .cons h t => .cons (.of h) (RPs.rs t)
end

def lenOk {α : Type} (l : List α) : Bool := Nat.ble l.length 16777216
theorem lenOk_le {α : Type} {l : List α} (h : lenOk l = true) : l.length ≤ sizeLine := by
  rw [sizeLine_eq]; exact Nat.le_of_ble_eq_true h
theorem toS_length (x : Cs) : (toS x).length = x.length := by simp [toS, Str.length]
theorem toS_append (x y : Cs) : toS x ++ toS y = toS (x ++ y) := by
  show (⟨(toS x).cps ++ (toS y).cps⟩ : Str) = _
  simp [toS]
/-- what stands for a value: a tracked list or dict is looked up -/
def drf (h : SHp) : SV → SV
  | .ref i => match h[i]? with
    | some (.lst l) => .lst l
    | some (.lk (.lst l)) => .lst l
    | some (.dct l) => .dct l
    | some (.lk (.dct l)) => .dct l
    | some (.ins C fs) => .ins C fs
    | _ => .ref i
  | v => v

/-! ### + -/
def fAdd (h : SHp) (x y : SV) : Option SV := match drf h x, drf h y with
  | .int i, .int j => some (.int (i + j))
  | .str a, .str b => if lenOk (a ++ b) then some (.str (a ++ b)) else none
  | .tup a, .tup b => if lenOk (a ++ b) then some (.tup (a ++ b)) else none
  | .lst a, .lst b => if lenOk (a ++ b) && (a.all isP && b.all isP) then some (.lst (a ++ b)) else none
  | .int i, .bl b => some (.int (i + if b then 1 else 0))
  | _, _ => none
section
variable {K : KG} {μ : Nat → Addr} {h : SHp} {H : Hp} {V1 : L2.V} {x : SV}
theorem drf_ne {v : SV} (e : drf h x = v) (n1 : ∀ i, v ≠ .ref i) (n2 : ∀ l, v ≠ .lst l) (n3 : ∀ l, v ≠ .dct l) (n4 : ∀ C l, v ≠ .ins C l) : x = v := by
  cases x with
  | ref i =>
    unfold drf at e
    simp only at e
    split at e
    · exact absurd e.symm (n2 _)
    · exact absurd e.symm (n2 _)
    · exact absurd e.symm (n3 _)
    · exact absurd e.symm (n3 _)
    · exact absurd e.symm (n4 _ _)
    · exact absurd e.symm (n1 _)
  | _ => exact e
theorem drf_int {i : Int} (e : drf h x = .int i) (r : RS K μ h.length H x V1) : V1 = .int i := by
  cases drf_ne e (fun _ z => nomatch z) (fun _ z => nomatch z) (fun _ z => nomatch z) (fun _ _ z => nomatch z); exact r.int_
theorem drf_str {i : Cs} (e : drf h x = .str i) (r : RS K μ h.length H x V1) : V1 = .str (toS i) := by
  cases drf_ne e (fun _ z => nomatch z) (fun _ z => nomatch z) (fun _ z => nomatch z) (fun _ _ z => nomatch z); exact r.str_
theorem drf_bl {i : Bool} (e : drf h x = .bl i) (r : RS K μ h.length H x V1) : V1 = .bl i := by
  cases drf_ne e (fun _ z => nomatch z) (fun _ z => nomatch z) (fun _ z => nomatch z) (fun _ _ z => nomatch z); exact r.bl_
theorem drf_non (e : drf h x = .non) (r : RS K μ h.length H x V1) : V1 = .non := by
  cases drf_ne e (fun _ z => nomatch z) (fun _ z => nomatch z) (fun _ z => nomatch z) (fun _ _ z => nomatch z); exact r.non_
theorem drf_tup {l : List SV} (e : drf h x = .tup l) (r : RS K μ h.length H x V1) : ∃ a vs, V1 = .ref a ∧ SqT K.K H a vs ∧ RPs K (Tr μ h.length) H l vs := by
  cases drf_ne e (fun _ z => nomatch z) (fun _ z => nomatch z) (fun _ z => nomatch z) (fun _ _ z => nomatch z); exact r.tup_
theorem drf_lst {l : List SV} (S : Sim K μ h H) (e : drf h x = .lst l) (r : RS K μ h.length H x V1) : ∃ a vs, V1 = .ref a ∧ SqL K.K H a vs ∧ RSs K μ h.length H l vs := by
  cases x with
  | ref i =>
    obtain ⟨hi, rfl⟩ := r.ref_
    unfold drf at e
    simp only at e
    split at e
    · rename_i l' q
      cases e
      obtain ⟨vs, h1, h2⟩ := S.obj i _ q
      exact ⟨_, vs, rfl, .inl (.inl h1), h2⟩
    · rename_i l' q
      cases e
      obtain ⟨vs, h1, h2⟩ := S.obj i _ q
      exact ⟨_, vs, rfl, .inl (.inl h1), h2⟩
    all_goals cases e
  | lst l' =>
    cases e
    obtain ⟨a, vs, h1, h2, h3⟩ := r.lst_
    exact ⟨a, vs, h1, h2, h3.rs⟩
  | _ => cases e
end
theorem toS_eq {x y : Cs} : decide (toS x = toS y) = decide (x = y) := by
  by_cases e : x = y
  · subst e; simp
  · rw [decide_eq_false e, decide_eq_false fun z => e (toS_inj z)]

section
variable {X : Cx} {G : Nat → Addr} {pins : List (Addr × Obj)} {σ : L2.St} {H : Hp} {s : Shared}
/-- list + list, whatever stands there -/
theorem op_catL : OpR X (binaryOp .Add) (fun x y H Q => ∃ l b xs zs, x = V.ref l ∧ y = V.ref b ∧ SqL X.K H l xs ∧ SqL X.K H b zs ∧ xs.length + zs.length ≤ sizeLine ∧ ∀ p, H p = none → Q (.ref p) (upd H p (.lst (xs ++ zs)))) := by
  intro pins s σ H x y v u Q I rx ry h
  obtain ⟨l, b, xs, zs, rfl, rfl, hH, hB, hz, q⟩ := h
  cases rx
  cases ry
  obtain ⟨its, r, hl, _⟩ := I.list hH
  obtain ⟨its2, r2, hl2, _⟩ := I.list hB
  obtain ⟨⟨cls, dd, data, sl⟩, n, ho, hc, _, hd⟩ := hl
  obtain ⟨⟨cls2, dd2, data2, sl2⟩, n2, ho2, hc2, _, hd2⟩ := hl2
  simp only at hc hd hc2 hd2
  subst hc hd hc2 hd2
  have e1 := r.length
  have e2 := r2.length
  refine concat_meets ⟨_, ho, rfl⟩ ⟨_, ho2, rfl⟩ noFill_list_add seq_list_add PySem.F.slot_list_add PySem.F.entry_list_add (PySem.F.args_list_add_2 _ _) (list_addW l b its.toArray its2.toArray n n2 dd dd2 sl sl2 (by simp only [List.size_toArray]; omega)) ⟨ho, ho2, ?_⟩
  have e : its.toArray ++ its2.toArray = (its ++ its2).toArray := by simp
  rw [e]
  exact ⟨.ref _, _, I.lnew (t' := s.toks) (r.append r2) (by rw [List.length_append]; omega), rfl, q _ I.fresh⟩
theorem RSs.append {K : KG} {μ : Nat → Addr} {n : Nat} {H : Hp} : ∀ {l l' : List SV} {vs vs' : List L2.V}, RSs K μ n H l vs → RSs K μ n H l' vs' → RSs K μ n H (l ++ l') (vs ++ vs')
  | _, _, _, _, .nil, s => s
  | _, _, _, _, .cons h t, s => .cons h (RSs.append t s)
theorem RPs.fr {K : KG} {μ μ' : Nat → Addr} {n n' : Nat} {H H' : Hp} {l : List SV} {vs : List L2.V} (f : EV.Fr μ n H μ' n' H') (r : RPs K (Tr μ n) H l vs) : RPs K (Tr μ' n') H' l vs := RPs.mono f.rd f.tup f.ins f.nt r
theorem RP.fr {K : KG} {μ μ' : Nat → Addr} {n n' : Nat} {H H' : Hp} {l : SV} {vs : L2.V} (f : EV.Fr μ n H μ' n' H') (r : RP K (Tr μ n) H l vs) : RP K (Tr μ' n') H' l vs := RP.mono f.rd f.tup f.ins f.nt r
/-- a new pure list, tuple -/
theorem new_lst {K : KG} {μ : Nat → Addr} {h : SHp} {H : Hp} {p : Addr} {l : List SV} {vs : List L2.V} (S : Sim K μ h H) (hp : H p = none) (r : RPs K (Tr μ h.length) H l vs) :
    RS K μ h.length (upd H p (.lst vs)) (.lst l) (.ref p) := .of (.lst (.inl upd_same) (S.not_tr hp) (r.fr (Fr.new hp)))
theorem new_tup {K : KG} {μ : Nat → Addr} {h : SHp} {H : Hp} {p : Addr} {l : List SV} {vs : List L2.V} (hp : H p = none) (r : RPs K (Tr μ h.length) H l vs) :
    RS K μ h.length (upd H p (.tup vs)) (.tup l) (.ref p) := .of (.tup (.inl (.inl upd_same)) (r.fr (Fr.new hp)))
theorem o_add : OpR X (binaryOp .Add) (rv2 ⟨X.K, G⟩ fAdd) := by
  intro pins s σ H V1 V2 v u Q I rx ry ⟨μ, h, x, y, z, S, r1, r2, e, q⟩
  unfold fAdd at e
  split at e
  · rename_i i j h1 h2
    cases e
    cases drf_int h1 r1; cases drf_int h2 r2
    exact op_add pins s σ H _ _ v u Q I rx ry ⟨i, j, rfl, rfl, q μ H _ Fr.refl S (.of (.int _))⟩
  · rename_i a b h1 h2
    split at e
    · rename_i hl
      cases e
      cases drf_str h1 r1; cases drf_str h2 r2
      refine op_add_str pins s σ H _ _ v u Q I rx ry ⟨toS a, toS b, rfl, rfl, ?_, q μ H _ Fr.refl S (.of (by rw [toS_append]; exact .str _))⟩
      have := lenOk_le hl
      rw [List.length_append] at this
      rw [toS_length, toS_length]; exact this
    · cases e
  · rename_i a b h1 h2
    split at e
    · rename_i hl
      cases e
      obtain ⟨p1, vs, rfl, t1, q1⟩ := drf_tup h1 r1
      obtain ⟨p2, ws, rfl, t2, q2⟩ := drf_tup h2 r2
      have e1 := q1.length
      have e2 := q2.length
      have hz := lenOk_le hl
      rw [List.length_append] at hz
      refine op_catA pins s σ H _ _ v u Q I rx ry ⟨p1, p2, vs, ws, rfl, rfl, t1, t2, by omega, fun z => ?_, fun _ z => ?_, fun _ _ p hp => ?_⟩
      · subst z
        have : a = [] := List.length_eq_zero_iff.mp e1
        subst this
        exact q μ H _ Fr.refl S (.of (.tup t2 q2))
      · subst z
        have : b = [] := List.length_eq_zero_iff.mp e2
        subst this
        rw [List.append_nil] at q
        exact q μ H _ Fr.refl S (.of (.tup t1 q1))
      · exact q μ _ _ (Fr.new hp) (S.new hp) (new_tup hp (q1.append q2))
    · cases e
  · rename_i a b h1 h2
    split at e
    · rename_i hl
      cases e
      simp only [Bool.and_eq_true] at hl
      obtain ⟨hl, hp1, hp2⟩ := hl
      obtain ⟨p1, vs, rfl, t1, q1⟩ := drf_lst S h1 r1
      obtain ⟨p2, ws, rfl, t2, q2⟩ := drf_lst S h2 r2
      have e1 := q1.length
      have e2 := q2.length
      have hz := lenOk_le hl
      rw [List.length_append] at hz
      refine op_catL pins s σ H _ _ v u Q I rx ry ⟨p1, p2, vs, ws, rfl, rfl, t1, t2, by omega, fun p hp => ?_⟩
      exact q μ _ _ (Fr.new hp) (S.new hp) (new_lst S hp ((q1.pure_ hp1).append (q2.pure_ hp2)))
    · cases e
  · rename_i i b h1 h2
    cases e
    cases drf_int h1 r1; cases drf_bl h2 r2
    refine op_add_ib pins s σ H _ _ v u Q I rx ry ⟨i, b, rfl, rfl, q μ H _ Fr.refl S (.of ?_)⟩
    have : b2i b = if b = true then 1 else 0 := by cases b <;> rfl
    rw [this]; exact .int _
  · cases e

/-! ### other int operators -/
def fI2 (C : Int → Int → Bool) (g : Int → Int → Int) (_ : SHp) (x y : SV) : Option SV := match x, y with
  | .int i, .int j => if C i j then some (.int (g i j)) else none
  | _, _ => none
theorem o_I {f : Value → Value → Sem Value} {C : Int → Int → Prop} {B : Int → Int → Bool} {g : Int → Int → Int} (ho : OpR X f (rI C fun i j => .int (g i j))) (hb : ∀ i j, B i j = true → C i j) : OpR X f (rv2 ⟨X.K, G⟩ (fI2 B g)) := by
  intro pins s σ H V1 V2 v u Q I rx ry ⟨μ, h, x, y, z, S, r1, r2, e, q⟩
  unfold fI2 at e
  split at e
  · rename_i i j
    split at e
    · rename_i hc
      cases e
      cases r1.int_; cases r2.int_
      exact ho pins s σ H _ _ v u Q I rx ry ⟨i, j, rfl, rfl, hb _ _ hc, q μ H _ Fr.refl S (.of (.int _))⟩
    · cases e
  · cases e
def bT (_ _ : Int) : Bool := true
def bPos (_ j : Int) : Bool := decide (0 < j)
def bNN (_ j : Int) : Bool := decide (0 ≤ j)
def bDiv (_ j : Int) : Bool := decide (0 < j) && decide (j < 1073741824)
def in64 (i : Int) : Bool := decide (-(2 ^ 64) < i) && decide (i < 2 ^ 64)
def bMul (i j : Int) : Bool := in64 i || in64 j
def bPow (i j : Int) : Bool := (decide (0 ≤ j) && decide (j ≤ 1000000)) && decide (i.natAbs < 2 ^ 64)
theorem in64_ok {i : Int} (h : in64 i = true) : -(2 ^ 64) < i ∧ i < 2 ^ 64 := by
  unfold in64 at h; simp only [Bool.and_eq_true, decide_eq_true_eq] at h; exact h
theorem o_sub : OpR X (binaryOp .Sub) (rv2 ⟨X.K, G⟩ (fI2 bT fun i j => i - j)) := o_I (C := fun _ _ => True) (fun pins s σ H x y v u Q I rx ry ⟨i, j, a, b, _, q⟩ => op_sub pins s σ H x y v u Q I rx ry ⟨i, j, a, b, q⟩) fun _ _ _ => trivial
theorem o_mul : OpR X (binaryOp .Mult) (rv2 ⟨X.K, G⟩ (fI2 bMul fun i j => i * j)) := o_I op_mul fun i j h => by
  unfold bMul at h
  rw [Bool.or_eq_true] at h
  exact h.imp in64_ok in64_ok
theorem o_mod : OpR X (binaryOp .Mod) (rv2 ⟨X.K, G⟩ (fI2 bPos fun i j => i % j)) := o_I op_mod fun i j h => of_decide_eq_true h
theorem o_fdiv : OpR X (binaryOp .FloorDiv) (rv2 ⟨X.K, G⟩ (fI2 bDiv fun i j => i / j)) := o_I op_fdiv fun i j h => by
  unfold bDiv at h; simp only [Bool.and_eq_true, decide_eq_true_eq] at h; exact h
theorem o_pow : OpR X (binaryOp .Pow) (rv2 ⟨X.K, G⟩ (fI2 bPow fun i j => i ^ j.toNat)) := o_I op_pow fun i j h => by
  unfold bPow at h; simp only [Bool.and_eq_true, decide_eq_true_eq] at h; exact ⟨h.1.1, h.1.2, h.2⟩
theorem o_shl : OpR X (binaryOp .LShift) (rv2 ⟨X.K, G⟩ (fI2 bPow fun i j => i * 2 ^ j.toNat)) := o_I op_shl fun i j h => by
  unfold bPow at h; simp only [Bool.and_eq_true, decide_eq_true_eq] at h; exact ⟨h.1.1, h.1.2, h.2⟩
theorem o_shr : OpR X (binaryOp .RShift) (rv2 ⟨X.K, G⟩ (fI2 bNN fun i j => i / 2 ^ j.toNat)) := o_I op_shr fun i j h => of_decide_eq_true h
theorem o_and : OpR X (binaryOp .BitAnd) (rv2 ⟨X.K, G⟩ (fI2 bT fun i j => Builtin.bitAnd i j)) := o_I (C := fun _ _ => True) (fun pins s σ H x y v u Q I rx ry ⟨i, j, a, b, _, q⟩ => op_and pins s σ H x y v u Q I rx ry ⟨i, j, a, b, q⟩) fun _ _ _ => trivial
def fNeg (_ : SHp) (x : SV) : Option SV := match x with
  | .int i => some (.int (-i))
  | _ => none
theorem o_neg : UnR X (unaryOp .USub) (rv1 ⟨X.K, G⟩ fNeg) := by
  intro pins s σ H V1 v Q I rx ⟨μ, h, x, z, S, r1, e, q⟩
  unfold fNeg at e
  split at e
  · cases e
    cases r1.int_
    exact un_neg pins s σ H _ v Q I rx ⟨_, rfl, q μ H _ Fr.refl S (.of (.int _))⟩
  · cases e
end
end EV

/-! EV3: comparisons, membership, subscripts, truth, tests. -/
namespace EV
open PySem PySem.Spec PyProof.Rows L2

/-! ### data -/
mutual
def dat : SV → Option PyData
  | .non => some .none
  | .bl b => some (.bool b)
  | .int i => some (.int i)
  | .str x => some (.str (toS x))
  | .tup l => (datL l).map .tuple
  | .lst l => (datL l).map .list
  | _ => none
def datL : List SV → Option (List PyData)
  | [] => some []
  | v :: r => match dat v, datL r with
    | some d, some ds => some (d :: ds)
    | _, _ => none
end
section
variable {K : KG} {T : Addr → Prop} {H : Hp}
mutual
theorem RP.dp : ∀ {v : SV} {w : L2.V} {d : PyData}, RP K T H v w → dat v = some d → Dp K.K H w d
  | _, _, _, .non, e => by simp [dat] at e; subst e; exact .non
  | _, _, _, .bl b, e => by simp [dat] at e; subst e; exact .bl b
  | _, _, _, .int i, e => by simp [dat] at e; subst e; exact .int i
  | _, _, _, .str x, e => by simp [dat] at e; subst e; exact .str _
  | _, _, _, .ty n, e => by simp [dat] at e
  | _, _, _, .gl n, e => by simp [dat] at e
  | .tup l, _, d, .tup h r, e => by
    simp only [dat, Option.map_eq_some_iff] at e
    obtain ⟨ds, e1, e2⟩ := e
    subst e2
    exact .tup h (RPs.dp r e1)
  | .lst l, _, d, .lst h t r, e => by
    simp only [dat, Option.map_eq_some_iff] at e
    obtain ⟨ds, e1, e2⟩ := e
    subst e2
    exact .lst (.inl h) (RPs.dp r e1)
  | _, _, _, .arg h r, e => by simp [dat] at e
  | _, _, _, .dct h t r, e => by simp [dat] at e
  | _, _, _, .ins h t r, e => by simp [dat] at e
theorem RPs.dp : ∀ {v : List SV} {w : List L2.V} {d : List PyData}, RPs K T H v w → datL v = some d → DpAll K.K H w d
  | _, _, _, .nil, e => by simp [datL] at e; subst e; exact .nil
  | v :: l, _, d, .cons h r, e => by
    simp only [datL] at e
    split at e
    · rename_i d1 ds e1 e2
      cases e
      exact .cons (RP.dp h e1) (RPs.dp r e2)
    · cases e
end
theorem datL_pure : ∀ {l : List SV} {ds : List PyData}, datL l = some ds → l.all isP = true
  | [], _, _ => rfl
  | v :: r, ds, e => by
    simp only [datL] at e
    split at e
    · rename_i d1 ds e1 e2
      simp only [List.all_cons, datL_pure e2, Bool.and_true]
      cases v <;> first | rfl | (simp [dat] at e1)
    · cases e
theorem dat_drf {μ : Nat → Addr} {h : SHp} {x : SV} {V1 : L2.V} {d : PyData} (S : Sim K μ h H) (r : RS K μ h.length H x V1) (e : dat (drf h x) = some d) : Dp K.K H V1 d := by
  cases q : drf h x with
  | lst l =>
    rw [q] at e
    simp only [dat, Option.map_eq_some_iff] at e
    obtain ⟨ds, e1, e2⟩ := e
    subst e2
    obtain ⟨a, vs, rfl, h1, h2⟩ := drf_lst S q r
    exact .lst h1 (RPs.dp (h2.pure_ (datL_pure e1)) e1)
  | un => rw [q] at e; simp [dat] at e
  | ty => rw [q] at e; simp [dat] at e
  | gl => rw [q] at e; simp [dat] at e
  | ref => rw [q] at e; simp [dat] at e
  | dct => rw [q] at e; simp [dat] at e
  | ins => rw [q] at e; simp [dat] at e
  | tupR => rw [q] at e; simp [dat] at e
  | _ =>
    have z := drf_ne q (fun _ z => nomatch z) (fun _ z => nomatch z) (fun _ z => nomatch z) (fun _ _ z => nomatch z)
    rw [q] at e
    subst z
    exact RP.dp (r.pure_ rfl) e
end

/-! ### ==, != -/
def fEq (neg : Bool) (h : SHp) (x y : SV) : Option SV := match dat (drf h x), dat (drf h y) with
  | some d, some e => if SeqAt.shaped d && SeqAt.shaped e then some (.bl (if neg then !PyData.eqv d e else PyData.eqv d e)) else none
  | _, _ => none
section
variable {X : Cx} {G : Nat → Addr}
theorem o_eq (hu : X.A.units + 64 < cLine) : OpR X (compareOp .Eq) (rv2 ⟨X.K, G⟩ (fEq false)) := by
  intro pins s σ H V1 V2 v u Q I rx ry ⟨μ, h, x, y, z, S, r1, r2, e, q⟩
  unfold fEq at e
  split at e
  · rename_i d d' h1 h2
    split at e
    · rename_i hs
      cases e
      simp only [Bool.and_eq_true] at hs
      exact op_eqD hu pins s σ H _ _ v u Q I rx ry ⟨d, d', dat_drf S r1 h1, dat_drf S r2 h2, hs.1, hs.2, q μ H _ Fr.refl S (.of (.bl _))⟩
    · cases e
  · cases e
theorem o_ne (hu : X.A.units + 64 < cLine) : OpR X (compareOp .NotEq) (rv2 ⟨X.K, G⟩ (fEq true)) := by
  intro pins s σ H V1 V2 v u Q I rx ry ⟨μ, h, x, y, z, S, r1, r2, e, q⟩
  unfold fEq at e
  split at e
  · rename_i d d' h1 h2
    split at e
    · rename_i hs
      cases e
      simp only [Bool.and_eq_true] at hs
      exact op_neD hu pins s σ H _ _ v u Q I rx ry ⟨d, d', dat_drf S r1 h1, dat_drf S r2 h2, hs.1, hs.2, q μ H _ Fr.refl S (.of (.bl _))⟩
    · cases e
  · cases e

/-! ### order -/
def fOrd (gi : Int → Int → Bool) (gs : Cs → Cs → Bool) (_ : SHp) (x y : SV) : Option SV := match x, y with
  | .int i, .int j => some (.bl (gi i j))
  | .str a, .str b => some (.bl (gs a b))
  | _, _ => none
def ltC (a b : Cs) : Bool := decide (a < b)
theorem o_ord {f : Value → Value → Sem Value} {gi : Int → Int → Bool} {gs : Cs → Cs → Bool} (h1 : OpR X f (rI0 fun i j => .bl (gi i j)))
    (h2 : OpR X f (fun x y H Q => ∃ i j, x = .str i ∧ y = .str j ∧ Q (.bl (gs i.cps.toList j.cps.toList)) H)) : OpR X f (rv2 ⟨X.K, G⟩ (fOrd gi gs)) := by
  intro pins s σ H V1 V2 v u Q I rx ry ⟨μ, h, x, y, z, S, r1, r2, e, q⟩
  unfold fOrd at e
  split at e
  · cases e
    cases r1.int_; cases r2.int_
    exact h1 pins s σ H _ _ v u Q I rx ry ⟨_, _, rfl, rfl, q μ H _ Fr.refl S (.of (.bl _))⟩
  · cases e
    cases r1.str_; cases r2.str_
    refine h2 pins s σ H _ _ v u Q I rx ry ⟨_, _, rfl, rfl, ?_⟩
    exact q μ H _ Fr.refl S (.of (.bl _))
  · cases e
theorem o_lt : OpR X (compareOp .Lt) (rv2 ⟨X.K, G⟩ (fOrd (fun i j => decide (i < j)) ltC)) := o_ord op_lt op_lt_str
theorem o_gt : OpR X (compareOp .Gt) (rv2 ⟨X.K, G⟩ (fOrd (fun i j => decide (j < i)) fun a b => ltC b a)) := o_ord op_gt op_gt_str
theorem o_le : OpR X (compareOp .LtE) (rv2 ⟨X.K, G⟩ (fOrd (fun i j => decide (i ≤ j)) fun a b => !ltC b a)) := o_ord op_le op_le_str
theorem o_ge : OpR X (compareOp .GtE) (rv2 ⟨X.K, G⟩ (fOrd (fun i j => decide (j ≤ i)) fun a b => !ltC a b)) := o_ord op_ge op_ge_str

/-! ### is None, is True -/
def fIs (neg : Bool) (_ : SHp) (x y : SV) : Option SV := match x, y with
  | .bl a, .bl b => some (.bl (if neg then !decide (a = b) else decide (a = b)))
  | .un, _ => none
  | .non, .non => some (.bl !neg)
  | _, .non => some (.bl neg)
  | _, _ => none
theorem rs_non {K : KG} {μ : Nat → Addr} {n : Nat} {H : Hp} {x : SV} {V1 : L2.V} (r : RS K μ n H x V1) (h : x ≠ .un) : (V1 = .non ↔ x = .non) := by
  cases r with
  | one r =>
    cases r with
    | un => exact absurd rfl h
    | pure r => cases r <;> simp
    | ref => simp
  | tupR => simp
theorem o_is (hn : Bool) {f : Value → Value → Sem Value} (h1 : OpR X f (fun x y H Q => y = .non ∧ Q (.bl (if hn then !decide (x = .non) else decide (x = .non))) H))
    (h2 : OpR X f (fun x y H Q => ∃ a b : Bool, x = .bl a ∧ y = .bl b ∧ Q (.bl (if hn then !decide (a = b) else decide (a = b))) H)) : OpR X f (rv2 ⟨X.K, G⟩ (fIs hn)) := by
  intro pins s σ H V1 V2 v u Q I rx ry ⟨μ, h, x, y, z, S, r1, r2, e, q⟩
  unfold fIs at e
  split at e
  · cases e
    cases r1.bl_; cases r2.bl_
    exact h2 pins s σ H _ _ v u Q I rx ry ⟨_, _, rfl, rfl, q μ H _ Fr.refl S (.of (.bl _))⟩
  · cases e
  · cases e
    cases r1.non_; cases r2.non_
    refine h1 pins s σ H _ _ v u Q I rx ry ⟨rfl, q μ H _ Fr.refl S (.of ?_)⟩
    have : (if hn = true then !decide (L2.V.non = L2.V.non) else decide (L2.V.non = L2.V.non)) = !hn := by cases hn <;> simp
    rw [this]; exact .bl _
  · rename_i h1' h2'
    cases e
    cases r2.non_
    refine h1 pins s σ H _ _ v u Q I rx ry ⟨rfl, q μ H _ Fr.refl S (.of ?_)⟩
    have nn : V1 ≠ .non := fun z => h2' ((rs_non r1 h1').mp z)
    have : (if hn = true then !decide (V1 = L2.V.non) else decide (V1 = L2.V.non)) = hn := by rw [decide_eq_false nn]; cases hn <;> simp
    rw [this]; exact .bl _
  · cases e
theorem o_isT : OpR X (compareOp .Is) (rv2 ⟨X.K, G⟩ (fIs false)) := o_is false (fun pins s σ H x y v u Q I rx ry h => op_isN pins s σ H x y v u Q I rx ry (by simpa using h)) fun pins s σ H x y v u Q I rx ry h => op_isBl pins s σ H x y v u Q I rx ry (by simpa [rIsB] using h)
theorem o_isNot : OpR X (compareOp .IsNot) (rv2 ⟨X.K, G⟩ (fIs true)) := o_is true (fun pins s σ H x y v u Q I rx ry h => op_notN pins s σ H x y v u Q I rx ry (by simpa using h)) fun pins s σ H x y v u Q I rx ry h => op_notBl pins s σ H x y v u Q I rx ry (by simpa [rNotB] using h)
end
end EV

/-! EV4: membership, dict look-ups, subscripts, slices, truth. -/
namespace EV
open PySem PySem.Spec PyProof.Rows L2

/-! ### look-ups -/
def eqKS : SV → SV → Bool
  | .int i, .int j => decide (i = j)
  | .str x, .str y => decide (x = y)
  | _, _ => false
def lkS (k : SV) : List (SV × SV) → Option SV
  | [] => none
  | (k', v) :: r => if eqKS k' k then some v else lkS k r
def isKey : SV → Bool
  | .int _ => true
  | .str _ => true
  | _ => false
theorem keyOf_eq {a b : SV} {x y : Key} (ha : keyOf a = some x) (hb : keyOf b = some y) : decide (x = y) = eqKS a b := by
  cases a <;> simp only [keyOf, Option.some.injEq, reduceCtorEq] at ha <;> cases b <;> simp only [keyOf, Option.some.injEq, reduceCtorEq] at hb <;> subst ha <;> subst hb
  · simp [eqKS]
  · rename_i i x
    show decide ((Sum.inl i : Key) = Sum.inr (toS x)) = false
    exact key_lr _ _
  · rename_i x i
    show decide ((Sum.inr (toS x) : Key) = Sum.inl i) = false
    exact key_rl _ _
  · rename_i x y
    show decide ((Sum.inr (toS x) : Key) = Sum.inr (toS y)) = _
    rw [key_rr]; exact toS_eq
theorem isKey_of {k : SV} (h : isKey k = true) : ∃ k', keyOf k = some k' := by
  cases k <;> first | exact ⟨_, rfl⟩ | cases h
section
variable {K : KG} {T : Addr → Prop} {μ : Nat → Addr} {n : Nat} {H : Hp} {V1 : L2.V}
theorem RSk.lk {k : SV} {k' : Key} (hk : keyOf k = some k') : ∀ {l : List (SV × SV)} {kvs : List (Key × L2.V)}, RSk K μ n H l kvs →
    (lkS k l = none ∧ valV kvs k' = none) ∨ ∃ v w, lkS k l = some v ∧ valV kvs k' = some w ∧ RS K μ n H v w
  | _, _, .nil => .inl ⟨rfl, rfl⟩
  | (a, v) :: l, (a', w) :: ws, .cons ha h r => by
    have e := keyOf_eq ha hk
    by_cases q : a' = k'
    · rw [decide_eq_true q] at e
      refine .inr ⟨v, w, by simp [lkS, ← e], by simp [valV, q], h⟩
    · rw [decide_eq_false q] at e
      have e1 : lkS k ((a, v) :: l) = lkS k l := by simp [lkS, ← e]
      have e2 : valV ((a', w) :: ws) k' = valV ws k' := by simp [valV, List.find?_cons, q]
      rw [e1, e2]
      exact RSk.lk hk r
theorem RPk.rs : ∀ {l : List (SV × SV)} {kvs : List (Key × L2.V)}, RPk K (Tr μ n) H l kvs → RSk K μ n H l kvs
  | _, _, .nil => .nil
  | _, _, .cons hk h r => .cons hk (.of h) (RPk.rs r)
theorem RPf.rs : ∀ {l : List (Cs × SV)} {kvs : List (Str × L2.V)}, RPf K (Tr μ n) H l kvs → RSf K μ n H l kvs
  | _, _, .nil => .nil
  | _, _, .cons h r => .cons (.of h) (RPf.rs r)
theorem keyOf_rel {k : SV} {k' : Key} (hk : keyOf k = some k') (r : RS K μ n H k V1) : V1 = kV k' := by
  cases k <;> simp only [keyOf, Option.some.injEq, reduceCtorEq] at hk
  · subst hk; exact r.int_
  · subst hk; exact r.str_
variable {h : SHp} {x : SV}
theorem drf_dct {l : List (SV × SV)} (S : Sim K μ h H) (e : drf h x = .dct l) (r : RS K μ h.length H x V1) : ∃ a kvs, V1 = .ref a ∧ Rd H a (.dK kvs) ∧ RSk K μ h.length H l kvs := by
  cases x with
  | ref i =>
    obtain ⟨hi, rfl⟩ := r.ref_
    unfold drf at e
    simp only at e
    split at e
    all_goals first
      | (rename_i l' q
         cases e
         obtain ⟨vs, h1, h2⟩ := S.obj i _ q
         exact ⟨_, vs, rfl, .inl h1, h2⟩)
      | (rename_i l' q
         cases e
         obtain ⟨vs, ob, h1, h2⟩ := S.obj i _ q
         exact ⟨_, vs, rfl, .inr ⟨ob, h1⟩, h2⟩)
      | cases e
  | dct l' =>
    cases e
    obtain ⟨a, vs, h1, h2, _, h3⟩ := r.dct_
    exact ⟨a, vs, h1, h2, h3.rs⟩
  | _ => cases e
theorem drf_ins {C : Nat} {l : List (Cs × SV)} (S : Sim K μ h H) (e : drf h x = .ins C l) (r : RS K μ h.length H x V1) : ∃ a dx fs, V1 = .ref a ∧ H a = some (.ins (K.G C) dx fs) ∧ RSf K μ h.length H l fs := by
  cases x with
  | ref i =>
    obtain ⟨hi, rfl⟩ := r.ref_
    unfold drf at e
    simp only at e
    split at e
    all_goals first
      | (rename_i l' q
         cases e
         obtain ⟨dx, vs, h1, h2⟩ := S.obj i _ q
         exact ⟨_, dx, vs, rfl, h1, h2⟩)
      | cases e
  | ins C' l' =>
    cases e
    obtain ⟨a, dx, vs, h1, h2, _, h3⟩ := r.ins_
    exact ⟨a, dx, vs, h1, h2, h3.rs⟩
  | _ => cases e
/-- what a dict has at a key -/
theorem dget_of {l : List (SV × SV)} {y : SV} {V2 : L2.V} (S : Sim K μ h H) (e : drf h x = .dct l) (r : RS K μ h.length H x V1) (r2 : RS K μ h.length H y V2) (hk : isKey y = true) :
    ∃ a o, V1 = .ref a ∧ DGet H a V2 o ∧ ((lkS y l = none ∧ o = none) ∨ ∃ v w, lkS y l = some v ∧ o = some w ∧ RS K μ h.length H v w) := by
  obtain ⟨a, kvs, rfl, h1, h2⟩ := drf_dct S e r
  obtain ⟨k', ek⟩ := isKey_of hk
  have := keyOf_rel ek r2
  subst this
  refine ⟨a, valV kvs k', rfl, .inl ⟨kvs, k', h1, rfl, rfl⟩, ?_⟩
  exact h2.lk ek
end

/-! ### in, not in -/
def flatS : SV → Bool
  | .non => true
  | .bl _ => true
  | .int _ => true
  | .str _ => true
  | _ => false
def eqS : SV → SV → Bool
  | .non, .non => true
  | .bl a, .bl b => a == b
  | .bl a, .int b => (if a then 1 else 0) == b
  | .int a, .bl b => a == (if b then 1 else 0)
  | .int a, .int b => a == b
  | .str a, .str b => decide (a = b)
  | _, _ => false
def xr (neg b : Bool) : Bool := if neg then !b else b
def fIn (neg : Bool) (h : SHp) (x y : SV) : Option SV := match drf h y with
  | .str z => match x with
    | .str [c] => some (.bl (xr neg (decide (c ∈ z))))
    | _ => none
  | .tup l => if flatS x && l.all flatS then some (.bl (xr neg (l.any fun y => eqS y x))) else none
  | .lst l => if flatS x && l.all flatS then some (.bl (xr neg (l.any fun y => eqS y x))) else match dat x, datL l with
    | some d, some ds => if SeqAt.shaped d && SeqAt.shaped (.list ds) then some (.bl (xr neg (ds.any fun z => PyData.eqv z d))) else none
    | _, _ => none
  | .dct l => if isKey x then some (.bl (xr neg (lkS x l).isSome)) else none
  | _ => none
section
variable {K : KG} {T : Addr → Prop} {μ : Nat → Addr} {n : Nat} {H : Hp}
theorem RP.flat {v : SV} {w : L2.V} (r : RP K T H v w) (h : flatS v = true) : flatV w = true := by
  cases r <;> first | rfl | cases h
theorem RP.eqS {v v' : SV} {w w' : L2.V} (r : RP K T H v w) (r' : RP K T H v' w') (h : flatS v = true) (h' : flatS v' = true) : eqV w w' = eqS v v' := by
  cases r <;> cases r' <;> first
    | rfl
    | (show (toS _ == toS _) = decide _
       rw [← toS_eq]
       exact Bool.eq_iff_iff.mpr (by simp))
    | (cases h; done)
    | (cases h'; done)
theorem RPs.flat : ∀ {l : List SV} {ws : List L2.V}, RPs K T H l ws → l.all flatS = true → ws.all flatV = true
  | _, _, .nil, _ => rfl
  | _, _, .cons h t, p => by
    simp only [List.all_cons, Bool.and_eq_true] at p ⊢
    exact ⟨h.flat p.1, RPs.flat t p.2⟩
theorem RPs.any {x : SV} {X1 : L2.V} (rx : RP K T H x X1) (fx : flatS x = true) : ∀ {l : List SV} {ws : List L2.V}, RPs K T H l ws → l.all flatS = true → inV X1 ws = l.any fun y => EV.eqS y x
  | _, _, .nil, _ => rfl
  | _, _, .cons h t, p => by
    simp only [List.all_cons, Bool.and_eq_true] at p
    have ih := RPs.any rx fx t p.2
    simp only [inV, List.any_cons] at ih ⊢
    rw [h.eqS rx p.1 fx, ih]
theorem flat_pure {l : List SV} (h : l.all flatS = true) : l.all isP = true := by
  rw [List.all_eq_true] at h ⊢
  intro x hx
  have := h x hx
  cases x <;> first | rfl | cases this
end
section
variable {X : Cx} {G : Nat → Addr}
theorem o_inG (neg : Bool) {f : Value → Value → Sem Value}
    (h1 : OpR X f (fun x y H Q => ∃ (c : Nat) (z : Str), x = .str ⟨#[c]⟩ ∧ y = .str z ∧ Q (.bl (xr neg (decide (c ∈ z.cps.toList)))) H))
    (h2 : OpR X f (rIn X.K neg))
    (h3 : OpR X f (fun x y H Q => ∃ d ds, Dp X.K H x d ∧ Dp X.K H y (.list ds) ∧ SeqAt.shaped d = true ∧ SeqAt.shaped (.list ds) = true ∧ Q (.bl (xr neg (ds.any fun z => PyData.eqv z d))) H))
    (h4 : OpR X f (fun x y H Q => ∃ a o, y = .ref a ∧ DGet H a x o ∧ Q (.bl (xr neg o.isSome)) H)) : OpR X f (rv2 ⟨X.K, G⟩ (fIn neg)) := by
  intro pins s σ H V1 V2 v u Q I rx ry ⟨μ, h, x, y, z, S, r1, r2, e, q⟩
  unfold fIn at e
  split at e
  · rename_i w hw
    split at e
    · rename_i c
      cases e
      cases drf_str hw r2; cases r1.str_
      exact h1 pins s σ H _ _ v u Q I rx ry ⟨c, toS w, rfl, rfl, q μ H _ Fr.refl S (.of (.bl _))⟩
    · cases e
  · rename_i l hw
    split at e
    · rename_i hf
      cases e
      simp only [Bool.and_eq_true] at hf
      obtain ⟨a, vs, rfl, t1, q1⟩ := drf_tup hw r2
      have px : isP x = true := by
        have := hf.1
        cases x <;> first | rfl | cases this
      have rp := r1.pure_ px
      refine h2 pins s σ H _ _ v u Q I rx ry ⟨a, vs, rfl, .inr t1, rp.flat hf.1, q1.flat hf.2, ?_⟩
      have e1 := RPs.any rp hf.1 q1 hf.2
      rw [e1]
      exact q μ H _ Fr.refl S (.of (.bl _))
    · cases e
  · rename_i l hw
    obtain ⟨a, vs, rfl, t1, q1⟩ := drf_lst S hw r2
    split at e
    · rename_i hf
      cases e
      simp only [Bool.and_eq_true] at hf
      have px : isP x = true := by
        have := hf.1
        cases x <;> first | rfl | cases this
      have rp := r1.pure_ px
      have q1 := q1.pure_ (flat_pure hf.2)
      refine h2 pins s σ H _ _ v u Q I rx ry ⟨a, vs, rfl, .inl t1, rp.flat hf.1, q1.flat hf.2, ?_⟩
      have e1 := RPs.any rp hf.1 q1 hf.2
      rw [e1]
      exact q μ H _ Fr.refl S (.of (.bl _))
    · split at e
      · rename_i d ds e1 e2
        split at e
        · rename_i hs
          cases e
          simp only [Bool.and_eq_true] at hs
          have px : isP x = true := by cases x <;> first | rfl | (simp [dat] at e1)
          exact h3 pins s σ H _ _ v u Q I rx ry ⟨d, ds, RP.dp (r1.pure_ px) e1, .lst t1 (RPs.dp (q1.pure_ (datL_pure e2)) e2), hs.1, hs.2, q μ H _ Fr.refl S (.of (.bl _))⟩
        · cases e
      · cases e
  · rename_i l hw
    split at e
    · rename_i hk
      cases e
      obtain ⟨a, o, rfl, g, c⟩ := dget_of S hw r2 r1 hk
      refine h4 pins s σ H _ _ v u Q I rx ry ⟨a, o, rfl, g, ?_⟩
      have : o.isSome = (lkS x l).isSome := by
        rcases c with ⟨e1, e2⟩ | ⟨v', w, e1, e2, _⟩
        · rw [e1, e2] <;> rfl
        · rw [e1, e2] <;> rfl
      rw [this]
      exact q μ H _ Fr.refl S (.of (.bl _))
    · cases e
  · cases e
theorem o_in (hu : X.A.units + 65 < cLine) : OpR X (compareOp .In) (rv2 ⟨X.K, G⟩ (fIn false)) :=
  o_inG false op_in_sign op_in_seq (op_inD hu) fun pins s σ H x y v u Q I rx ry ⟨a, o, e, g, q⟩ => by
    subst e
    obtain rfl : u = Value.ref a := ry
    exact d_in (by omega) I g rx fun s3 I3 => ⟨.bl _, H, I3, rfl, q⟩
theorem o_notIn (hu : X.A.units + 65 < cLine) : OpR X (compareOp .NotIn) (rv2 ⟨X.K, G⟩ (fIn true)) :=
  o_inG true op_notIn_sign op_notIn_seq (op_notInD hu) fun pins s σ H x y v u Q I rx ry ⟨a, o, e, g, q⟩ => by
    subst e
    obtain rfl : u = Value.ref a := ry
    exact d_notIn (by omega) I g rx fun s3 I3 => ⟨.bl _, H, I3, rfl, q⟩
end
end EV

/-! EV5: subscripts, slices, truth, tests, and/or/not, conditional expressions. -/
namespace EV
open PySem PySem.Spec PyProof.Rows L2

section
variable {K : KG} {T : Addr → Prop} {μ : Nat → Addr} {n : Nat} {H : Hp}
theorem atI_rel {l : List SV} {vs : List L2.V} {i : Int} {v : SV} (e : l.length = vs.length) (h : atI l i = some v) : ∃ j : Nat, l[j]? = some v ∧ ∀ w, vs[j]? = some w → atI vs i = some w := by
  unfold atI at h ⊢
  rw [e] at h
  cases q : ixN vs.length i with
  | none => rw [q] at h; cases h
  | some j => rw [q] at h; exact ⟨j, h, fun w hw => hw⟩
theorem RSs.at_ {l : List SV} {vs : List L2.V} {i : Int} {v : SV} (r : RSs K μ n H l vs) (h : atI l i = some v) : ∃ w, atI vs i = some w ∧ RS K μ n H v w := by
  obtain ⟨j, h1, h2⟩ := atI_rel r.length h
  obtain ⟨w, h3, h4⟩ := r.get h1
  exact ⟨w, h2 w h3, h4⟩
theorem RSs1.rs : ∀ {l : List SV} {vs : List L2.V}, RSs1 K μ n H l vs → RSs K μ n H l vs
  | _, _, .nil => .nil
  | _, _, .cons h t => .cons (.one h) (RSs1.rs t)
theorem RS.tupR_ {V1 : L2.V} {l : List SV} (r : RS K μ n H (.tupR l) V1) : ∃ a vs, V1 = .ref a ∧ SqT K.K H a vs ∧ RSs1 K μ n H l vs := by
  cases r with
  | one r => cases r with | pure r => cases r
  | tupR h r => exact ⟨_, _, rfl, h, r⟩
end
def fIx (h : SHp) (x y : SV) : Option SV := match drf h x, y with
  | .lst l, .int i => atI l i
  | .tup l, .int i => atI l i
  | .tupR l, .int i => atI l i
  | .str z, .int i => if lenOk z then (atI z i).map fun c => .str [c] else none
  | .dct l, k => if isKey k then lkS k l else none
  | _, _ => none
section
variable {X : Cx} {G : Nat → Addr}
theorem ix_dict (hu : X.A.units + 1 < cLine) : IxR X (fun x y H Q => ∃ a v, x = .ref a ∧ DGet H a y (some v) ∧ Q v H) := by
  intro value slice pins s σ H x y v u Q I rx ry ⟨a, w, e, g, q⟩ hs
  subst e
  obtain rfl : v = Value.ref a := rx
  have d : IsD H a := by
    rcases g with ⟨kvs, k, e, _⟩ | ⟨kvs, k, b, e, _⟩
    · exact .inl ⟨kvs, e⟩
    · exact .inr ⟨kvs, e⟩
  exact tail_any (isD_at I d).1 PySem.F.slot_dict_getitem.lookup (d_getItem hu I g ry fun w' s' I' r => ⟨w, H, I', r, q⟩) hs
theorem x_ix (hu : X.A.units + 1 < cLine) : IxR X (rv2 ⟨X.K, G⟩ fIx) := by
  intro value slice pins s σ H V1 V2 v u Q I rx ry ⟨μ, h, x, y, z, S, r1, r2, e, q⟩ hs
  unfold fIx at e
  split at e
  · rename_i l i h1
    obtain ⟨a, vs, rfl, t1, q1⟩ := drf_lst S h1 r1
    cases r2.int_
    obtain ⟨w, e1, e2⟩ := q1.at_ e
    exact ix_list value slice pins s σ H _ _ v u Q I rx ry ⟨a, vs, i, w, rfl, rfl, t1, e1, q μ H _ Fr.refl S e2⟩ hs
  · rename_i l i h1
    obtain ⟨a, vs, rfl, t1, q1⟩ := drf_tup h1 r1
    cases r2.int_
    obtain ⟨w, e1, e2⟩ := q1.rs.at_ e
    exact ix_tup value slice pins s σ H _ _ v u Q I rx ry ⟨a, vs, i, w, rfl, rfl, t1, e1, q μ H _ Fr.refl S e2⟩ hs
  · rename_i l i h1
    cases drf_ne h1 (fun _ z => nomatch z) (fun _ z => nomatch z) (fun _ z => nomatch z) (fun _ _ z => nomatch z)
    obtain ⟨a, vs, rfl, t1, q1⟩ := r1.tupR_
    cases r2.int_
    obtain ⟨w, e1, e2⟩ := q1.rs.at_ e
    exact ix_tup value slice pins s σ H _ _ v u Q I rx ry ⟨a, vs, i, w, rfl, rfl, t1, e1, q μ H _ Fr.refl S e2⟩ hs
  · rename_i w i h1
    split at e
    · rename_i hl
      simp only [Option.map_eq_some_iff] at e
      obtain ⟨c, e1, e2⟩ := e
      subst e2
      cases drf_str h1 r1
      cases r2.int_
      refine ix_str value slice pins s σ H _ _ v u Q I rx ry ⟨toS w, i, c, rfl, rfl, by rw [toS_length]; exact lenOk_le hl, ?_, q μ H _ Fr.refl S (.of (.str [c]))⟩ hs
      simpa [toS] using e1
    · cases e
  · rename_i l h1
    split at e
    · rename_i hk
      obtain ⟨a, o, rfl, g, c⟩ := dget_of S h1 r1 r2 hk
      rcases c with ⟨e1, _⟩ | ⟨v', w, e1, e2, r⟩
      · rw [e1] at e; cases e
      · rw [e1] at e
        cases e
        subst e2
        exact ix_dict hu value slice pins s σ H _ _ v u Q I rx ry ⟨a, w, rfl, g, q μ H _ Fr.refl S r⟩ hs
    · cases e
  · cases e

/-! ### slices -/
def cutL {α : Type} (xs : List α) (lo hi : Option Int) : List α := (xs.drop (HT.sIx xs.length 0 lo)).take (HT.sIx xs.length xs.length hi - HT.sIx xs.length 0 lo)
def fSl (h : SHp) (x : SV) (lo hi : Option Int) : Option SV := match drf h x with
  | .lst l => if l.all isP then some (.lst (cutL l lo hi)) else none
  | .tup l => some (.tup (cutL l lo hi))
  | .arg l => some (.lst (cutL l lo hi))
  | .str z => if lenOk z then some (.str (cutL z lo hi)) else none
  | _ => none
def rvS (K : KG) (f : SHp → SV → Option Int → Option Int → Option SV) : L2.V → Option Int → Option Int → Hp → VK → Prop := fun V1 lo hi H Q => ∃ μ h x z, Sim K μ h H ∧ RS K μ h.length H x V1 ∧ f h x lo hi = some z ∧
  ∀ μ' H' V, EV.Fr μ h.length H μ' h.length H' → Sim K μ' h H' → RS K μ' h.length H' z V → Q V H'
theorem RPs.cut {K : KG} {T : Addr → Prop} {H : Hp} {l : List SV} {vs : List L2.V} (lo hi : Option Int) (r : RPs K T H l vs) : RPs K T H (cutL l lo hi) (cutV vs lo hi) := by
  unfold cutL cutV
  rw [r.length]
  exact (r.drop _).take _
theorem s_sl : SlR X (rvS ⟨X.K, G⟩ fSl) := by
  intro pins s σ H V1 v vl vu lo hi sl Q I rx hs pl pu ⟨μ, h, x, z, S, r1, e, q⟩
  unfold fSl at e
  split at e
  · rename_i l h1
    split at e
    · rename_i hp
      cases e
      obtain ⟨a, vs, rfl, t1, q1⟩ := drf_lst S h1 r1
      have q1 := q1.pure_ hp
      exact sl_list pins s σ H _ v vl vu lo hi sl Q I rx hs pl pu ⟨a, vs, rfl, t1, fun p np => q μ _ _ (Fr.new np) (S.new np) (new_lst S np (q1.cut lo hi))⟩
    · cases e
  · rename_i l h1
    cases e
    obtain ⟨a, vs, rfl, t1, q1⟩ := drf_tup h1 r1
    refine sl_tupA pins s σ H _ v vl vu lo hi sl Q I rx hs pl pu ⟨a, vs, rfl, t1, fun hw => ?_, fun _ p np => q μ _ _ (Fr.new np) (S.new np) (new_tup np (q1.cut lo hi))⟩
    refine q μ H _ Fr.refl S (.of ?_)
    have e1 := q1.length
    have : cutL l lo hi = l := by
      unfold cutL
      rw [e1, hw.1, hw.2, List.drop_zero, Nat.sub_zero, List.take_of_length_le (Nat.le_of_eq e1)]
    rw [this]
    exact .tup t1 q1
  · rename_i l h1
    cases e
    cases drf_ne h1 (fun _ z => nomatch z) (fun _ z => nomatch z) (fun _ z => nomatch z) (fun _ _ z => nomatch z)
    cases r1 with | one r1 => cases r1 with | pure r1 => cases r1 with
      | arg hh q1 => exact sl_list pins s σ H _ v vl vu lo hi sl Q I rx hs pl pu ⟨_, _, rfl, hh H, fun p np => q μ _ _ (Fr.new np) (S.new np) (new_lst S np (q1.cut lo hi))⟩
  · rename_i w h1
    split at e
    · rename_i hl
      cases e
      cases drf_str h1 r1
      refine sl_str pins s σ H _ v vl vu lo hi sl Q I rx hs pl pu ⟨toS w, rfl, by rw [toS_length]; exact lenOk_le hl, q μ H _ Fr.refl S (.of ?_)⟩
      have : cutS (toS w) lo hi = toS (cutL w lo hi) := by
        unfold cutS cutL
        rw [toS_length]
        simp [toS]
      rw [this]
      exact .str _
    · cases e
  · cases e

/-! ### truth -/
def truS (h : SHp) (x : SV) : Option Bool := match drf h x with
  | .non => some false
  | .bl b => some b
  | .int i => some (i != 0)
  | .str z => if lenOk z then some (!z.isEmpty) else none
  | .lst l => some (!l.isEmpty)
  | .tup l => some (!l.isEmpty)
  | .dct l => match x with
    | .ref _ => none
    | _ => none
  | _ => none
theorem truS_ok {K : KG} {μ : Nat → Addr} {h : SHp} {H : Hp} {x : SV} {V1 : L2.V} {b : Bool} (S : Sim K μ h H) (r : RS K μ h.length H x V1) (e : truS h x = some b) : TruV K.K V1 H b := by
  unfold truS at e
  split at e
  · rename_i h1; cases e; cases drf_non h1 r; rfl
  · rename_i b h1; cases e; cases drf_bl h1 r; rfl
  · rename_i i h1; cases e; cases drf_int h1 r; rfl
  · rename_i z h1
    split at e
    · rename_i hl
      cases e
      cases drf_str h1 r
      refine ⟨by rw [toS_length]; exact lenOk_le hl, ?_⟩
      rw [toS_length]
      cases z with
      | nil => rfl
      | cons a r =>
        show true = _
        symm
        simp only [bne_iff_ne, ne_eq, List.length_cons]
        omega
    · cases e
  · rename_i l h1
    cases e
    obtain ⟨a, vs, rfl, t1, q1⟩ := drf_lst S h1 r
    refine .inl ⟨vs, t1, ?_⟩
    cases q1 <;> rfl
  · rename_i l h1
    cases e
    obtain ⟨a, vs, rfl, t1, q1⟩ := drf_tup h1 r
    refine .inr (.inl ⟨vs, t1, ?_⟩)
    cases q1 <;> rfl
  · split at e <;> cases e
  · cases e
end

/-! ### tests -/
/-- a test's reading: m comes to a bool -/
def rdT (K : KG) (m : M) (W : WX) : TT := fun σ H Q => rd K m W σ H fun V H' => ∃ b, V = .bl b ∧ Q b H'
structure PTs (G : Nat → Addr) (X : Cx) (e : Expr) (m : M) : Prop where
  run : ∀ W, Takes X W → PT X e (rdT ⟨X.K, G⟩ m W)
structure PWs (G : Nat → Addr) (X : Cx) (e : Expr) (m : M) : Prop where
  run : ∀ W, Takes X W → PW X e (rdT ⟨X.K, G⟩ m W)
theorem PWs.pt {G : Nat → Addr} {X : Cx} {e : Expr} {m : M} (h : PWs G X e m) : PTs G X e m := ⟨fun W tk => (h.run W tk).pt⟩
theorem wkPW {X : Cx} {e : Expr} {t t' : TT} (h : PW X e t) (w : ∀ σ H Q, t' σ H Q → t σ H Q) : PW X e t' := ⟨fun wh pins s σ H Q I q => h.run wh pins s σ H Q I (w σ H Q q)⟩
/-- a value's truth -/
def mTru (a : M) : M := bnd a fun x _ h => match truS h x with
  | some b => .val (.bl b) h
  | none => .bad
/-- if c then a else b (c a bool) -/
def mIf (c a b : M) : M := fun σ h => match c σ h with
  | .val (.bl true) h' => a σ h'
  | .val (.bl false) h' => b σ h'
  | .val _ _ => .bad
  | .exc C f h' => .exc C f h'
  | .bad => .bad
def mNot (a : M) : M := bnd a fun x _ h => match x with
  | .bl b => .val (.bl !b) h
  | _ => .bad
section
variable {K : KG} {W : WX} {σ : L2.St} {H : Hp} {Q : VK} {μ : Nat → Addr} {h : SHp} {σs : SSt} {E : XK}
theorem rd_if {c a b : M} {t : Bool → Hp → Prop} (x : rd K (mIf c a b) W σ H Q) (go : ∀ k H1, (if k = true then rd K a W σ H1 Q else rd K b W σ H1 Q) → t k H1) : rdT K c W σ H t := by
  obtain ⟨μ, σs, h, S, st, p⟩ := x
  refine ⟨μ, σs, h, S, st, ?_⟩
  unfold mIf at p
  cases e : c σs h with
  | val v h' =>
    rw [e] at p
    intro μ' H' V f S' r
    cases v with
    | bl k =>
      cases r.bl_
      refine ⟨k, rfl, go k H' ?_⟩
      cases k with
      | true => exact ⟨μ', σs, h', S', st.fr f, Post.fr f p⟩
      | false => exact ⟨μ', σs, h', S', st.fr f, Post.fr f p⟩
    | _ => exact p.elim
  | exc C fs h' => rw [e] at p; exact p
  | bad => rw [e] at p; exact p
theorem rdT_imp {m : M} {t t' : Bool → Hp → Prop} (x : rdT K m W σ H t) (go : ∀ b H1, t b H1 → t' b H1) : rdT K m W σ H t' := rd_imp x fun V H' ⟨b, e, q⟩ => ⟨b, e, go b H' q⟩
theorem rd_val {v : SV} {w : L2.V} (r : ∀ μ n H, RS K μ n H v w) (x : rd K (mC v) W σ H Q) : Q w H := by
  obtain ⟨μ, σs, h, S, st, p⟩ := x
  exact p μ H w Fr.refl S (r _ _ _)
end
section
variable {X : Cx} {G : Nat → Addr} {a b c : Expr} {ma mb mc : M} {pos : Pos}
/-- a comparison -/
theorem e_cmp {op : CmpOp} {f : SHp → SV → SV → Option SV} (ho : OpR X (compareOp op) (rv2 ⟨X.K, G⟩ f)) (ha : PEs G X a ma) (hb : PEs G X b mb) (hm : behindInMarks op b = false) : PEs G X (.Compare a [op] [b] pos) (mV2 f ma mb) :=
  ⟨fun W tk => wkPE (pe_cmpR ho (ha.run W tk) (hb.run W tk) hm) fun σ H Q x => rd_imp (rd_bnd x) fun V H1 y => rd_imp (rd1_bnd y) fun V2 H2 z => rd2_v z⟩
theorem t_cmp {op : CmpOp} {f : SHp → SV → SV → Option SV} (ho : OpR X (compareOp op) (rv2 ⟨X.K, G⟩ f)) (ha : PEs G X a ma) (hb : PEs G X b mb) (hm : behindInMarks op b = false) : PTs G X (.Compare a [op] [b] pos) (mV2 f ma mb) :=
  ⟨fun W tk => wkPT (pt_cmpR ho (ha.run W tk) (hb.run W tk) hm) fun σ H Q x => rd_imp (rd_bnd x) fun V H1 y => rd_imp (rd1_bnd y) fun V2 H2 z => rd2_v z⟩
/-- a op1 b op2 c -/
def mChain (f g : SHp → SV → SV → Option SV) (a b c : M) : M := bnd a fun x => bnd b fun y σ h => match f h x y with
  | some (.bl true) => bnd c (fun z _ h' => ofO h' (g h' y z)) σ h
  | some (.bl false) => .val (.bl false) h
  | _ => .bad
theorem rd_chain {K : KG} {W : WX} {σ : L2.St} {H : Hp} {Q : VK} {f g : SHp → SV → SV → Option SV} (x : rd K (mChain f g ma mb mc) W σ H Q) : tChain (rv2 K f) (rv2 K g) (rd K ma W) (rd K mb W) (rd K mc W) σ H Q := by
  refine rd_imp (rd_bnd x) fun V H1 y => rd_imp (rd1_bnd y) fun V2 H2 z => ?_
  obtain ⟨μ, σs, h, u, v, S, st, r1, r2, p⟩ := z
  cases e : f h u v with
  | none => simp only [e] at p; exact p.elim
  | some w =>
    simp only [e] at p
    refine ⟨μ, h, u, v, w, S, r1, r2, e, fun μ' H' V3 fr S' r3 => ?_⟩
    cases w with
    | bl k =>
      cases r3.bl_
      refine ⟨k, rfl, ?_⟩
      cases k with
      | true =>
        rw [if_pos rfl]
        have p' := Post.fr fr p
        have x2 : rd1 K (fun y => bnd mc fun z _ h' => ofO h' (g h' y z)) V2 W σ H' Q := ⟨μ', σs, h, v, S', st.fr fr, r2.fr fr, p'⟩
        exact rd_imp (rd1_bnd x2) fun V4 H4 z => rd2_v z
      | false =>
        rw [if_neg Bool.false_ne_true]
        exact p μ' H' _ fr S' (.of (.bl false))
    | _ => exact p.elim
theorem e_chain {op op' : CmpOp} {f g : SHp → SV → SV → Option SV} (ho : OpR X (compareOp op) (rv2 ⟨X.K, G⟩ f)) (ho' : OpR X (compareOp op') (rv2 ⟨X.K, G⟩ g)) (ha : PEs G X a ma) (hb : PEs G X b mb) (hc : PEs G X c mc)
    (hm : lastMarks [op, op'] [b, c] = false) : PEs G X (.Compare a [op, op'] [b, c] pos) (mChain f g ma mb mc) :=
  ⟨fun W tk => wkPE (pe_chain ho ho' (ha.run W tk) (hb.run W tk) (hc.run W tk) hm) fun σ H Q x => rd_chain x⟩
theorem t_chain {op op' : CmpOp} {f g : SHp → SV → SV → Option SV} (ho : OpR X (compareOp op) (rv2 ⟨X.K, G⟩ f)) (ho' : OpR X (compareOp op') (rv2 ⟨X.K, G⟩ g)) (ha : PEs G X a ma) (hb : PEs G X b mb) (hc : PEs G X c mc)
    (hm : lastMarks [op, op'] [b, c] = false) : PTs G X (.Compare a [op, op'] [b, c] pos) (mChain f g ma mb mc) :=
  ⟨fun W tk => wkPT (pt_chain ho ho' (ha.run W tk) (hb.run W tk) (hc.run W tk) hm) fun σ H Q x => rd_chain x⟩
/-- the truth of any other expression -/
theorem t_tru (ha : PEs G X a ma) (he : ∀ whole, isTrue a X.env whole = (do let v ← whole; standAt a.pos; holding [v] (truthy v))) : PTs G X a (mTru ma) :=
  ⟨fun W tk => wkPT (pt_truth (ha.run W tk) he) fun σ H Q x => rd_imp (rd_bnd x) fun V H1 ⟨μ, σs, h, u, S, st, r, p⟩ => by
    cases e : truS h u with
    | none => simp only [e] at p; exact p.elim
    | some k =>
      simp only [e] at p
      obtain ⟨b, e1, e2⟩ := p μ H1 _ Fr.refl S (.of (.bl k))
      cases e1
      exact ⟨_, truS_ok S r e, e2⟩⟩
theorem t_not (ha : PTs G X a ma) : PTs G X (.UnaryOp .Not a pos) (mNot ma) :=
  ⟨fun W tk => wkPT (pt_not (ha.run W tk)) fun σ H Q x => rd_imp (rd_bnd x) fun V H1 ⟨μ, σs, h, u, S, st, r, p⟩ => by
    cases u with
    | bl k =>
      cases r.bl_
      obtain ⟨b, e1, e2⟩ := p μ H1 _ Fr.refl S (.of (.bl !k))
      cases e1
      exact ⟨k, rfl, e2⟩
    | _ => exact p.elim⟩
def mFalse : M := mC (.bl false)
def mTrue : M := mC (.bl true)
theorem w_and1 (ha : PTs G X a ma) : PWs G X (.BoolOp .And [a] pos) ma := ⟨fun W tk => pw_and1 (ha.run W tk)⟩
theorem w_or1 (ha : PTs G X a ma) : PWs G X (.BoolOp .Or [a] pos) ma := ⟨fun W tk => pw_or1 (ha.run W tk)⟩
theorem w_and {rest : List Expr} (ha : PTs G X a ma) (hb : PWs G X (.BoolOp .And (b :: rest) pos) mb) : PWs G X (.BoolOp .And (a :: b :: rest) pos) (mIf ma mb mFalse) :=
  ⟨fun W tk => wkPW (pw_and (ha.run W tk) (hb.run W tk)) fun σ H Q x => rd_if x fun k H1 y => by
    cases k with
    | true => exact y
    | false =>
      obtain ⟨b, e1, e2⟩ := rd_val (v := .bl false) (w := .bl false) (fun _ _ _ => .of (.bl false)) y
      cases e1
      exact e2⟩
theorem w_or {rest : List Expr} (ha : PTs G X a ma) (hb : PWs G X (.BoolOp .Or (b :: rest) pos) mb) : PWs G X (.BoolOp .Or (a :: b :: rest) pos) (mIf ma mTrue mb) :=
  ⟨fun W tk => wkPW (pw_or (ha.run W tk) (hb.run W tk)) fun σ H Q x => rd_if x fun k H1 y => by
    cases k with
    | false => exact y
    | true =>
      obtain ⟨b, e1, e2⟩ := rd_val (v := .bl true) (w := .bl true) (fun _ _ _ => .of (.bl true)) y
      cases e1
      exact e2⟩
/-- and, or, not as values (of bools) -/
theorem e_one {op : BoolOp} (ha : PEs G X a ma) : PEs G X (.BoolOp op [a] pos) ma := ⟨fun W tk => pe_one (ha.run W tk)⟩
theorem e_and {rest : List Expr} (ha : PEs G X a ma) (hb : PEs G X (.BoolOp .And (b :: rest) pos) mb) : PEs G X (.BoolOp .And (a :: b :: rest) pos) (mIf ma mb mFalse) :=
  ⟨fun W tk => wkPE (pe_and (ha.run W tk) (hb.run W tk)) fun σ H Q x => rd_if (t := fun k H1 => if k = true then rd ⟨X.K, G⟩ mb W σ H1 Q else Q (.bl false) H1) x fun k H1 y => by
    cases k with
    | true => exact y
    | false => exact rd_val (v := .bl false) (w := .bl false) (fun _ _ _ => .of (.bl false)) y⟩
theorem e_or {rest : List Expr} (ha : PEs G X a ma) (hb : PEs G X (.BoolOp .Or (b :: rest) pos) mb) : PEs G X (.BoolOp .Or (a :: b :: rest) pos) (mIf ma mTrue mb) :=
  ⟨fun W tk => wkPE (pe_or (ha.run W tk) (hb.run W tk)) fun σ H Q x => rd_if (t := fun k H1 => if k = true then Q (.bl true) H1 else rd ⟨X.K, G⟩ mb W σ H1 Q) x fun k H1 y => by
    cases k with
    | false => exact y
    | true => exact rd_val (v := .bl true) (w := .bl true) (fun _ _ _ => .of (.bl true)) y⟩
theorem e_not (ha : PEs G X a ma) : PEs G X (.UnaryOp .Not a pos) (mNot ma) :=
  ⟨fun W tk => wkPE (pe_not (ha.run W tk)) fun σ H Q x => rd_imp (rd_bnd x) fun V H1 ⟨μ, σs, h, u, S, st, r, p⟩ => by
    cases u with
    | bl k =>
      cases r.bl_
      exact ⟨k, rfl, p μ H1 _ Fr.refl S (.of (.bl !k))⟩
    | _ => exact p.elim⟩
theorem e_un {op : UnaryOp} {f : SHp → SV → Option SV} (ho : UnR X (unaryOp op) (rv1 ⟨X.K, G⟩ f)) (ha : PEs G X a ma) : PEs G X (.UnaryOp op a pos) (mV1 f ma) :=
  ⟨fun W tk => wkPE (pe_un ho (ha.run W tk)) fun σ H Q x => rd_imp (rd_bnd x) fun V H1 y => rd1_v y⟩
theorem e_if (hc : PTs G X c mc) (ha : PEs G X a ma) (hb : PEs G X b mb) : PEs G X (.IfExp c a b pos) (mIf mc ma mb) :=
  ⟨fun W tk => wkPE (pe_ifExp (hc.run W tk) (ha.run W tk) (hb.run W tk)) fun σ H Q x => rd_if x fun k H1 y => y⟩
/-- a[b] -/
theorem e_ix (hu : X.A.units + 1 < cLine) (ha : PEs G X a ma) (hb : PEs G X b mb) (hs : PlainIx b) : PEs G X (.Subscript a b pos) (mV2 fIx ma mb) :=
  ⟨fun W tk => wkPE (pe_ix (x_ix hu) (ha.run W tk) (hb.run W tk) hs) fun σ H Q x => rd_imp (rd_bnd x) fun V H1 y => rd_imp (rd1_bnd y) fun V2 H2 z => rd2_v z⟩
/-! slices: a[lo:hi], the parts left out or ints -/
def mSl0 (a : M) : M := bnd a fun x _ h => ofO h (fSl h x none none)
def mSlL (a lo : M) : M := bnd a fun x => bnd lo fun i _ h => match i with
  | .int i => ofO h (fSl h x (some i) none)
  | _ => .bad
def mSlH (a hi : M) : M := bnd a fun x => bnd hi fun i _ h => match i with
  | .int i => ofO h (fSl h x none (some i))
  | _ => .bad
def mSlB (a lo hi : M) : M := bnd a fun x => bnd lo fun i => match i with
  | .int i => bnd hi fun j _ h => match j with
    | .int j => ofO h (fSl h x (some i) (some j))
    | _ => .bad
  | _ => fun _ _ => .bad
variable {lo hi : Expr} {ml mh : M} {p2 : Pos}
theorem ofO_post {K : KG} {n : Nat} {H : Hp} {Q : VK} {E : XK} {μ : Nat → Addr} {h : SHp} {o : Option SV} (p : Post K μ n H (ofO h o) Q E) : ∃ z, o = some z ∧ ∀ μ' H' V, EV.Fr μ n H μ' h.length H' → Sim K μ' h H' → RS K μ' h.length H' z V → Q V H' := by
  cases o with
  | none => exact p.elim
  | some z => exact ⟨z, rfl, p⟩
theorem e_sl0 (ha : PEs G X a ma) : PEs G X (.Subscript a (.Slice none none none p2) pos) (mSl0 ma) :=
  ⟨fun W tk => wkPE (pe_slice s_sl (ha.run W tk) po_none po_none) fun σ H Q x => rd_imp (rd_bnd x) fun V H1 ⟨μ, σs, h, u, S, st, r, p⟩ => by
    obtain ⟨z, e, q⟩ := ofO_post p
    exact ⟨μ, h, u, z, S, r, e, q⟩⟩
theorem e_slL (ha : PEs G X a ma) (hl : PEs G X lo ml) : PEs G X (.Subscript a (.Slice (some lo) none none p2) pos) (mSlL ma ml) :=
  ⟨fun W tk => wkPE (pe_slice s_sl (ha.run W tk) (po_some (hl.run W tk)) po_none) fun σ H Q x => rd_imp (rd_bnd x) fun V H1 y => rd_imp (rd1_bnd y) fun V2 H2 ⟨μ, σs, h, u, i, S, st, r, r2, p⟩ => by
    cases i with
    | int i =>
      cases r2.int_
      obtain ⟨z, e, q⟩ := ofO_post p
      exact ⟨i, rfl, μ, h, u, z, S, r, e, q⟩
    | _ => exact p.elim⟩
theorem e_slH (ha : PEs G X a ma) (hl : PEs G X hi mh) : PEs G X (.Subscript a (.Slice none (some hi) none p2) pos) (mSlH ma mh) :=
  ⟨fun W tk => wkPE (pe_slice s_sl (ha.run W tk) po_none (po_some (hl.run W tk))) fun σ H Q x => rd_imp (rd_bnd x) fun V H1 y => rd_imp (rd1_bnd y) fun V2 H2 ⟨μ, σs, h, u, i, S, st, r, r2, p⟩ => by
    cases i with
    | int i =>
      cases r2.int_
      obtain ⟨z, e, q⟩ := ofO_post p
      exact ⟨i, rfl, μ, h, u, z, S, r, e, q⟩
    | _ => exact p.elim⟩
theorem e_slB (ha : PEs G X a ma) (hl : PEs G X lo ml) (hh : PEs G X hi mh) : PEs G X (.Subscript a (.Slice (some lo) (some hi) none p2) pos) (mSlB ma ml mh) :=
  ⟨fun W tk => wkPE (pe_slice s_sl (ha.run W tk) (po_some (hl.run W tk)) (po_some (hh.run W tk))) fun σ H Q x => rd_imp (rd_bnd x) fun V H1 y => rd_imp (rd1_bnd y) fun V2 H2 ⟨μ, σs, h, u, i, S, st, r, r2, p⟩ => by
    cases i with
    | int i =>
      cases r2.int_
      have z : rd1 ⟨X.K, G⟩ (fun x => bnd mh fun j _ h => match j with
        | .int j => ofO h (fSl h x (some i) (some j))
        | _ => .bad) V W σ H2 Q := ⟨μ, σs, h, u, S, st, r, p⟩
      refine ⟨i, rfl, rd_imp (rd1_bnd z) fun V3 H3 ⟨μ, σs, h, u, j, S, st, r, r3, p⟩ => ?_⟩
      cases j with
      | int j =>
        cases r3.int_
        obtain ⟨z, e, q⟩ := ofO_post p
        exact ⟨j, rfl, μ, h, u, z, S, r, e, q⟩
      | _ => exact p.elim
    | _ => exact p.elim⟩
end
end EV

/-! EV6: argument lists, displays, attributes, calls of own defs, methods, classes. -/
namespace EV
open PySem PySem.Spec PyProof.Rows L2

/-! ### arguments -/
def argsM : List M → (List SV → M) → M
  | [], k => k []
  | m :: ms, k => bnd m fun x => argsM ms fun xs => k (x :: xs)
def tAs (K : KG) (W : WX) : List M → TA
  | [] => tNil
  | m :: ms => tCons (rd K m W) (tAs K W ms)
section
variable {K : KG} {W : WX} {σ : L2.St} {H : Hp} {Q : VK}
theorem tAs_imp : ∀ {ms : List M} {σ : L2.St} {H : Hp} {Q Q' : List L2.V → Hp → Prop}, tAs K W ms σ H Q → (∀ Vs H', Q Vs H' → Q' Vs H') → tAs K W ms σ H Q'
  | [], _, _, _, _, x, h => h _ _ x
  | m :: ms, _, _, _, _, x, h => rd_imp x fun V H1 y => tAs_imp y fun Vs H2 z => h _ _ z
theorem rdL_args : ∀ {ms : List M} {k : List SV → M} {Us : List L2.V} {H : Hp}, rdL K (fun us => argsM ms fun xs => k (us ++ xs)) Us W σ H Q → tAs K W ms σ H fun Vs H' => rdL K k (Us ++ Vs) W σ H' Q
  | [], k, Us, H, x => by
    show rdL K k (Us ++ []) W σ H Q
    rw [List.append_nil]
    obtain ⟨μ, σs, h, us, S, st, r, p⟩ := x
    exact ⟨μ, σs, h, us, S, st, r, by simpa [argsM] using p⟩
  | m :: ms, k, Us, H, x => by
    have x2 : rdL K (fun us => bnd m fun v => (fun us' => argsM ms fun xs => k (us' ++ xs)) (us ++ [v])) Us W σ H Q := by
      obtain ⟨μ, σs, h, us, S, st, r, p⟩ := x
      refine ⟨μ, σs, h, us, S, st, r, ?_⟩
      have e : (argsM (m :: ms) fun xs => k (us ++ xs)) = bnd m fun v => argsM ms fun xs => k (us ++ [v] ++ xs) := by
        show (bnd m fun x => argsM ms fun xs => k (us ++ (x :: xs))) = _
        congr 1
        funext v
        congr 1
        funext xs
        rw [List.append_assoc] <;> rfl
      have p2 : Post K μ h.length H (argsM (m :: ms) (fun xs => k (us ++ xs)) σs h) Q (WE W σ) := p
      rw [e] at p2
      exact p2
    refine rd_imp (rdL_bnd x2) fun V H1 y => tAs_imp (rdL_args y) fun Vs H2 z => ?_
    rw [List.append_assoc] at z
    exact z
theorem rd_args {ms : List M} {k : List SV → M} (x : rd K (argsM ms k) W σ H Q) : tAs K W ms σ H fun Vs H' => rdL K k Vs W σ H' Q := by
  obtain ⟨μ, σs, h, S, st, p⟩ := x
  exact rdL_args (Us := []) ⟨μ, σs, h, [], S, st, .nil, p⟩
theorem rd1_args {ms : List M} {k : SV → List SV → M} {V1 : L2.V} (x : rd1 K (fun u => argsM ms (k u)) V1 W σ H Q) :
    tAs K W ms σ H fun Vs H' => rdL K (fun us => match us with | u :: us => k u us | [] => fun _ _ => .bad) (V1 :: Vs) W σ H' Q := by
  obtain ⟨μ, σs, h, u, S, st, r, p⟩ := x
  have := rdL_args (K := K) (W := W) (σ := σ) (Q := Q) (ms := ms) (k := fun us => match us with | u :: us => k u us | [] => fun _ _ => .bad) (Us := [V1]) (H := H)
    ⟨μ, σs, h, [u], S, st, .cons r .nil, by
      have e : (argsM ms fun xs => (fun us => match us with | u :: us => k u us | [] => fun _ _ => R.bad) ([u] ++ xs)) = argsM ms (k u) := by
        congr 1
      have p2 : Post K μ h.length H (argsM ms (k u) σs h) Q (WE W σ) := p
      rw [← e] at p2
      exact p2⟩
  exact this
end
structure PAs (G : Nat → Addr) (X : Cx) (es : List Expr) (ms : List M) : Prop where
  run : ∀ W, Takes X W → PA X es (tAs ⟨X.K, G⟩ W ms)
section
variable {X : Cx} {G : Nat → Addr} {e : Expr} {es : List Expr} {m : M} {ms : List M}
theorem as_nil : PAs G X [] [] := ⟨fun W tk => pa_nil⟩
theorem as_cons (h : PEs G X e m) (t : PAs G X es ms) (hs : starEach (e :: es) X.env = (false, eval e X.env) :: starEach es X.env := by rfl) : PAs G X (e :: es) (m :: ms) := ⟨fun W tk => pa_cons (h.run W tk) (t.run W tk) hs⟩
end

/-! ### displays -/
def noTR : SV → Bool
  | .tupR _ => false
  | _ => true
def kTup (vs : List SV) : M := fun _ h => if lenOk vs then (if vs.all isP then .val (.tup vs) h else if vs.all noTR then .val (.tupR vs) h else .bad) else .bad
def mTup (ms : List M) : M := argsM ms kTup
/-- a list that is never changed; one that may be -/
def kLst (vs : List SV) : M := fun _ h => if lenOk vs && vs.all isP then .val (.lst vs) h else .bad
def mLst (ms : List M) : M := argsM ms kLst
def kLstT (vs : List SV) : M := fun _ h => if lenOk vs then .val (.ref h.length) (h ++ [.lst vs]) else .bad
def mLstT (ms : List M) : M := argsM ms kLstT
section
variable {K : KG} {W : WX} {σ : L2.St} {H : Hp} {Q : VK} {μ : Nat → Addr} {n : Nat}
theorem RSs.one_ : ∀ {l : List SV} {vs : List L2.V}, RSs K μ n H l vs → l.all noTR = true → RSs1 K μ n H l vs
  | _, _, .nil, _ => .nil
  | v :: l, _, .cons h t, p => by
    simp only [List.all_cons, Bool.and_eq_true] at p
    refine .cons ?_ (RSs.one_ t p.2)
    cases h with
    | one h => exact h
    | tupR => cases p.1
theorem RSs1.fr' {μ' : Nat → Addr} {n' : Nat} {H' : Hp} (f : EV.Fr μ n H μ' n' H') {l : List SV} {vs : List L2.V} (r : RSs1 K μ n H l vs) : RSs1 K μ' n' H' l vs := r.fr f
/-- a new list that is tracked -/
theorem post_alloc {h : SHp} {E : XK} {p : Addr} {o : HO} {s : SO} (S : Sim K μ h H) (hp : H p = none) (r : RO K (put μ h.length p) (h.length + 1) (upd H p o) s (some o)) (q : Post K μ h.length H (.val (.ref h.length) (h ++ [s])) Q E) : Q (.ref p) (upd H p o) := by
  have e : (h ++ [s]).length = h.length + 1 := by simp
  have := q (put μ h.length p) (upd H p o) (.ref (put μ h.length p h.length)) (by rw [e]; exact Fr.alloc hp) (S.alloc hp r) (.one (.ref _ (by omega)))
  rw [put_at] at this
  exact this
theorem rd_tup {ms : List M} (x : rd K (mTup ms) W σ H Q) : tTup (tAs K W ms) σ H Q := by
  refine tAs_imp (rd_args x) fun Vs H1 ⟨μ, σs, h, us, S, st, r, p⟩ => ?_
  unfold kTup at p
  have el := r.length
  split at p
  · rename_i hl
    refine ⟨by have := lenOk_le hl; omega, fun q hq => ?_⟩
    split at p
    · rename_i hp
      exact p μ _ _ (Fr.new hq) (S.new hq) (new_tup hq (r.pure_ hp))
    · split at p
      · rename_i hp
        exact p μ _ _ (Fr.new hq) (S.new hq) (.tupR (.inl (.inl upd_same)) ((r.one_ hp).fr (Fr.new hq)))
      · exact p.elim
  · exact p.elim
theorem rd_lst {ms : List M} (x : rd K (mLst ms) W σ H Q) : tLst (tAs K W ms) σ H Q := by
  refine tAs_imp (rd_args x) fun Vs H1 ⟨μ, σs, h, us, S, st, r, p⟩ => ?_
  unfold kLst at p
  have el := r.length
  split at p
  · rename_i hl
    simp only [Bool.and_eq_true] at hl
    exact ⟨by have := lenOk_le hl.1; omega, fun q hq => p μ _ _ (Fr.new hq) (S.new hq) (new_lst S hq (r.pure_ hl.2))⟩
  · exact p.elim
theorem rd_lstT {ms : List M} (x : rd K (mLstT ms) W σ H Q) : tLst (tAs K W ms) σ H Q := by
  refine tAs_imp (rd_args x) fun Vs H1 ⟨μ, σs, h, us, S, st, r, p⟩ => ?_
  unfold kLstT at p
  have el := r.length
  split at p
  · rename_i hl
    exact ⟨by have := lenOk_le hl; omega, fun q hq => post_alloc (s := .lst us) S hq ⟨Vs, rfl, r.fr (Fr.alloc hq)⟩ p⟩
  · exact p.elim
end
section
variable {X : Cx} {G : Nat → Addr} {es : List Expr} {ms : List M} {pos : Pos}
theorem e_tup {x1} (h : PAs G X es ms) : PEs G X (.Tuple es x1 pos) (mTup ms) := ⟨fun W tk => wkPE (pe_tup (h.run W tk)) fun σ H Q x => rd_tup x⟩
theorem e_lst (h : PAs G X es ms) : PEs G X (.List es pos) (mLst ms) := ⟨fun W tk => wkPE (pe_lst (h.run W tk)) fun σ H Q x => rd_lst x⟩
theorem e_lstT (h : PAs G X es ms) : PEs G X (.List es pos) (mLstT ms) := ⟨fun W tk => wkPE (pe_lst (h.run W tk)) fun σ H Q x => rd_lstT x⟩
end

/-! ### attributes -/
def lkF (f : Cs) : List (Cs × SV) → Option SV
  | [] => none
  | (g, v) :: r => if g = f then some v else lkF f r
def putS (f : Cs) (v : SV) : List (Cs × SV) → List (Cs × SV)
  | [] => [(f, v)]
  | (g, x) :: r => if g = f then (g, v) :: r else (g, x) :: putS f v r
section
variable {K : KG} {μ : Nat → Addr} {n : Nat} {H : Hp}
theorem RSf.lk {f : Cs} : ∀ {l : List (Cs × SV)} {fs : List (Str × L2.V)}, RSf K μ n H l fs → (lkF f l = none ∧ fs.lookup (toS f) = none) ∨ ∃ v w, lkF f l = some v ∧ fs.lookup (toS f) = some w ∧ RS K μ n H v w
  | _, _, .nil => .inl ⟨rfl, rfl⟩
  | (g, v) :: l, (_, w) :: fs, .cons h r => by
    by_cases q : g = f
    · subst q
      exact .inr ⟨v, w, by simp [lkF], by simp [List.lookup], h⟩
    · have q2 : (toS f == toS g) = false := by
        rw [beq_eq_false_iff_ne]
        exact fun z => q (toS_inj z.symm)
      have e1 : lkF f ((g, v) :: l) = lkF f l := by simp [lkF, q]
      have e2 : ((toS g, w) :: fs).lookup (toS f) = fs.lookup (toS f) := by simp [List.lookup, q2]
      rw [e1, e2]
      exact RSf.lk r
theorem RSf.put {f : Cs} {v : SV} {w : L2.V} (r0 : RS K μ n H v w) : ∀ {l : List (Cs × SV)} {fs : List (Str × L2.V)}, RSf K μ n H l fs → RSf K μ n H (putS f v l) (putF (toS f) w fs)
  | _, _, .nil => .cons r0 .nil
  | (g, x) :: l, (_, y) :: fs, .cons h r => by
    by_cases q : g = f
    · subst q
      have e1 : putS g v ((g, x) :: l) = (g, v) :: l := by simp [putS]
      have e2 : putF (toS g) w ((toS g, y) :: fs) = (toS g, w) :: fs := by simp [putF]
      rw [e1, e2]
      exact .cons r0 r
    · have q2 : toS g ≠ toS f := fun z => q (toS_inj z)
      have e1 : putS f v ((g, x) :: l) = (g, x) :: putS f v l := by simp [putS, q]
      have e2 : putF (toS f) w ((toS g, y) :: fs) = (toS g, y) :: putF (toS f) w fs := by simp [putF, q2]
      rw [e1, e2]
      exact .cons h (RSf.put r0 r)
theorem RSf.length : ∀ {l : List (Cs × SV)} {fs : List (Str × L2.V)}, RSf K μ n H l fs → l.length = fs.length
  | _, _, .nil => rfl
  | _, _, .cons _ r => by simp [RSf.length r]
end
/-- o.f for instances of the classes cs -/
def mFld (cs : List Nat) (f : Cs) (a : M) : M := bnd a fun x _ h => match drf h x with
  | .ins C fs => if cs.contains C then ofO h (lkF f fs) else .bad
  | _ => .bad
def FldOk (K : PySem.W.Frag) (G : Nat → Addr) (cs : List Nat) (f : Str) : Prop := ∀ C ∈ cs, Cls K (G C) ∧ NoAttr K (G C) f
section
variable {X : Cx} {G : Nat → Addr} {e : Expr} {m : M} {pos : Pos}
theorem e_fld {cs : List Nat} {f : Str} {fc : Cs} (he : PEs G X e m) (hf : toS fc = f) (ok : FldOk X.K G cs f) (hb : attributeBase e f X.env (eval e X.env) = eval e X.env) : PEs G X (.Attribute e f pos) (mFld cs fc m) :=
  ⟨fun W tk => wkPE (pe_fld (he.run W tk) hb) fun σ H Q x => rd_imp (rd_bnd x) fun V H1 ⟨μ, σs, h, u, S, st, r, p⟩ => by
    cases e1 : drf h u with
    | ins C fs =>
      simp only [e1] at p
      split at p
      · rename_i hc
        obtain ⟨a, dx, fs', rfl, h1, h2⟩ := drf_ins S e1 r
        obtain ⟨z, e2, q⟩ := ofO_post p
        obtain ⟨cl, na⟩ := ok C (by simpa using hc)
        rcases h2.lk (f := fc) with ⟨e3, _⟩ | ⟨v, w, e3, e4, r4⟩
        · rw [e3] at e2; cases e2
        · rw [e3] at e2
          cases e2
          exact ⟨a, G C, dx, fs', w, rfl, h1, cl, na, by rw [← hf]; exact e4, q μ H1 _ Fr.refl S r4⟩
      · exact p.elim
    | _ => simp only [e1] at p; exact p.elim⟩
end

/-! ### own defs -/
/-- a def's promise by a symbolic function -/
def spOf (K : KG) (np : Nat) (f : List SV → SHp → R) : Sp := fun vs H Q E => vs.length = np ∧ ∃ μ h xs, Sim K μ h H ∧ RSs K μ h.length H xs vs ∧ Post K μ h.length H (f xs h) Q E
abbrev FnS (P : Program) (w : World) (K : PySem.W.Frag) (mg : Str → Option Value) (base : Heap) (G : Nat → Addr) (k : Nat) (f : Addr) (fd : FuncData) (ps : List Str) (sem : List SV → SHp → R) : Prop :=
  FnOk P w K mg base (L2.CX P w) k f fd ps (spOf ⟨K, G⟩ ps.length sem)
theorem passAt' {X : Cx} {W : WX} (tk : Takes X W) (σ : L2.St) : PassesAt (L2.CX X.prog X.w) X σ (WE W σ) := passAt tk σ
section
variable {X : Cx} {G : Nat → Addr} {k : Nat} {f C : Addr} {fd : FuncData} {ps ks : List Str} {sem : List SV → SHp → R} {W : WX} {pins : List (Addr × Obj)} {σ : L2.St} {H : Hp} {s : Shared} {Q : VK}
/-- the callee runs, however its parameters are bound -/
theorem run_s {args : Args} {gs : List Value} {Vs : List L2.V} (F : FnS X.prog X.w X.K X.mg X.base G k f fd ps sem) (hr : Room k X.A) (tk : Takes X W) (I : Inv X pins σ H s) (hb : BindsTo s fd args (ps.zip gs)) (r : Vals Vs gs) (hl : Vs.length = ps.length)
    (h : rdL ⟨X.K, G⟩ (fun vs _ h => sem vs h) Vs W σ H Q) : codeAny (model X.prog X.w) X.A (.call (.ref f) args) (fun r s' => match r with | .ok (.ret u) => EP X pins σ Q u s' | .ok _ => False | .error e => X.xe e s') s := by
  obtain ⟨μ, σs, hh, xs, S, st, rs, p⟩ := h
  refine codeAny_mono (F.run X.A X.stack s H args gs Vs Q (WE W σ) hr I.env0 hb r ⟨hl, μ, hh, xs, S, rs, p⟩) fun r s' hq => ?_
  cases r with
  | error e => exact passAt' tk σ pins H s e s' I hq
  | ok fl =>
    cases fl with
    | ret u => exact I.after hq
    | next => exact False.elim hq
    | brk => exact False.elim hq
    | cont => exact False.elim hq
theorem run_call {us : List Value} {kw : List (Str × Value)} {gs : List Value} {Vs : List L2.V} (F : FnS X.prog X.w X.K X.mg X.base G k f fd ps sem) (hr : Room k X.A) (tk : Takes X W) (I : Inv X pins σ H s) (hb : BindsTo s fd ⟨us, kw⟩ (ps.zip gs)) (r : Vals Vs gs)
    (hl : Vs.length = ps.length) (h : rdL ⟨X.K, G⟩ (fun vs _ h => sem vs h) Vs W σ H Q) : wpAny (model X.prog X.w) X.A (call (.ref f) us kw) (EP X pins σ Q) X.xe s := by
  refine wpAny_call (codeAny_mono (run_s F hr tk I hb r hl h) fun r s' hq => ?_)
  cases r with
  | error e => exact hq
  | ok fl =>
    cases fl with
    | ret u => exact hq
    | next => exact False.elim hq
    | brk => exact False.elim hq
    | cont => exact False.elim hq
theorem RPs.vals {T : Addr → Prop} : True := trivial
theorem rdL_add {Vs ds : List L2.V} {dS : List SV} {K : KG} (hd : ∀ T H, RPs K T H dS ds) {g : List SV → M} (h : rdL K (fun vs => g (vs ++ dS)) Vs W σ H Q) : rdL K g (Vs ++ ds) W σ H Q := by
  obtain ⟨μ, σs, hh, xs, S, st, rs, p⟩ := h
  exact ⟨μ, σs, hh, xs ++ dS, S, st, RSs.append rs (hd _ _).rs, p⟩
theorem tAs_len {K : KG} {W : WX} : ∀ {ms : List M} {σ : L2.St} {H : Hp} {Q : List L2.V → Hp → Prop}, tAs K W ms σ H Q → tAs K W ms σ H fun Vs H' => Vs.length = ms.length ∧ Q Vs H'
  | [], _, _, _, x => ⟨rfl, x⟩
  | m :: ms, _, _, _, x => rd_imp x fun V H1 y => tAs_imp (tAs_len y) fun Vs H2 ⟨e, z⟩ => ⟨by simp [e], z⟩
end
/-- f(e, ..): positional arguments, then the defaults dS -/
def mCall (sem : List SV → SHp → R) (dS : List SV) (ms : List M) : M := argsM ms fun vs _ h => sem (vs ++ dS) h
section
variable {X : Cx} {G : Nat → Addr} {k : Nat} {f C : Addr} {fd : FuncData} {ps ks : List Str} {sem : List SV → SHp → R} {x m : Str} {p pos apos : Pos} {e o : Expr} {es : List Expr} {ms : List M} {ma : M} {dS : List SV} {dV : List L2.V} {ds : List Value}
theorem e_call (F : FnS X.prog X.w X.K X.mg X.base G k f fd ps sem) (hr : Room k X.A) (hg : Gl X x) (hm : X.mg x = some (.ref f)) (hk : PySem.W.keepIn X.K (.ref f) = true) (hb : Binds X.K fd ps ds) (hd : Vals dV ds) (hS : ∀ T H, RPs ⟨X.K, G⟩ T H dS dV)
    (hl : ms.length + dV.length = ps.length) (ha : PAs G X (e :: es) ms) (hdb : (x == ("__debug__" : Str)) = false := by decide) (he : starEach (e :: es) X.env = (false, eval e X.env) :: starEach es X.env := by rfl) (hpl : (backTo pos (starEach es X.env)).any (·.1) = false := by rfl) :
    PEs G X (.Call (.Name x p) (e :: es) [] pos) (mCall sem dS ms) := by
  refine ⟨fun W tk => ⟨fun pins s σ H Q I h => ?_⟩⟩
  refine wpAny_Call_Name_kw (ld_glob I hg hm ?_ hdb)
  refine PySem.W.callWith_K (h₀ := X.base) I.ok.mod.kin hk (thn ((ha.run W tk).run pos pins s σ H _ I (tAs_len (rd_args h))) fun us s1 ⟨vs, H1, I1, r, el, q⟩ => ⟨I1.kIn, ?_⟩) he hpl
  have l2 : (vs ++ dV).length = ps.length := by rw [List.length_append]; omega
  exact run_call F hr tk I1 (hb s1 us I1.kIn (by rw [← (r.append hd).length]; exact l2)) (r.append hd) l2 (rdL_add hS q)
theorem e_call0 (F : FnS X.prog X.w X.K X.mg X.base G k f fd ps sem) (hr : Room k X.A) (hg : Gl X x) (hm : X.mg x = some (.ref f)) (hk : PySem.W.keepIn X.K (.ref f) = true) (hb : Binds X.K fd ps ds) (hd : Vals dV ds) (hS : ∀ T H, RPs ⟨X.K, G⟩ T H dS dV)
    (hl : dV.length = ps.length) (hdb : (x == ("__debug__" : Str)) = false := by decide) : PEs G X (.Call (.Name x p) [] [] pos) (mCall sem dS []) := by
  refine ⟨fun W tk => ⟨fun pins s σ H Q I h => ?_⟩⟩
  refine wpAny_Call_Name_kw (ld_glob I hg hm ?_ hdb)
  have q := rd_args h
  exact PySem.W.callWith_K0 I.kIn hk (run_call (us := []) F hr tk I (hb s [] I.kIn (by rw [List.nil_append, ← hd.length]; exact hl)) (Vals.append .nil hd) (by simpa using hl) (rdL_add hS q))
end
end EV

/-! EV7: freezing and cutting the symbolic heap; statements; a def by its body. -/
namespace EV
open PySem PySem.Spec PyProof.Rows L2

/-! ### freezing -/
def okV1 (n : Nat) : SV → Bool
  | .ref i => Nat.blt i n
  | .tupR _ => false
  | _ => true
def okV (n : Nat) : SV → Bool
  | .ref i => Nat.blt i n
  | .tupR l => l.all (okV1 n)
  | _ => true
def okO (n : Nat) : SO → Bool
  | .lst l => l.all (okV n)
  | .dct l => l.all fun kv => okV n kv.2
  | .ins _ fs => fs.all fun kv => okV n kv.2
  | .lk (.lst l) => l.all (okV n)
  | .lk (.dct l) => l.all fun kv => okV n kv.2
  | .lk _ => false
/-- a value behind the cut of the heap at n -/
def frz (n : Nat) (h : SHp) (v : SV) : Option SV := match v with
  | .ref i => if Nat.blt i n then some (.ref i) else match h[i]? with
    | some (.lst l) => if l.all isP then some (.lst l) else none
    | some (.dct l) => if l.all fun kv => isP kv.2 then some (.dct l) else none
    | some (.ins C fs) => if fs.all fun kv => isP kv.2 then some (.ins C fs) else none
    | _ => none
  | v => if okV n v then some v else none
/-- the heap cut at n -/
def cutH (n : Nat) (h : SHp) : Option SHp := if (h.take n).all (okO n) && Nat.ble n h.length then some (h.take n) else none
section
variable {K : KG} {μ μ' : Nat → Addr} {n n' m : Nat} {H H' : Hp}
theorem blt_lt {a b : Nat} (h : Nat.blt a b = true) : a < b := Nat.le_of_ble_eq_true h
theorem Tr.mono (h : m ≤ n) {a : Addr} (t : Tr μ m a) : Tr μ n a := let ⟨i, hi, e⟩ := t; ⟨i, Nat.lt_of_lt_of_le hi h, e⟩
theorem RP.cut (h : m ≤ n) {v : SV} {w : L2.V} (r : RP K (Tr μ n) H v w) : RP K (Tr μ m) H v w :=
  RP.mono (fun _ _ q _ => q) (fun _ _ q => q) (fun _ _ q _ _ => q) (fun _ _ t z => t (z.mono h)) r
theorem RPs.cut' (h : m ≤ n) {v : List SV} {w : List L2.V} (r : RPs K (Tr μ n) H v w) : RPs K (Tr μ m) H v w :=
  RPs.mono (fun _ _ q _ => q) (fun _ _ q => q) (fun _ _ q _ _ => q) (fun _ _ t z => t (z.mono h)) r
theorem RPk.cut (h : m ≤ n) {v : List (SV × SV)} {w : List (Key × L2.V)} (r : RPk K (Tr μ n) H v w) : RPk K (Tr μ m) H v w :=
  RPk.mono (fun _ _ q _ => q) (fun _ _ q => q) (fun _ _ q _ _ => q) (fun _ _ t z => t (z.mono h)) r
theorem RPf.cut (h : m ≤ n) {v : List (Cs × SV)} {w : List (Str × L2.V)} (r : RPf K (Tr μ n) H v w) : RPf K (Tr μ m) H v w :=
  RPf.mono (fun _ _ q _ => q) (fun _ _ q => q) (fun _ _ q _ _ => q) (fun _ _ t z => t (z.mono h)) r
theorem RS1.cut (h : m ≤ n) {v : SV} {w : L2.V} (r : RS1 K μ n H v w) (ok : okV1 m v = true) : RS1 K μ m H v w := by
  cases r with
  | un w => exact .un w
  | pure r => exact .pure (r.cut h)
  | ref i hi => exact .ref i (blt_lt ok)
theorem RSs1.cut (h : m ≤ n) : ∀ {v : List SV} {w : List L2.V}, RSs1 K μ n H v w → v.all (okV1 m) = true → RSs1 K μ m H v w
  | _, _, .nil, _ => .nil
  | _, _, .cons r t, ok => by
    simp only [List.all_cons, Bool.and_eq_true] at ok
    exact .cons (r.cut h ok.1) (RSs1.cut h t ok.2)
theorem RS.cut (h : m ≤ n) {v : SV} {w : L2.V} (r : RS K μ n H v w) (ok : okV m v = true) : RS K μ m H v w := by
  cases r with
  | one r =>
    refine .one (r.cut h ?_)
    cases v with
    | ref i => exact ok
    | tupR l =>
      cases r with
      | pure r => cases r
    | _ => rfl
  | tupR h1 r => exact .tupR h1 (r.cut h ok)
theorem RSs.cut (h : m ≤ n) : ∀ {v : List SV} {w : List L2.V}, RSs K μ n H v w → v.all (okV m) = true → RSs K μ m H v w
  | _, _, .nil, _ => .nil
  | _, _, .cons r t, ok => by
    simp only [List.all_cons, Bool.and_eq_true] at ok
    exact .cons (r.cut h ok.1) (RSs.cut h t ok.2)
theorem RSk.cut (h : m ≤ n) : ∀ {v : List (SV × SV)} {w : List (Key × L2.V)}, RSk K μ n H v w → (v.all fun kv => okV m kv.2) = true → RSk K μ m H v w
  | _, _, .nil, _ => .nil
  | _, _, .cons hk r t, ok => by
    simp only [List.all_cons, Bool.and_eq_true] at ok
    exact .cons hk (r.cut h ok.1) (RSk.cut h t ok.2)
theorem RSf.cut (h : m ≤ n) : ∀ {v : List (Cs × SV)} {w : List (Str × L2.V)}, RSf K μ n H v w → (v.all fun kv => okV m kv.2) = true → RSf K μ m H v w
  | _, _, .nil, _ => .nil
  | _, _, .cons r t, ok => by
    simp only [List.all_cons, Bool.and_eq_true] at ok
    exact .cons (r.cut h ok.1) (RSf.cut h t ok.2)
theorem RO.cut (h : m ≤ n) {s : SO} {o : Option HO} (r : RO K μ n H s o) (ok : okO m s = true) : RO K μ m H s o := by
  cases s with
  | lst l => obtain ⟨vs, e, r⟩ := r; exact ⟨vs, e, r.cut h ok⟩
  | dct l => obtain ⟨vs, e, r⟩ := r; exact ⟨vs, e, r.cut h ok⟩
  | ins C l => obtain ⟨dx, vs, e, r⟩ := r; exact ⟨dx, vs, e, r.cut h ok⟩
  | lk s =>
    cases s with
    | lst l => obtain ⟨vs, e, r⟩ := r; exact ⟨vs, e, r.cut h ok⟩
    | dct l => obtain ⟨vs, ob, e, r⟩ := r; exact ⟨vs, ob, e, r.cut h ok⟩
    | ins C l => cases ok
    | lk s => cases ok
theorem RSk.pure_ : ∀ {v : List (SV × SV)} {w : List (Key × L2.V)}, RSk K μ n H v w → (v.all fun kv => isP kv.2) = true → RPk K (Tr μ n) H v w
  | _, _, .nil, _ => .nil
  | _, _, .cons hk r t, ok => by
    simp only [List.all_cons, Bool.and_eq_true] at ok
    exact .cons hk (r.pure_ ok.1) (RSk.pure_ t ok.2)
theorem RSf.pure_ : ∀ {v : List (Cs × SV)} {w : List (Str × L2.V)}, RSf K μ n H v w → (v.all fun kv => isP kv.2) = true → RPf K (Tr μ n) H v w
  | _, _, .nil, _ => .nil
  | _, _, .cons r t, ok => by
    simp only [List.all_cons, Bool.and_eq_true] at ok
    exact .cons (r.pure_ ok.1) (RSf.pure_ t ok.2)
variable {h h' : SHp}
theorem Sim.cut (S : Sim K μ h H) (e : cutH m h = some h') : Sim K μ h' H ∧ h'.length = m ∧ m ≤ h.length := by
  unfold cutH at e
  split at e
  · rename_i ok
    cases e
    simp only [Bool.and_eq_true] at ok
    have hm : m ≤ h.length := Nat.le_of_ble_eq_true ok.2
    have hl : (h.take m).length = m := by rw [List.length_take]; omega
    refine ⟨⟨fun i j hi hj => S.inj i j (by omega) (by omega), fun i o ei => ?_⟩, hl, hm⟩
    rw [hl]
    have hi : i < m := by
      have := (List.getElem?_eq_some_iff.mp ei).1
      omega
    have e2 : h[i]? = some o := by rw [List.getElem?_take_of_lt hi] at ei; exact ei
    exact (S.obj i o e2).cut hm (List.all_eq_true.mp ok.1 o (List.mem_of_getElem? ei))
  · cases e
theorem Fr.cut (f : EV.Fr μ n H μ' n' H') (h : n ≤ m) (h2 : m ≤ n') : EV.Fr μ n H μ' m H' :=
  ⟨h, f.mu, f.rd, f.tup, f.ins, f.frz, fun a q t z => f.nt a q t (z.mono h2)⟩
/-- an object behind the cut is not tracked any more -/
theorem Sim.gone (S : Sim K μ h H) {i : Nat} (hm : m ≤ i) (hi : i < h.length) : ¬ Tr μ m (μ i) := fun ⟨j, hj, e⟩ => by
  have := S.inj j i (by omega) hi e
  omega
theorem RS.frz (S : Sim K μ h H) (hm : m ≤ h.length) {v z : SV} {w : L2.V} (r : RS K μ h.length H v w) (e : EV.frz m h v = some z) : RS K μ m H z w := by
  unfold EV.frz at e
  split at e
  · rename_i i
    split at e
    · rename_i hi
      cases e
      obtain ⟨_, rfl⟩ := r.ref_
      exact .one (.ref i (blt_lt hi))
    · rename_i hi
      obtain ⟨hl, rfl⟩ := r.ref_
      have hmi : m ≤ i := by
        apply Nat.le_of_not_lt
        intro q
        exact hi (Nat.ble_eq_true_of_le q)
      split at e
      · rename_i l q
        split at e
        · rename_i hp
          cases e
          obtain ⟨vs, e1, r1⟩ := S.obj i _ q
          exact .of (.lst (.inl e1) (S.gone hmi hl) ((r1.pure_ hp).cut' hm))
        · cases e
      · rename_i l q
        split at e
        · rename_i hp
          cases e
          obtain ⟨vs, e1, r1⟩ := S.obj i _ q
          exact .of (.dct (.inl e1) (S.gone hmi hl) ((r1.pure_ hp).cut hm))
        · cases e
      · rename_i C l q
        split at e
        · rename_i hp
          cases e
          obtain ⟨dx, vs, e1, r1⟩ := S.obj i _ q
          exact .of (.ins e1 (S.gone hmi hl) ((r1.pure_ hp).cut hm))
        · cases e
      · cases e
  · split at e
    · rename_i ok
      cases e
      exact r.cut hm ok
    · cases e
end
/-- a call's end: what came new is frozen, or forgotten -/
def trunc (n : Nat) : R → R
  | .val v h => if Nat.beq h.length n then .val v h else match frz n h v, cutH n h with
    | some v', some h' => .val v' h'
    | _, _ => .bad
  | .exc C f h => if Nat.beq h.length n then .exc C f h else match cutH n h with
    | some h' => .exc C f h'
    | _ => .bad
  | .bad => .bad
theorem post_trunc {K : KG} {μ : Nat → Addr} {n : Nat} {H : Hp} {r : R} {Q : VK} {E : XK} (p : Post K μ n H (trunc n r) Q E) : Post K μ n H r Q E := by
  cases r with
  | val v h =>
    unfold trunc at p
    simp only at p
    split at p
    · exact p
    · split at p
      · rename_i v' h' e1 e2
        intro μ' H' V f S r
        obtain ⟨S', hl, hm⟩ := S.cut e2
        exact p μ' H' V (by rw [hl]; exact f.cut (Nat.le_refl _) hm) S' (by rw [hl]; exact r.frz S hm e1)
      · exact p.elim
  | exc C fs h =>
    unfold trunc at p
    simp only at p
    split at p
    · exact p
    · split at p
      · rename_i h' e2
        intro μ' H' d fs' f S e r
        obtain ⟨S', hl, hm⟩ := S.cut e2
        exact p μ' H' d fs' (by rw [hl]; exact f.cut (Nat.le_refl _) hm) S' e (by rw [hl]; exact r.cut hm)
      · exact p.elim
  | bad => exact p

/-! ### statements -/
inductive RT where
  | nx (σ : SSt) (h : SHp) | rt (v : SV) (h : SHp) | bk (σ : SSt) (h : SHp) | ct (σ : SSt) (h : SHp) | exc (C : Nat) (fs : List (Cs × SV)) (σ : SSt) (h : SHp) | bad
  deriving Inhabited
abbrev MS := SSt → SHp → RT
def PostS (K : KG) (μ : Nat → Addr) (n : Nat) (H : Hp) (r : RT) (D : Ends) (W : WX) : Prop :=
  match r with
  | .nx s h' => ∀ μ' H' σ', EV.Fr μ n H μ' h'.length H' → Sim K μ' h' H' → RSt K μ' h'.length H' s σ' → D.nx σ' H'
  | .bk s h' => ∀ μ' H' σ', EV.Fr μ n H μ' h'.length H' → Sim K μ' h' H' → RSt K μ' h'.length H' s σ' → D.bk σ' H'
  | .ct s h' => ∀ μ' H' σ', EV.Fr μ n H μ' h'.length H' → Sim K μ' h' H' → RSt K μ' h'.length H' s σ' → D.ct σ' H'
  | .rt v h' => ∀ μ' H' V, EV.Fr μ n H μ' h'.length H' → Sim K μ' h' H' → RS K μ' h'.length H' v V → D.rt V H'
  | .exc C fs s h' => ∀ μ' H' d fs' σ', EV.Fr μ n H μ' h'.length H' → Sim K μ' h' H' → RSt K μ' h'.length H' s σ' → H' d = some (.xd fs') → RPf K (Tr μ' h'.length) H' fs fs' → W (.ref (K.G C)) (some d) σ' H'
  | .bad => False
section
variable {K : KG} {μ μ' : Nat → Addr} {n n' : Nat} {H H' : Hp} {D : Ends} {W : WX} {r : RT}
theorem PostS.fr (f : EV.Fr μ n H μ' n' H') (p : PostS K μ n H r D W) : PostS K μ' n' H' r D W := by
  cases r with
  | nx s h => exact fun μ2 H2 σ' f2 => p μ2 H2 σ' (f.trans f2)
  | bk s h => exact fun μ2 H2 σ' f2 => p μ2 H2 σ' (f.trans f2)
  | ct s h => exact fun μ2 H2 σ' f2 => p μ2 H2 σ' (f.trans f2)
  | rt v h => exact fun μ2 H2 V f2 => p μ2 H2 V (f.trans f2)
  | exc C fs s h => exact fun μ2 H2 d fs' σ' f2 => p μ2 H2 d fs' σ' (f.trans f2)
  | bad => exact p
end
def rdS (K : KG) (m : MS) (W : WX) : TS := fun D σ H => ∃ μ σs h, Sim K μ h H ∧ RSt K μ h.length H σs σ ∧ PostS K μ h.length H (m σs h) D W
def rdS1 (K : KG) (k : SV → MS) (V1 : L2.V) (W : WX) : TS := fun D σ H => ∃ μ σs h x, Sim K μ h H ∧ RSt K μ h.length H σs σ ∧ RS K μ h.length H x V1 ∧ PostS K μ h.length H (k x σs h) D W
def rdS2 (K : KG) (k : SV → SV → MS) (V1 V2 : L2.V) (W : WX) : TS := fun D σ H => ∃ μ σs h x y, Sim K μ h H ∧ RSt K μ h.length H σs σ ∧ RS K μ h.length H x V1 ∧ RS K μ h.length H y V2 ∧ PostS K μ h.length H (k x y σs h) D W
def rdS3 (K : KG) (k : SV → SV → SV → MS) (V1 V2 V3 : L2.V) (W : WX) : TS := fun D σ H => ∃ μ σs h x y z, Sim K μ h H ∧ RSt K μ h.length H σs σ ∧ RS K μ h.length H x V1 ∧ RS K μ h.length H y V2 ∧ RS K μ h.length H z V3 ∧ PostS K μ h.length H (k x y z σs h) D W
def bndS (a : M) (k : SV → MS) : MS := fun σ h => match a σ h with
  | .val v h' => k v σ h'
  | .exc C f h' => .exc C f σ h'
  | .bad => .bad
section
variable {K : KG} {W : WX} {D : Ends} {σ : L2.St} {H : Hp} {a : M}
theorem postS_bnd {μ : Nat → Addr} {h : SHp} {σs : SSt} {k : SV → MS} {Q' : VK} (st : RSt K μ h.length H σs σ) (p : PostS K μ h.length H (bndS a k σs h) D W)
    (go : ∀ μ' H' h' v V, EV.Fr μ h.length H μ' h'.length H' → Sim K μ' h' H' → RS K μ' h'.length H' v V → PostS K μ' h'.length H' (k v σs h') D W → Q' V H') : Post K μ h.length H (a σs h) Q' (WE W σ) := by
  unfold bndS at p
  cases e : a σs h with
  | val v h' =>
    rw [e] at p
    exact fun μ' H' V f S r => go μ' H' h' v V f S r (PostS.fr f p)
  | exc C fs h' =>
    rw [e] at p
    exact fun μ' H' d fs' f S e r => p μ' H' d fs' σ f S (st.fr f) e r
  | bad => rw [e] at p; exact p
theorem rdS_bnd {k : SV → MS} (x : rdS K (bndS a k) W D σ H) : rd K a W σ H fun V H1 => rdS1 K k V W D σ H1 := by
  obtain ⟨μ, σs, h, S, st, p⟩ := x
  exact ⟨μ, σs, h, S, st, postS_bnd st p fun μ' H' h' v V f S' r p' => ⟨μ', σs, h', v, S', st.fr f, r, p'⟩⟩
theorem rdS1_bnd {k : SV → SV → MS} {V1 : L2.V} (x : rdS1 K (fun u => bndS a (k u)) V1 W D σ H) : rd K a W σ H fun V H1 => rdS2 K k V1 V W D σ H1 := by
  obtain ⟨μ, σs, h, u, S, st, r1, p⟩ := x
  exact ⟨μ, σs, h, S, st, postS_bnd st p fun μ' H' h' v V f S' r p' => ⟨μ', σs, h', u, v, S', st.fr f, r1.fr f, r, p'⟩⟩
theorem rdS2_bnd {k : SV → SV → SV → MS} {V1 V2 : L2.V} (x : rdS2 K (fun u v => bndS a (k u v)) V1 V2 W D σ H) : rd K a W σ H fun V H1 => rdS3 K k V1 V2 V W D σ H1 := by
  obtain ⟨μ, σs, h, u, u2, S, st, r1, r2, p⟩ := x
  exact ⟨μ, σs, h, S, st, postS_bnd st p fun μ' H' h' v V f S' r p' => ⟨μ', σs, h', u, u2, v, S', st.fr f, r1.fr f, r2.fr f, r, p'⟩⟩
end
structure PS1 (G : Nat → Addr) (X : Cx) (st : Stmt) (m : MS) : Prop where
  run : ∀ W, Takes X W → PS X st (rdS ⟨X.K, G⟩ m W)
structure PSL (G : Nat → Addr) (X : Cx) (sts : List Stmt) (m : MS) : Prop where
  run : ∀ W, Takes X W → PSs X sts (rdS ⟨X.K, G⟩ m W)
def sNil : MS := fun σ h => .nx σ h
def sSeq (a b : MS) : MS := fun σ h => match a σ h with
  | .nx σ' h' => b σ' h'
  | r => r
def sSet (i : Nat) (a : M) : MS := bndS a fun x σ h => .nx (setn x i σ) h
def sEx (a : M) : MS := bndS a fun _ σ h => .nx σ h
def sRet (a : M) : MS := bndS a fun x _ h => .rt x h
def sRetN : MS := fun _ h => .rt .non h
def sIf (c : M) (a b : MS) : MS := fun σ h => match c σ h with
  | .val (.bl true) h' => a σ h'
  | .val (.bl false) h' => b σ h'
  | .val _ _ => .bad
  | .exc C f h' => .exc C f σ h'
  | .bad => .bad
def sBad : MS := fun _ _ => .bad
def sBrk : MS := fun σ h => .bk σ h
def sCnt : MS := fun σ h => .ct σ h
section
variable {K : KG} {W : WX} {D : Ends} {σ : L2.St} {H : Hp}
theorem rdS_seq {a b : MS} (x : rdS K (sSeq a b) W D σ H) : tSeq (rdS K a W) (rdS K b W) D σ H := by
  obtain ⟨μ, σs, h, S, st, p⟩ := x
  refine ⟨μ, σs, h, S, st, ?_⟩
  unfold sSeq at p
  cases e : a σs h with
  | nx s h' => rw [e] at p; exact fun μ' H' σ' f S' st' => ⟨μ', s, h', S', st', PostS.fr f p⟩
  | _ => rw [e] at p; exact p
theorem rdS_if {c : M} {a b : MS} (x : rdS K (sIf c a b) W D σ H) : tIfS (rdT K c W) (rdS K a W) (rdS K b W) D σ H := by
  obtain ⟨μ, σs, h, S, st, p⟩ := x
  refine ⟨μ, σs, h, S, st, ?_⟩
  unfold sIf at p
  cases e : c σs h with
  | val v h' =>
    rw [e] at p
    intro μ' H' V f S' r
    cases v with
    | bl k =>
      cases r.bl_
      refine ⟨k, rfl, ?_⟩
      cases k with
      | true => exact ⟨μ', σs, h', S', st.fr f, PostS.fr f p⟩
      | false => exact ⟨μ', σs, h', S', st.fr f, PostS.fr f p⟩
    | _ => exact p.elim
  | exc C fs h' => rw [e] at p; exact fun μ' H' d fs' f S e r => p μ' H' d fs' σ f S (st.fr f) e r
  | bad => rw [e] at p; exact p
end
section
variable {X : Cx} {G : Nat → Addr} {st : Stmt} {rest sa sb : List Stmt} {a b : MS} {e c : Expr} {m mc : M} {pos : Pos}
theorem l_nil : PSL G X [] sNil := ⟨fun W tk => wkPSs pss_nil fun D σ H ⟨μ, σs, h, S, s, p⟩ => p μ H σ Fr.refl S s⟩
theorem l_cons (h1 : PS1 G X st a) (h2 : PSL G X rest b) : PSL G X (st :: rest) (sSeq a b) := ⟨fun W tk => wkPSs (pss_cons (h1.run W tk) (h2.run W tk)) fun D σ H x => rdS_seq x⟩
theorem l_one (h1 : PS1 G X st a) : PSL G X [st] a := ⟨fun W tk => pss_one (h1.run W tk)⟩
theorem l_bad {sts : List Stmt} : PSL G X sts sBad := ⟨fun W tk => wkPSs (t := tNever) pss_never fun D σ H ⟨μ, σs, h, S, s, p⟩ => p⟩
theorem s_bad : PS1 G X st sBad := ⟨fun W tk => wkPS (t := tNever) ps_never fun D σ H ⟨μ, σs, h, S, s, p⟩ => p⟩
theorem s_pass : PS1 G X (.Pass pos) sNil := ⟨fun W tk => wkPS ps_pass fun D σ H ⟨μ, σs, h, S, s, p⟩ => p μ H σ Fr.refl S s⟩
theorem s_doc {x : Str} {j : Nat} {pos' : Pos} : PS1 G X (.Expr (.Constant (.str x) j pos) pos') sNil := ⟨fun W tk => wkPS ps_doc fun D σ H ⟨μ, σs, h, S, s, p⟩ => p μ H σ Fr.refl S s⟩
theorem s_brk : PS1 G X (.Break pos) sBrk := ⟨fun W tk => wkPS ps_break fun D σ H ⟨μ, σs, h, S, s, p⟩ => p μ H σ Fr.refl S s⟩
theorem s_cnt : PS1 G X (.Continue pos) sCnt := ⟨fun W tk => wkPS ps_continue fun D σ H ⟨μ, σs, h, S, s, p⟩ => p μ H σ Fr.refl S s⟩
theorem s_set {i : Nat} {x : Str} {pos' : Pos} (hN : X.N.Nodup) (hi : X.N[i]? = some x) (hx : Loc X.env.scope x) (he : PEs G X e m) (hs : swapsWith e (some (.Name x pos')) pos.line X.env = pure false) (hf : X.fn x = true ∨ X.env.scope.names.lookup x = some .local) :
    PS1 G X (.Assign [.Name x pos'] e pos) (sSet i m) :=
  ⟨fun W tk => wkPS (ps_set hN hi hx (he.run W tk) hs hf) fun D σ H x => rd_imp (rdS_bnd x) fun V H1 ⟨μ, σs, h, u, S, st, r, p⟩ => p μ H1 _ Fr.refl S (st.set r i)⟩
theorem s_ex (he : PEs G X e m) (hs : swapsWith e none pos.line X.env = pure false) : PS1 G X (.Expr e pos) (sEx m) :=
  ⟨fun W tk => wkPS (ps_expr (he.run W tk) hs) fun D σ H x => rd_imp (rdS_bnd x) fun V H1 ⟨μ, σs, h, u, S, st, r, p⟩ => p μ H1 _ Fr.refl S st⟩
theorem s_ret (he : PEs G X e m) : PS1 G X (.Return (some e) pos) (sRet m) :=
  ⟨fun W tk => wkPS (ps_ret (he.run W tk)) fun D σ H x => rd_imp (rdS_bnd x) fun V H1 ⟨μ, σs, h, u, S, st, r, p⟩ => p μ H1 _ Fr.refl S r⟩
theorem s_retN : PS1 G X (.Return none pos) sRetN := ⟨fun W tk => wkPS ps_retN fun D σ H ⟨μ, σs, h, S, s, p⟩ => p μ H _ Fr.refl S (.of .non)⟩
theorem s_if (hc : PTs G X c mc) (ha : PSL G X sa a) (hb : PSL G X sb b) : PS1 G X (.If c sa sb pos) (sIf mc a b) :=
  ⟨fun W tk => wkPS (ps_if (hc.run W tk) (ha.run W tk) (hb.run W tk)) fun D σ H x => rdS_if x⟩
end

/-! ### a def by its body -/
def retOf : RT → R
  | .nx _ h => .val .non h
  | .rt v h => .val v h
  | .exc C f _ h => .exc C f h
  | _ => .bad
def padU (n : Nat) (vs : List SV) : List SV := vs ++ List.replicate (n - vs.length) .un
/-- n slots; new objects are frozen or forgotten at the end -/
def fnM (n : Nat) (b : MS) : List SV → SHp → R := fun vs h => trunc h.length (retOf (b (padU n vs) h))
/-- new objects stay -/
def fnK (n : Nat) (b : MS) : List SV → SHp → R := fun vs h => retOf (b (padU n vs) h)
theorem RSt.start {K : KG} {μ : Nat → Addr} {n : Nat} {H : Hp} : ∀ {xs : List SV} {vs : List L2.V} (k : Nat), RSs K μ n H xs vs → RSt K μ n H (xs ++ List.replicate k .un) (vs.map Option.some ++ List.replicate k (Option.none : Option L2.V))
  | _, _, 0, .nil => .nil
  | _, _, k + 1, .nil => by
    have := RSt.start (K := K) (μ := μ) (n := n) (H := H) k .nil
    exact .none this
  | _, _, k, .cons r t => .cons r (RSt.start k t)
theorem fn_body {P : Program} {w : World} {K : PySem.W.Frag} {mg : Str → Option Value} {base : Heap} {G : Nat → Addr} {k : Nat} {x qual : Str} {params : Arguments} {body : List Stmt} {scope : Scope} {dvs : List L2.V} {kws : List (Str × L2.V)} {f : Addr} {fd : FuncData} {N ps : List Str} {b : MS}
    {sem : List SV → SHp → R} (F : FunD K x qual params body scope dvs kws f fd) (S : FnScope N ps scope) (hsem : ∀ vs h, ∀ {KG : KG} {μ : Nat → Addr} {H : Hp} {Q : VK} {E : XK}, Post KG μ h.length H (sem vs h) Q E → Post KG μ h.length H (retOf (b (padU N.length vs) h)) Q E)
    (hb : ∀ (cdv : Value) (A : Around) (outer : List Env) (s : Shared) (H : Hp) (E : XK), Room k (A.deeper (envOfC qual scope s.heap.objs.size f cdv)) → PSL G (cxOf (L2.CX P w) P w K mg base N qual scope f cdv A outer s H E) body b) :
    FnS P w K mg base G (k + 1) f fd ps sem := by
  refine F.ok S (fun vs H Q E h => h.1) fun cdv A outer s H vs Q E hr h => ?_
  obtain ⟨hl, μ, h, xs, Sm, rs, p⟩ := h
  have tk : Takes (cxOf (L2.CX P w) P w K mg base N qual scope f cdv A outer s H E) (fun c d _ H => E c d H) := takes_of rfl rfl rfl rfl
  refine ⟨_, (hb cdv A outer s H E hr).run _ tk, μ, padU N.length xs, h, Sm, ?_, ?_⟩
  · have e : start N vs = vs.map some ++ List.replicate (N.length - vs.length) none := rfl
    rw [e, ← rs.length]
    exact RSt.start _ rs
  · have q := hsem xs h p
    cases e : b (padU N.length xs) h with
    | nx s h' => rw [e] at q; exact fun μ' H' σ' f S' st => q μ' H' .non f S' (.of .non)
    | rt v h' => rw [e] at q; exact q
    | exc C fs s h' => rw [e] at q; exact fun μ' H' d fs' σ' f S' st => q μ' H' d fs' f S'
    | _ => rw [e] at q; exact q.elim
end EV

/-! EV8: methods of built-ins, stores, methods and classes of the text, targets, loops, comprehensions. -/
namespace EV
open PySem PySem.Spec PyProof.Rows L2

/-! ### methods of lists -/
def isLst (h : SHp) (x : SV) : Bool := match drf h x with
  | .lst _ => true
  | _ => false
def fApp (h : SHp) (x : SV) (vs : List SV) : Option (SV × SHp) := match x, vs with
  | .ref i, [y] => match h[i]? with
    | some (.lst l) => if Nat.blt l.length 16777216 then some (.non, h.set i (.lst (l ++ [y]))) else none
    | _ => none
  | _, _ => none
def fPopL (h : SHp) (x : SV) (vs : List SV) : Option (SV × SHp) := match x, vs with
  | .ref i, [] => match h[i]? with
    | some (.lst l) => match l[l.length - 1]? with
      | some y => some (y, h.set i (.lst l.dropLast))
      | none => none
    | _ => none
  | _, _ => none
def rvH (K : KG) (f : SHp → SV → List SV → Option (SV × SHp)) : L2.V → List L2.V → Hp → VK → Prop := fun V1 Vs H Q => ∃ μ h x xs z h', Sim K μ h H ∧ RS K μ h.length H x V1 ∧ RSs K μ h.length H xs Vs ∧ f h x xs = some (z, h') ∧
  ∀ μ' H' V, EV.Fr μ h.length H μ' h'.length H' → Sim K μ' h' H' → RS K μ' h'.length H' z V → Q V H'
def ofH : Option (SV × SHp) → R
  | some (v, h) => .val v h
  | none => .bad
def mMt (ty : SHp → SV → Bool) (f : SHp → SV → List SV → Option (SV × SHp)) (a : M) (ms : List M) : M := bnd a fun x σ h => if ty h x then argsM ms (fun vs _ h => ofH (f h x vs)) σ h else .bad
section
variable {K : KG} {W : WX} {σ : L2.St} {H : Hp} {Q : VK} {μ : Nat → Addr} {h : SHp}
theorem rd_mt {ty : SHp → SV → Bool} {f : SHp → SV → List SV → Option (SV × SHp)} {a : M} {ms : List M} {T : L2.V → Hp → Prop} (hT : ∀ {μ : Nat → Addr} {h : SHp} {H : Hp} {x : SV} {V1 : L2.V}, Sim K μ h H → RS K μ h.length H x V1 → ty h x = true → T V1 H)
    (x : rd K (mMt ty f a ms) W σ H Q) : rd K a W σ H fun V H1 => T V H1 ∧ tAs K W ms σ H1 fun Vs H2 => rvH K f V Vs H2 Q := by
  refine rd_imp (rd_bnd x) fun V H1 ⟨μ, σs, h, u, S, st, r, p⟩ => ?_
  (try dsimp only at p)
  split at p
  · rename_i ht
    refine ⟨hT S r ht, ?_⟩
    have y : rd1 K (fun u => argsM ms fun vs _ h => ofH (f h u vs)) V W σ H1 Q := ⟨μ, σs, h, u, S, st, r, p⟩
    refine tAs_imp (rd1_args y) fun Vs H2 ⟨μ, σs, h, us, S, st, r, p⟩ => ?_
    cases us with
    | nil => cases r
    | cons u us =>
      cases r with
      | cons r rs =>
        cases e : f h u us with
        | none => simp only [e, ofH] at p; exact p.elim
        | some z => obtain ⟨z, h'⟩ := z; simp only [e, ofH] at p; exact ⟨μ, h, u, us, z, h', S, r, rs, e, p⟩
  · exact p.elim
theorem isLst_ty (S : Sim K μ h H) {x : SV} {V1 : L2.V} (r : RS K μ h.length H x V1) (e : isLst h x = true) : tyV K.K "list" V1 H := by
  unfold isLst at e
  split at e
  · rename_i l q
    obtain ⟨a, vs, rfl, h1, h2⟩ := drf_lst S q r
    exact .inl ⟨rfl, vs, h1⟩
  · cases e
end
section
variable {X : Cx} {G : Nat → Addr}
theorem m_app : MtR X "list.append" (rvH ⟨X.K, G⟩ fApp) := by
  intro pins s σ H V1 Vs v us Q I rx rxs ⟨μ, h, x, xs, z, h', S, r, rs, e, q⟩
  unfold fApp at e
  split at e
  · rename_i i y
    split at e
    · rename_i l hl
      split at e
      · rename_i hz
        cases e
        obtain ⟨hi, rfl⟩ := r.ref_
        cases rs with
        | cons ry rt =>
          cases rt
          rename_i w
          obtain ⟨vs, e1, r1⟩ := S.obj i _ hl
          have el := r1.length
          have hz' : vs.length < sizeLine := by rw [sizeLine_eq, ← el]; exact blt_lt hz
          refine mt_append pins s σ H _ _ v us Q I rx rxs ⟨μ i, vs, w, rfl, rfl, e1, hz', ?_⟩
          have f : EV.Fr μ h.length H μ h.length (upd H (μ i) (.lst (vs ++ [w]))) := S.frW hi (by rw [e1]; simp)
          refine q μ _ _ (by rw [List.length_set]; exact f) (S.write hi (by rw [e1]; simp) ⟨_, rfl, ?_⟩) (.of .non)
          exact RSs.append (r1.fr f) (.cons (ry.fr f) .nil)
      · cases e
    · cases e
  · cases e
theorem m_popL : MtR X "list.pop" (rvH ⟨X.K, G⟩ fPopL) := by
  intro pins s σ H V1 Vs v us Q I rx rxs ⟨μ, h, x, xs, z, h', S, r, rs, e, q⟩
  unfold fPopL at e
  split at e
  · rename_i i
    split at e
    · rename_i l hl
      split at e
      · rename_i y hy
        cases e
        obtain ⟨hi, rfl⟩ := r.ref_
        cases rs
        obtain ⟨vs, e1, r1⟩ := S.obj i _ hl
        have el := r1.length
        obtain ⟨w, hw, rw'⟩ := r1.get hy
        rw [el] at hw
        refine mt_pop pins s σ H _ _ v us Q I rx rxs ⟨μ i, vs, w, rfl, rfl, e1, hw, ?_⟩
        have f : EV.Fr μ h.length H μ h.length (upd H (μ i) (.lst vs.dropLast)) := S.frW hi (by rw [e1]; simp)
        refine q μ _ _ (by rw [List.length_set]; exact f) (S.write hi (by rw [e1]; simp) ⟨_, rfl, ?_⟩) (rw'.fr f |> fun z => by rw [List.length_set]; exact z)
        have dl : ∀ {l : List SV} {vs : List L2.V}, RSs ⟨X.K, G⟩ μ h.length H l vs → RSs ⟨X.K, G⟩ μ h.length H l.dropLast vs.dropLast := by
          intro l vs r
          induction r with
          | nil => exact .nil
          | cons a t ih =>
            cases t with
            | nil => exact .nil
            | cons b t' => exact .cons a ih
        exact (dl r1).fr f
      · cases e
    · cases e
  · cases e
variable {o e : Expr} {es : List Expr} {a : M} {ms : List M} {name : Str} {apos cpos : Pos}
theorem e_app (ho : PEs G X o a) (ha : PAs G X [e] ms) (hbase : attributeBase o "append" X.env (eval o X.env) = eval o X.env) (hline : (apos.endLine == cpos.line) = true)
    (hfew : ((backTo cpos (starEach [e] X.env)).all (fun x => !x.1) && (backToKw cpos (keywordEach [] X.env)).all (fun x => x.1.isSome) && decide (([e] : List Expr).length + ([] : List Keyword).length + (if ([] : List Keyword).isEmpty then 0 else 1) < 30)) = true := by rfl)
    (hs : starEach [e] X.env = (false, eval e X.env) :: starEach [] X.env := by rfl) : PEs G X (.Call (.Attribute o "append" apos) [e] [] cpos) (mMt isLst fApp a ms) :=
  ⟨fun W tk => wkPE (pe_bm PySem.F.plainAttrs_list PySem.F.slot_list_append PySem.F.type_list_append m_app (ho.run W tk) (ha.run W tk) hbase hfew hline hs (by rfl)) fun σ H Q x => rd_mt (fun S r e => isLst_ty S r e) x⟩
end

/-! ### dicts: get, d[k] = v -/
def isDct (h : SHp) (x : SV) : Bool := match drf h x with
  | .dct _ => true
  | _ => false
def mGet2 (a k d : M) : M := bnd a fun x σ h => if isDct h x then bnd k (fun y => bnd d fun z _ h => match drf h x with
  | .dct l => if isKey y then .val ((lkS y l).getD z) h else .bad
  | _ => .bad) σ h else .bad
def mGet1 (a k : M) : M := bnd a fun x σ h => if isDct h x then bnd k (fun y _ h => match drf h x with
  | .dct l => if isKey y then .val ((lkS y l).getD .non) h else .bad
  | _ => .bad) σ h else .bad
theorem isDct_is {K : KG} {μ : Nat → Addr} {h : SHp} {H : Hp} (S : Sim K μ h H) {x : SV} {V1 : L2.V} (r : RS K μ h.length H x V1) (e : isDct h x = true) : ∃ a, V1 = .ref a ∧ IsD H a := by
  unfold isDct at e
  split at e
  · rename_i l q
    obtain ⟨a, kvs, rfl, h1, h2⟩ := drf_dct S q r
    exact ⟨a, rfl, .inl ⟨kvs, h1⟩⟩
  · cases e
section
variable {X : Cx} {G : Nat → Addr} {o e f : Expr} {a k d : M} {apos cpos : Pos}
theorem e_get2 (hu : X.A.units + 1 < cLine) (ho : PEs G X o a) (he : PEs G X e k) (hf : PEs G X f d) (m : M2 X o "get" apos e f cpos) : PEs G X (.Call (.Attribute o "get" apos) [e, f] [] cpos) (mGet2 a k d) :=
  ⟨fun W tk => wkPE (pe_dget2 hu (ho.run W tk) (he.run W tk) (hf.run W tk) m) fun σ H Q x => rd_imp (rd_bnd x) fun V H1 ⟨μ, σs, h, u, S, st, r, p⟩ => by
    (try dsimp only at p)
    split at p
    · rename_i hd
      obtain ⟨ad, rfl, isd⟩ := isDct_is S r hd
      have y : rd1 ⟨X.K, G⟩ (fun x => bnd k fun y => bnd d fun z _ h => match drf h x with
        | .dct l => if isKey y then .val ((lkS y l).getD z) h else .bad
        | _ => .bad) (.ref ad) W σ H1 Q := ⟨μ, σs, h, u, S, st, r, p⟩
      refine ⟨ad, rfl, isd, rd_imp (rd1_bnd y) fun V2 H2 y2 => rd_imp (rd2_bnd y2) fun V3 H3 ⟨μ, σs, h, u, v, w, S, st, r, r2, r3, p⟩ => ?_⟩
      (try dsimp only at p)
      split at p
      · rename_i l q
        (try dsimp only at p)
        split at p
        · rename_i hk
          obtain ⟨a', o', e1, g, c⟩ := dget_of S q r r2 hk
          cases e1
          refine ⟨o', g, ?_⟩
          rcases c with ⟨e1, e2⟩ | ⟨v', w', e1, e2, r4⟩
          · subst e2
            rw [e1] at p
            exact p μ H3 _ Fr.refl S r3
          · subst e2
            rw [e1] at p
            exact p μ H3 _ Fr.refl S r4
        · exact p.elim
      · exact p.elim
    · exact p.elim⟩
theorem e_get1 (hu : X.A.units + 1 < cLine) (ho : PEs G X o a) (he : PEs G X e k) (m : M1 X o "get" apos e cpos) : PEs G X (.Call (.Attribute o "get" apos) [e] [] cpos) (mGet1 a k) :=
  ⟨fun W tk => wkPE (pe_dget1 hu (ho.run W tk) (he.run W tk) m) fun σ H Q x => rd_imp (rd_bnd x) fun V H1 ⟨μ, σs, h, u, S, st, r, p⟩ => by
    (try dsimp only at p)
    split at p
    · rename_i hd
      obtain ⟨ad, rfl, isd⟩ := isDct_is S r hd
      have y : rd1 ⟨X.K, G⟩ (fun x => bnd k fun y _ h => match drf h x with
        | .dct l => if isKey y then .val ((lkS y l).getD .non) h else .bad
        | _ => .bad) (.ref ad) W σ H1 Q := ⟨μ, σs, h, u, S, st, r, p⟩
      refine ⟨ad, rfl, isd, rd_imp (rd1_bnd y) fun V2 H2 ⟨μ, σs, h, u, v, S, st, r, r2, p⟩ => ?_⟩
      (try dsimp only at p)
      split at p
      · rename_i l q
        (try dsimp only at p)
        split at p
        · rename_i hk
          obtain ⟨a', o', e1, g, c⟩ := dget_of S q r r2 hk
          cases e1
          refine ⟨o', g, ?_⟩
          rcases c with ⟨e1, e2⟩ | ⟨v', w', e1, e2, r4⟩
          · subst e2
            rw [e1] at p
            exact p μ H2 _ Fr.refl S (.of .non)
          · subst e2
            rw [e1] at p
            exact p μ H2 _ Fr.refl S r4
        · exact p.elim
      · exact p.elim
    · exact p.elim⟩
end
/-! o[i] = v, o.f = v -/
def putKS (k v : SV) (l : List (SV × SV)) : List (SV × SV) := if (l.any fun kv => eqKS kv.1 k) then l.map (fun kv => if eqKS kv.1 k then (kv.1, v) else kv) else l ++ [(k, v)]
def fSub (h : SHp) (o i v : SV) : Option SHp := match o with
  | .ref n => match h[n]?, i with
    | some (.lst l), .int k => match ixN l.length k with
      | some j => some (h.set n (.lst (l.set j v)))
      | none => none
    | some (.dct l), k => if isKey k && Nat.blt l.length 16777216 then some (h.set n (.dct (putKS k v l))) else none
    | _, _ => none
  | _ => none
def ofSt (σ : SSt) : Option SHp → RT
  | some h => .nx σ h
  | none => .bad
def sSubL (v o i : M) : MS := bndS v fun x => bndS o fun y => bndS i fun z σ h => ofSt σ (fSub h y z x)
def sFld (cs : List Nat) (f : Cs) (v o : M) : MS := bndS v fun x => bndS o fun y σ h => match y with
  | .ref n => match h[n]? with
    | some (.ins C fs) => if cs.contains C && Nat.blt fs.length 1000 then .nx σ (h.set n (.ins C (putS f x fs))) else .bad
    | _ => .bad
  | _ => .bad
section
variable {K : KG} {μ : Nat → Addr} {n : Nat} {H : Hp}
theorem RSs.set_ {v : SV} {w : L2.V} (r0 : RS K μ n H v w) : ∀ {l : List SV} {vs : List L2.V} (j : Nat), RSs K μ n H l vs → RSs K μ n H (l.set j v) (vs.set j w)
  | _, _, _, .nil => .nil
  | _, _, 0, .cons _ t => .cons r0 t
  | _, _, j + 1, .cons h t => .cons h (RSs.set_ r0 j t)
theorem RSk.put_ {k : SV} {k' : Key} (hk : keyOf k = some k') {v : SV} {w : L2.V} (r0 : RS K μ n H v w) {l : List (SV × SV)} {kvs : List (Key × L2.V)} (r : RSk K μ n H l kvs) : RSk K μ n H (putKS k v l) (L2.putK kvs k' w) := by
  have ha : (l.any fun kv => eqKS kv.1 k) = (kvs.any fun kv => decide (kv.1 = k')) := by
    induction r with
    | nil => rfl
    | cons ha h t ih => simp only [List.any_cons, ih, keyOf_eq ha hk]
  unfold putKS L2.putK
  rw [ha]
  split
  · rename_i hc
    clear ha hc
    induction r with
    | nil => exact .nil
    | @cons a v' a' w' l ws ha h t ih =>
      have e := keyOf_eq ha hk
      by_cases q : a' = k'
      · rw [decide_eq_true q] at e
        simp only [List.map_cons, ← e, if_true, q]
        exact .cons (by rw [ha, q]) r0 ih
      · rw [decide_eq_false q] at e
        simp only [List.map_cons, ← e, q, if_false]
        exact .cons ha h ih
  · rename_i hc
    clear ha hc
    induction r with
    | nil => exact .cons hk r0 .nil
    | cons ha h t ih => exact .cons ha h ih
end
section
variable {X : Cx} {G : Nat → Addr} {o i value : Expr} {mo mi mv : M} {pos pos' : Pos}
theorem s_subL (ho : PEs G X o mo) (hi : PEs G X i mi) (hv : PEs G X value mv) (hu : X.A.units + 1 < cLine) (hs : swapsWith value (some (.Subscript o i pos')) pos.line X.env = pure false) : PS1 G X (.Assign [.Subscript o i pos'] value pos) (sSubL mv mo mi) := by
  refine ⟨fun W tk => ⟨fun pins s σ H D I x => ?_⟩⟩
  refine wpAny_Assign_Subscript (thn ((hv.run W tk).run pins s σ H _ I (rdS_bnd x)) fun r s1 ⟨v, H1, I1, rv, q1⟩ => thn ((ho.run W tk).run pins s1 σ H1 _ I1 (rdS1_bnd q1)) fun u s2 ⟨xo, H2, I2, rx, q2⟩ => thn ((hi.run W tk).run pins s2 σ H2 _ I2 (rdS2_bnd q2)) fun iv s3 ⟨y, H3, I3, ry, q3⟩ => ?_) hs
  obtain ⟨μ, σs, h, xv, xo', xi, S, st, r1, r2, r3, p⟩ := q3
  cases e : fSub h xo' xi xv with
  | none => simp only [e, ofSt] at p; exact p.elim
  | some h' =>
    simp only [e, ofSt] at p
    unfold fSub at e
    split at e
    · rename_i n
      obtain ⟨hn, rfl⟩ := r2.ref_
      split at e
      · rename_i l k hl
        split at e
        · rename_i j hj
          cases e
          cases r3.int_
          obtain ⟨vs, e1, rl⟩ := S.obj n _ hl
          have f : EV.Fr μ h.length H3 μ h.length (upd H3 (μ n) (.lst (vs.set j v))) := S.frW hn (by rw [e1]; simp)
          refine thn (set_list pins s3 σ H3 _ _ _ u iv r (fun H' => D.nx σ H') I3 rx ry rv ⟨μ n, vs, k, j, rfl, rfl, e1, by rw [← rl.length]; exact hj, ?_⟩) fun _ s4 ⟨H4, I4, q4⟩ => ⟨σ, H4, I4, q4⟩
          exact p μ _ σ (by rw [List.length_set]; exact f) (S.write hn (by rw [e1]; simp) ⟨_, rfl, RSs.set_ (r1.fr f) j (rl.fr f)⟩) (by rw [List.length_set]; exact st.fr f)
        · cases e
      · rename_i l hl
        split at e
        · rename_i hk
          cases e
          simp only [Bool.and_eq_true] at hk
          obtain ⟨k', ek⟩ := isKey_of hk.1
          have ey := keyOf_rel ek r3
          subst ey
          obtain ⟨kvs, e1, rl⟩ := S.obj n _ hl
          have el : l.length = kvs.length := by
            have : ∀ {l : List (SV × SV)} {kvs : List (Key × L2.V)}, RSk ⟨X.K, G⟩ μ h.length H3 l kvs → l.length = kvs.length := by
              intro l kvs r
              induction r with
              | nil => rfl
              | cons _ _ _ ih => simp [ih]
            exact this rl
          have hz : kvs.length < sizeLine := by rw [sizeLine_eq, ← el]; exact blt_lt hk.2
          have f : EV.Fr μ h.length H3 μ h.length (upd H3 (μ n) (.dK (L2.putK kvs k' v))) := S.frW hn (by rw [e1]; simp)
          obtain rfl : u = Value.ref (μ n) := rx
          refine d_setItem hu I3 (DPut.k e1 hz) ry rv fun s4 I4 => ⟨σ, _, I4, ?_⟩
          exact p μ _ σ (by rw [List.length_set]; exact f) (S.write hn (by rw [e1]; simp) ⟨_, rfl, RSk.put_ ek (r1.fr f) (rl.fr f)⟩) (by rw [List.length_set]; exact st.fr f)
        · cases e
      · cases e
    · cases e
theorem s_fld {cs : List Nat} {f : Str} {fc : Cs} (ho : PEs G X o mo) (hv : PEs G X value mv) (hf : toS fc = f) (ok : FldOk X.K G cs f) (hs : swapsWith value (some (.Attribute o f pos')) pos.line X.env = pure false) : PS1 G X (.Assign [.Attribute o f pos'] value pos) (sFld cs fc mv mo) :=
  ⟨fun W tk => wkPS (ps_fld (ho.run W tk) (hv.run W tk) hs) fun D σ H x => rd_imp (rdS_bnd x) fun V H1 y => rd_imp (rdS1_bnd y) fun V2 H2 ⟨μ, σs, h, u, v, S, st, r, r2, p⟩ => by
    (try dsimp only at p)
    split at p
    · rename_i n
      obtain ⟨hn, rfl⟩ := r2.ref_
      (try dsimp only at p)
      split at p
      · rename_i C fs hl
        (try dsimp only at p)
        split at p
        · rename_i hc
          simp only [Bool.and_eq_true] at hc
          obtain ⟨cl, na⟩ := ok C (by simpa using hc.1)
          obtain ⟨dx, fs', e1, rl⟩ := S.obj n _ hl
          have hz : fs'.length < 1000 := by rw [← rl.length]; exact blt_lt hc.2
          refine ⟨μ n, G C, dx, fs', rfl, e1, cl, na, hz, ?_⟩
          have f' : EV.Fr μ h.length H2 μ h.length (upd H2 (μ n) (.ins (G C) dx (putF f V fs'))) := S.frW hn (by rw [e1]; simp)
          refine p μ _ σ (by rw [List.length_set]; exact f') (S.write hn (by rw [e1]; simp) ⟨dx, _, rfl, ?_⟩) (by rw [List.length_set]; exact st.fr f')
          rw [← hf] at f' ⊢
          exact RSf.put (r.fr f') (rl.fr f')
        · exact p.elim
      · exact p.elim
    · exact p.elim⟩
end
end EV

/-! EV9: methods and classes of the text, keywords, targets, loops. -/
namespace EV
open PySem PySem.Spec PyProof.Rows L2

/-! ### o.m(..) -/
/-- a method of the class C, sem its def's function (self first) -/
def mMeth (C : Nat) (mc : Cs) (sem : List SV → SHp → R) (dS : List SV) (a : M) (ms : List M) : M := bnd a fun x σ h => match drf h x with
  | .ins C' fs => if Nat.beq C' C && (lkF mc fs).isNone then argsM ms (fun vs _ h => sem (x :: (vs ++ dS)) h) σ h else .bad
  | _ => .bad
section
variable {X : Cx} {G : Nat → Addr} {k : Nat} {f : Addr} {C : Nat} {fd : FuncData} {ps ks : List Str} {sem : List SV → SHp → R} {x m : Str} {mc : Cs} {p pos apos : Pos} {e o : Expr} {es : List Expr} {ms : List M} {ma : M} {dS : List SV} {dV : List L2.V} {ds : List Value}
theorem meth_core {W : WX} {σ : L2.St} {H : Hp} {Q : VK} (hm : toS mc = m) (x : rd ⟨X.K, G⟩ (mMeth C mc sem dS ma ms) W σ H Q) :
    rd ⟨X.K, G⟩ ma W σ H fun V H1 => ∃ a dx fs, V = .ref a ∧ H1 a = some (.ins (G C) dx fs) ∧ fs.lookup m = none ∧ tAs ⟨X.K, G⟩ W ms σ H1 fun Vs H2 => Vs.length = ms.length ∧ rdL ⟨X.K, G⟩ (fun vs _ h => sem (vs ++ dS) h) (V :: Vs) W σ H2 Q :=
  rd_imp (rd_bnd x) fun V H1 ⟨μ, σs, h, u, S, st, r, p⟩ => by
    cases e1 : drf h u with
    | ins C' fs =>
      simp only [e1] at p
      split at p
      · rename_i hc
        simp only [Bool.and_eq_true] at hc
        have ec : C' = C := Nat.eq_of_beq_eq_true hc.1
        subst ec
        obtain ⟨a, dx, fs', rfl, h1, h2⟩ := drf_ins S e1 r
        refine ⟨a, dx, fs', rfl, h1, ?_, ?_⟩
        · rcases h2.lk (f := mc) with ⟨_, e3⟩ | ⟨v, w, e3, e4, r4⟩
          · rw [← hm]; exact e3
          · rw [e3] at hc; cases hc.2
        · have y : rd1 ⟨X.K, G⟩ (fun u => argsM ms fun vs _ h => sem (u :: (vs ++ dS)) h) (.ref a) W σ H1 Q := ⟨μ, σs, h, u, S, st, r, p⟩
          refine tAs_imp (tAs_len (rd1_args y)) fun Vs H2 ⟨el, z⟩ => ⟨el, ?_⟩
          obtain ⟨μ, σs, h, us, S, st, r, p⟩ := z
          cases us with
          | nil => cases r
          | cons u us => exact ⟨μ, σs, h, u :: us, S, st, r, p⟩
      · exact p.elim
    | _ => simp only [e1] at p; exact p.elim
theorem e_meth {pl : Sem Bool} (he : PEs G X o ma) (c : Cls X.K (G C)) (hm : Meth X.K (G C) m f) (hmc : toS mc = m) (F : FnS X.prog X.w X.K X.mg X.base G k f fd ps sem) (hr : Room k X.A) (hb : Binds X.K fd ps ds) (hd : Vals dV ds) (hS : ∀ T H, RPs ⟨X.K, G⟩ T H dS dV)
    (hl : 1 + (ms.length + dV.length) = ps.length) (ha : PAs G X (e :: es) ms)
    (hst : starEach (e :: es) X.env = (false, eval e X.env) :: starEach es X.env := by rfl) (hpl : (backTo pos (starEach es X.env)).any (·.1) = false := by rfl)
    (ht : eval (.Call (.Attribute o m apos) (e :: es) [] pos) X.env = (do
      let ov ← eval o X.env
      standAt apos.atName
      let (f, first) ← holding [ov] (getMethod ov m pl)
      callWith pos f first (backTo pos (starEach (e :: es) X.env)) (backToKw pos (keywordEach [] X.env))) := by rfl) :
    PEs G X (.Call (.Attribute o m apos) (e :: es) [] pos) (mMeth C mc sem dS ma ms) := by
  refine ⟨fun W tk => ⟨fun pins s σ H Q I h => ?_⟩⟩
  refine PySem.W.methodCall_KW (pl := pl) (thn ((he.run W tk).run pins s σ H _ I (meth_core hmc h)) fun u s1 ⟨x, H1, I1, rx, a, dx, fs, ex, ea, l, q⟩ => ?_) ht
  subst ex
  obtain rfl : u = Value.ref a := rx
  refine getmeth_ok I1 ea c hm l ?_
  refine PySem.W.callWith_K (first := [.ref a]) (h₀ := X.base) I.ok.mod.kin hm.kp (thn ((ha.run W tk).run pos pins s1 σ H1 _ I1 q) fun us s2 ⟨vs, H2, I2, r, el, q2⟩ => ⟨I2.kIn, ?_⟩) hst hpl
  have r2 : Vals (L2.V.ref a :: vs ++ dV) (Value.ref a :: us ++ ds) := Vals.append (Paired.cons rfl r) hd
  have l2 : (L2.V.ref a :: vs ++ dV).length = ps.length := by rw [List.length_append, List.length_cons]; omega
  exact run_call F hr tk I2 (hb s2 (Value.ref a :: us) I2.kIn (by rw [← r2.length]; exact l2)) r2 l2 (rdL_add hS q2)
theorem e_meth0 {pl : Sem Bool} (he : PEs G X o ma) (c : Cls X.K (G C)) (hm : Meth X.K (G C) m f) (hmc : toS mc = m) (F : FnS X.prog X.w X.K X.mg X.base G k f fd ps sem) (hr : Room k X.A) (hb : Binds X.K fd ps ds) (hd : Vals dV ds) (hS : ∀ T H, RPs ⟨X.K, G⟩ T H dS dV)
    (hl : 1 + dV.length = ps.length)
    (ht : eval (.Call (.Attribute o m apos) [] [] pos) X.env = (do
      let ov ← eval o X.env
      standAt apos.atName
      let (f, first) ← holding [ov] (getMethod ov m pl)
      callWith pos f first (backTo pos (starEach [] X.env)) (backToKw pos (keywordEach [] X.env))) := by rfl) :
    PEs G X (.Call (.Attribute o m apos) [] [] pos) (mMeth C mc sem dS ma []) := by
  refine ⟨fun W tk => ⟨fun pins s σ H Q I h => ?_⟩⟩
  refine PySem.W.methodCall_KW (pl := pl) (thn ((he.run W tk).run pins s σ H _ I (meth_core hmc h)) fun u s1 ⟨x, H1, I1, rx, a, dx, fs, ex, ea, l, q⟩ => ?_) ht
  subst ex
  obtain rfl : u = Value.ref a := rx
  refine getmeth_ok I1 ea c hm l ?_
  obtain ⟨_, q2⟩ := q
  have r2 : Vals (L2.V.ref a :: dV) (Value.ref a :: ds) := .cons rfl hd
  have l2 : (L2.V.ref a :: dV).length = ps.length := by rw [List.length_cons]; omega
  exact PySem.W.callWith_K0 (first := [.ref a]) I1.kIn hm.kp (run_call F hr tk I1 (hb s1 [Value.ref a] I1.kIn (by rw [show [Value.ref a] ++ ds = Value.ref a :: ds from rfl, ← r2.length]; exact l2)) r2 l2 (rdL_add (Vs := [L2.V.ref a]) hS q2))
end


/-! ### C(..): the instance is tracked -/
def mkEnd (n : Nat) : R → R
  | .val .non h => .val (.ref n) h
  | .val _ _ => .bad
  | .exc C f h => .exc C f h
  | .bad => .bad
def mkM (C : Nat) (sem : List SV → SHp → R) (vs : List SV) (h : SHp) : R := mkEnd h.length (sem (.ref h.length :: vs) (h ++ [.ins C []]))
def mMake (C : Nat) (sem : List SV → SHp → R) (dS : List SV) (ms : List M) : M := argsM ms fun vs _ h => mkM C sem (vs ++ dS) h
theorem post_make {K : KG} {μ : Nat → Addr} {h : SHp} {H H' : Hp} {Q : VK} {E : XK} {p : Addr} {r : R} (f : EV.Fr μ h.length H (put μ h.length p) (h.length + 1) H') (pr : Post K μ h.length H (mkEnd h.length r) Q E) :
    Post K (put μ h.length p) (h.length + 1) H' r (fun v H2 => v = .non ∧ Q (.ref p) H2) E := by
  have pr := Post.fr f pr
  cases r with
  | val v h' =>
    intro μ' H2 V f2 S2 r2
    have ep : μ' h.length = p := (f2.mu h.length (Nat.lt_succ_self _)).trans put_at
    have hl : h.length < h'.length := f2.le
    unfold mkEnd at pr
    split at pr
    · rename_i e
      cases e
      have := pr μ' H2 (.ref (μ' h.length)) f2 S2 (.one (.ref _ hl))
      rw [ep] at this
      exact ⟨r2.non_, this⟩
    · exact pr.elim
    · rename_i e; cases e
    · rename_i e; cases e
  | exc C fs h' => exact pr
  | bad => exact pr
/-- the heap in which a new instance stands -/
theorem made_sim {K : KG} {μ : Nat → Addr} {h : SHp} {H : Hp} {x dx : Addr} {C : Nat} (S : Sim K μ h H) (hx : H x = none) (hd : H dx = none) (ne : dx ≠ x) :
    EV.Fr μ h.length H (put μ h.length x) (h.length + 1) (upd (upd H dx (.own x)) x (.ins (K.G C) dx [])) ∧ Sim K (put μ h.length x) (h ++ [.ins C []]) (upd (upd H dx (.own x)) x (.ins (K.G C) dx [])) := by
  have S1 : Sim K μ h (upd H dx (.own x)) := S.new hd
  have hx1 : upd H dx (.own x) x = none := by rw [upd_ne (Ne.symm ne)]; exact hx
  exact ⟨Fr.trans (Fr.new hd) (Fr.alloc hx1), S1.alloc hx1 ⟨dx, [], rfl, .nil⟩⟩
section
variable {X : Cx} {G : Nat → Addr} {k : Nat} {f : Addr} {C : Nat} {fd : FuncData} {ps ks : List Str} {sem : List SV → SHp → R} {x m : Str} {mc : Cs} {p pos apos : Pos} {e o : Expr} {es : List Expr} {ms : List M} {ma : M} {dS : List SV} {dV : List L2.V} {ds : List Value}
theorem run_mk {W : WX} {pins : List (Addr × Obj)} {σ : L2.St} {H : Hp} {s : Shared} {Q : VK} {us : List Value} {vs : List L2.V} (M : Mk X.K (G C) f) (F : FnS X.prog X.w X.K X.mg X.base G k f fd ps sem) (hr : Room (k + 1) X.A) (tk : Takes X W) (hb : Binds X.K fd ps ds) (hd : Vals dV ds)
    (hl0 : 1 + (vs.length + dV.length) = ps.length) (I : Inv X pins σ H s) (r : Vals vs us)
    (h : rdL ⟨X.K, G⟩ (fun vs _ h => mkM C sem vs h) (vs ++ dV) W σ H Q) :
    wpAny (model X.prog X.w) X.A (call (.ref (G C)) us) (EP X pins σ Q) X.xe s := by
  obtain ⟨μ, σs, hh, xs, S, st, rs, pp⟩ := h
  have hx0 := I.hok.fresh (Nat.le_succ s.heap.objs.size)
  have hd0 := I.hok.fresh (Nat.le_refl s.heap.objs.size)
  have hne : s.heap.objs.size ≠ s.heap.objs.size + 1 := Nat.ne_of_lt (Nat.lt_succ_self _)
  obtain ⟨f1, S1⟩ := made_sim (C := C) S hx0 hd0 hne
  have I2 := Inv.made (C := G C) I
  have r2 : Vals (V.ref (s.heap.objs.size + 1) :: (vs ++ dV)) (Value.ref (s.heap.objs.size + 1) :: (us ++ ds)) := .cons rfl (r.append hd)
  have hl : (Value.ref (s.heap.objs.size + 1) :: us ++ ds).length = ps.length := by
    have e := r2.length
    simp only [List.length_cons, List.length_append] at e hl0 ⊢
    omega
  have e1 : (hh ++ [SO.ins C []]).length = hh.length + 1 := by simp
  have hq : spOf ⟨X.K, G⟩ ps.length sem (V.ref (s.heap.objs.size + 1) :: (vs ++ dV)) (upd (upd H s.heap.objs.size (.own (s.heap.objs.size + 1))) (s.heap.objs.size + 1) (.ins (G C) s.heap.objs.size [])) (fun v H2 => v = .non ∧ Q (.ref (s.heap.objs.size + 1)) H2) (WE W σ) := by
    refine ⟨by simp only [List.length_cons, List.length_append]; omega, put μ hh.length (s.heap.objs.size + 1), hh ++ [.ins C []], .ref hh.length :: xs, S1, ?_, ?_⟩
    · rw [e1]
      refine .cons ?_ (rs.fr f1)
      have := RS1.ref (K := ⟨X.K, G⟩) (μ := put μ hh.length (s.heap.objs.size + 1)) (n := hh.length + 1) (H := upd (upd H s.heap.objs.size (.own (s.heap.objs.size + 1))) (s.heap.objs.size + 1) (.ins (G C) s.heap.objs.size [])) hh.length (Nat.lt_succ_self _)
      rw [put_at] at this
      exact .one this
    · rw [e1]
      exact post_make f1 pp
  refine wpAny_call (make_map (f := f) I.kIn M.makes M.init (beq_iff_eq.mp M.fn) (codeAny_mono (F.run _ X.stack _ _ ⟨Value.ref (s.heap.objs.size + 1) :: us, []⟩ (Value.ref (s.heap.objs.size + 1) :: (us ++ ds)) _ _ (WE W σ) (hr.make (G C) us [])
    (I2.env0.make (G C) us []) (hb _ (Value.ref (s.heap.objs.size + 1) :: us) I2.kIn hl) r2 hq) fun r s' hq' => ?_))
  cases r with
  | error e => exact passAt' tk σ pins _ _ e s' I2 hq'
  | ok fl =>
    cases fl with
    | ret u =>
      obtain ⟨v, H', I3, rv, ev, q3⟩ := I2.after hq'
      subst ev
      exact ⟨rv, ⟨V.ref (s.heap.objs.size + 1), H', I3, rfl, q3⟩⟩
    | next => exact False.elim hq'
    | brk => exact False.elim hq'
    | cont => exact False.elim hq'
theorem e_make (M : Mk X.K (G C) f) (F : FnS X.prog X.w X.K X.mg X.base G k f fd ps sem) (hr : Room (k + 1) X.A) (hg : Gl X x) (hm : X.mg x = some (.ref (G C))) (hb : Binds X.K fd ps ds) (hd : Vals dV ds) (hS : ∀ T H, RPs ⟨X.K, G⟩ T H dS dV) (hl : 1 + (ms.length + dV.length) = ps.length)
    (ha : PAs G X (e :: es) ms) (hdb : (x == ("__debug__" : Str)) = false := by decide) (he : starEach (e :: es) X.env = (false, eval e X.env) :: starEach es X.env := by rfl) (hpl : (backTo pos (starEach es X.env)).any (·.1) = false := by rfl) :
    PEs G X (.Call (.Name x p) (e :: es) [] pos) (mMake C sem dS ms) := by
  refine ⟨fun W tk => ⟨fun pins s σ H Q I h => ?_⟩⟩
  refine wpAny_Call_Name_kw (ld_glob I hg hm ?_ hdb)
  refine PySem.W.callWith_K (h₀ := X.base) I.ok.mod.kin M.kp (thn ((ha.run W tk).run pos pins s σ H _ I (tAs_len (rd_args h))) fun us s1 ⟨vs, H1, I1, r, el, q⟩ => ⟨I1.kIn, ?_⟩) he hpl
  exact run_mk M F hr tk hb hd (by omega) I1 r (rdL_add (g := fun vs _ h => mkM C sem vs h) hS q)
end
end EV

/-! EV10: targets, what is walked, for, comprehensions. -/
namespace EV
open PySem PySem.Spec PyProof.Rows L2

/-! ### targets -/
inductive TgT where
  | nm (i : Nat) | tp (is : List Nat)
def slots : TgT → List Nat
  | .nm i => [i]
  | .tp is => is
def setAll : List Nat → List SV → SSt → Option SSt
  | [], [], σ => some σ
  | i :: is, v :: vs, σ => setAll is vs (setn v i σ)
  | _, _, _ => none
def setT (t : TgT) (x : SV) (σ : SSt) : Option SSt := match t with
  | .nm i => some (setn x i σ)
  | .tp is => match x with
    | .tup l => setAll is l σ
    | .tupR l => setAll is l σ
    | _ => none
/-- σ' is as σ outside of the slots is -/
def Out (is : List Nat) (σ σ' : L2.St) : Prop := σ'.length = σ.length ∧ ∀ j, j ∉ is → σ'[j]? = σ[j]?
theorem Out.refl {is : List Nat} {σ : L2.St} : Out is σ σ := ⟨rfl, fun _ _ => rfl⟩
theorem Out.set {is : List Nat} {i : Nat} {σ σ' : L2.St} {w : Option L2.V} (hi : i ∈ is) (h : Out is (σ.set i w) σ') : Out is σ σ' := by
  refine ⟨h.1.trans (List.length_set ..), fun j hj => (h.2 j hj).trans ?_⟩
  rw [List.getElem?_set_ne (fun e => hj (by rw [← e]; exact hi))]
theorem Out.mono {is js : List Nat} {σ σ' : L2.St} (h : Out is σ σ') (s : ∀ i ∈ is, i ∈ js) : Out js σ σ' := ⟨h.1, fun j hj => h.2 j fun z => hj (s j z)⟩
theorem wipe_get (σ : L2.St) : ∀ (vs : List Nat) (j : Nat), (wipe σ vs)[j]? = if j ∈ vs then (σ[j]?).map (fun _ => none) else σ[j]?
  | [], j => by simp [wipe]
  | v :: vs, j => by
    unfold wipe
    rw [List.getElem?_set, wipe_length]
    by_cases e : v = j
    · subst e
      simp only [if_true, List.mem_cons, true_or]
      by_cases hl : v < σ.length
      · simp [hl]
      · simp [hl, List.getElem?_eq_none (Nat.le_of_not_lt hl)]
    · rw [if_neg e, wipe_get σ vs j]
      have : (j ∈ v :: vs) ↔ j ∈ vs := by simp [Ne.symm e]
      simp only [this]
theorem wipe_out {is vs : List Nat} {σ σ' : L2.St} (h : Out is (wipe σ vs) σ') (s : ∀ i ∈ is, i ∈ vs) : wipe σ' vs = wipe σ vs := by
  apply List.ext_getElem?
  intro j
  rw [wipe_get, wipe_get]
  by_cases hj : j ∈ vs
  · rw [if_pos hj, if_pos hj]
    have hl : σ'.length = σ.length := h.1.trans (wipe_length σ vs)
    by_cases q : j < σ.length
    · have q' : j < σ'.length := by omega
      simp [q, q']
    · have q' : ¬ j < σ'.length := by omega
      simp [q, q']
  · rw [if_neg hj, if_neg hj, h.2 j (fun z => hj (s j z)), wipe_get, if_neg hj]
def wipeS (σ : SSt) : List Nat → SSt
  | [] => σ
  | v :: vs => setn .un v (wipeS σ vs)
section
variable {K : KG} {μ : Nat → Addr} {n : Nat} {H : Hp}
theorem RSt.unset : ∀ {l : List SV} {ws : List (Option V)} (i : Nat), RSt K μ n H l ws → RSt K μ n H (setn .un i l) (ws.set i Option.none)
  | _, _, 0, .nil => .nil
  | _, _, _ + 1, .nil => .nil
  | _, _, 0, .none t => .none t
  | _, _, 0, .cons _ t => .none t
  | _, _, i + 1, .none t => .none (RSt.unset i t)
  | _, _, i + 1, .cons q t => .cons q (RSt.unset i t)
theorem RSt.wipe {l : List SV} {ws : List (Option V)} (r : RSt K μ n H l ws) : ∀ vs : List Nat, RSt K μ n H (wipeS l vs) (L2.wipe ws vs)
  | [] => r
  | v :: vs => (RSt.wipe r vs).unset v
def setAllV : List Nat → List V → L2.St → L2.St
  | i :: is, v :: vs, σ => setAllV is vs (σ.set i (some v))
  | _, _, σ => σ
theorem setAll_rel : ∀ {is : List Nat} {l : List SV} {vs : List V} {σs σs' : SSt} {σ : L2.St}, RSs K μ n H l vs → RSt K μ n H σs σ → setAll is l σs = some σs' → vs.length = is.length ∧ RSt K μ n H σs' (setAllV is vs σ)
  | [], [], _, _, _, _, .nil, st, e => by simp [setAll] at e; subst e; exact ⟨rfl, st⟩
  | i :: is, v :: l, _, _, _, _, .cons r rs, st, e => by
    unfold setAll at e
    obtain ⟨h1, h2⟩ := setAll_rel (is := is) rs (st.set r i) e
    exact ⟨by simp [h1], h2⟩
  | [], _ :: _, _, _, _, _, _, _, e => by simp [setAll] at e
  | _ :: _, [], _, _, _, _, _, _, e => by simp [setAll] at e
theorem setAllV_out : ∀ {is : List Nat} {vs : List V} {σ : L2.St} {js : List Nat}, (∀ i ∈ is, i ∈ js) → Out js σ (setAllV is vs σ)
  | [], _, _, _, _ => .refl
  | _ :: _, [], _, _, _ => .refl
  | i :: is, v :: vs, σ, js, h => Out.set (h i List.mem_cons_self) (setAllV_out fun j hj => h j (List.mem_cons_of_mem _ hj))
end
/-- a target's reading -/
def gS (K : KG) (t : TgT) : TG := fun v σ H Q => ∃ μ σs h x σs', Sim K μ h H ∧ RSt K μ h.length H σs σ ∧ RS K μ h.length H x v ∧ setT t x σs = some σs' ∧ ∀ σ', RSt K μ h.length H σs' σ' → Out (slots t) σ σ' → Q σ' H
def gNames (is : List Nat) : TGs := fun vs σ H Q => vs.length = is.length ∧ Q (setAllV is vs σ) H
section
variable {X : Cx} {G : Nat → Addr} {pos : Pos}
theorem wkPG {tg : Expr} {t t' : TG} (h : PG X tg t) (w : ∀ v σ H Q, t' v σ H Q → t v σ H Q) : PG X tg t' := ⟨fun pins s σ H v u Q I r q => h.run pins s σ H v u Q I r (w v σ H Q q)⟩
theorem wkPGs {tg : List Expr} {t t' : TGs} (h : PGs X tg t) (w : ∀ v σ H Q, t' v σ H Q → t v σ H Q) : PGs X tg t' := ⟨fun pins s σ H v u Q I r q => h.run pins s σ H v u Q I r (w v σ H Q q)⟩
theorem gn_nil : PGs X [] (gNames []) := wkPGs pgs_nil fun vs σ H Q ⟨e, q⟩ => by
  have : vs = [] := List.length_eq_zero_iff.mp e
  subst this
  exact ⟨rfl, q⟩
theorem gn_cons {e : Expr} {es : List Expr} {i : Nat} {is : List Nat} (h1 : PG X e (gName i)) (h2 : PGs X es (gNames is))
    (hs : (assignEach (e :: es) X.env).map (·.2) = assign e X.env :: (assignEach es X.env).map (·.2) := by rfl) : PGs X (e :: es) (gNames (i :: is)) := wkPGs (pgs_cons h1 h2 hs) fun vs σ H Q ⟨e, q⟩ => by
  cases vs with
  | nil => simp at e
  | cons v vs => exact ⟨v, vs, rfl, by simpa using e, q⟩
theorem g_nm {i : Nat} {x : Str} (hN : X.N.Nodup) (hi : X.N[i]? = some x) (hx : Loc X.env.scope x) (hf : X.fn x = true ∨ X.env.scope.names.lookup x = some .local) : PG X (.Name x pos) (gS ⟨X.K, G⟩ (.nm i)) :=
  wkPG (pg_name hN hi hx hf) fun v σ H Q ⟨μ, σs, h, x, σs', S, st, r, e, q⟩ => by
    cases e
    exact q _ (st.set r i) (Out.set (by simp [slots]) .refl)
theorem g_tp {es : List Expr} {k : Nat} {is : List Nat} (hc : X.calm = true) (h : PGs X es (gNames is)) (hn : (assignEach es X.env).length = is.length := by rfl) (hst : (assignEach es X.env).findIdx? (·.1) = none := by rfl) :
    PG X (.Tuple es k pos) (gS ⟨X.K, G⟩ (.tp is)) :=
  wkPG (pg_tup hc h hn hst) fun v σ H Q ⟨μ, σs, h, x, σs', S, st, r, e, q⟩ => by
    have key : ∀ {a : Addr} {vs : List V} {l : List SV}, v = .ref a → SqT X.K H a vs → RSs ⟨X.K, G⟩ μ h.length H l vs → setAll is l σs = some σs' → gTup X.K is.length (gNames is) v σ H Q := by
      intro a vs l ev hv rl e
      obtain ⟨hl, st'⟩ := setAll_rel rl st e
      exact ⟨a, vs, ev, hv, hl, hl, q _ st' (setAllV_out fun _ z => z)⟩
    unfold setT at e
    simp only at e
    split at e
    · obtain ⟨a, vs, ev, hv, rl⟩ := r.tup_
      exact key ev hv rl.rs e
    · obtain ⟨a, vs, ev, hv, rl⟩ := r.tupR_
      exact key ev hv rl.rs e
    · cases e
end

/-! ### what is walked -/
/-- the heap has at most one new object -/
def Gr (H H' : Hp) : Prop := H' = H ∨ ∃ T o, H T = none ∧ H' = upd H T o
section
variable {K : KG} {μ : Nat → Addr} {n : Nat} {H H' : Hp} {h : SHp}
theorem Gr.fr (g : Gr H H') : EV.Fr μ n H μ n H' := by
  rcases g with e | ⟨T, o, e, e2⟩
  · subst e; exact Fr.refl
  · subst e2; exact Fr.new e
theorem Gr.sim (g : Gr H H') (S : Sim K μ h H) : Sim K μ h H' := by
  rcases g with e | ⟨T, o, e, e2⟩
  · subst e; exact S
  · subst e2; exact S.new e
end
structure WalkS (K : KG) (μ : Nat → Addr) (n : Nat) (H : Hp) (J : It) (xs : List SV) : Prop where
  go : ∀ (i : Nat) (x : SV), xs[i]? = some x → ∀ μ' n' H', EV.Fr μ n H μ' n' H' → J.go i H' ∧ ∀ w H'', J.yld i H' w H'' → Gr H' H'' ∧ RS K μ' n' H'' x w
  stop : ∀ i, xs.length ≤ i → ∀ μ' n' H', EV.Fr μ n H μ' n' H' → J.stop i H'
inductive RI where
  | its (xs : List SV) (h : SHp) | exc (C : Nat) (fs : List (Cs × SV)) (h : SHp) | bad
abbrev MI := SSt → SHp → RI
def PostI (K : KG) (μ : Nat → Addr) (n : Nat) (H : Hp) (r : RI) (Q : It → Hp → Prop) (E : XK) : Prop :=
  match r with
  | .its xs h' => ∀ μ' H' J, EV.Fr μ n H μ' h'.length H' → Sim K μ' h' H' → WalkS K μ' h'.length H' J xs → Q J H'
  | .exc C fs h' => ∀ μ' H' d fs', EV.Fr μ n H μ' h'.length H' → Sim K μ' h' H' → H' d = some (.xd fs') → RPf K (Tr μ' h'.length) H' fs fs' → E (.ref (K.G C)) (some d) H'
  | .bad => False
theorem PostI.fr {K : KG} {μ μ' : Nat → Addr} {n n' : Nat} {H H' : Hp} {r : RI} {Q : It → Hp → Prop} {E : XK} (f : EV.Fr μ n H μ' n' H') (p : PostI K μ n H r Q E) : PostI K μ' n' H' r Q E := by
  cases r with
  | its v h => exact fun μ2 H2 J f2 => p μ2 H2 J (f.trans f2)
  | exc C fs h => exact fun μ2 H2 d fs' f2 => p μ2 H2 d fs' (f.trans f2)
  | bad => exact p
def rdI (K : KG) (m : MI) (W : WX) : TI := fun σ H Q => ∃ μ σs h, Sim K μ h H ∧ RSt K μ h.length H σs σ ∧ PostI K μ h.length H (m σs h) Q (WE W σ)
structure PIs (G : Nat → Addr) (X : Cx) (tg e : Expr) (m : MI) : Prop where
  run : ∀ W, Takes X W → PI X tg e (rdI ⟨X.K, G⟩ m W)
def bndI (a : M) (k : SV → SHp → RI) : MI := fun σ h => match a σ h with
  | .val v h' => k v h'
  | .exc C f h' => .exc C f h'
  | .bad => .bad
theorem postI_bnd {K : KG} {E : XK} {a : M} {μ : Nat → Addr} {h : SHp} {H : Hp} {σs : SSt} {k : SV → SHp → RI} {Q : It → Hp → Prop} {Q' : VK} (p : PostI K μ h.length H (bndI a k σs h) Q E)
    (go : ∀ μ' H' h' v V, EV.Fr μ h.length H μ' h'.length H' → Sim K μ' h' H' → RS K μ' h'.length H' v V → PostI K μ' h'.length H' (k v h') Q E → Q' V H') : Post K μ h.length H (a σs h) Q' E := by
  unfold bndI at p
  cases e : a σs h with
  | val v h' =>
    rw [e] at p
    exact fun μ' H' V f S r => go μ' H' h' v V f S r (PostI.fr f p)
  | exc C fs h' => rw [e] at p; exact p
  | bad => rw [e] at p; exact p
def keysS (l : List (SV × SV)) : List SV := l.map (·.1)
def itm (h : SHp) (u : SV) : Option (List SV) := match u with
  | .lst l => some l
  | .tup l => some l
  | .tupR l => some l
  | .str z => some (z.map fun c => .str [c])
  | .dct l => some (keysS l)
  | .ref n => match h[n]? with
    | some (.lk (.dct l)) => some (keysS l)
    | _ => none
  | _ => none
def ofI (h : SHp) : Option (List SV) → RI
  | some xs => .its xs h
  | none => .bad
def mIts (a : M) : MI := bndI a fun u h => ofI h (itm h u)
section
variable {K : KG} {μ : Nat → Addr} {n : Nat} {H : Hp}
theorem RSs.get' {l : List SV} {vs : List V} {i : Nat} {v : SV} (r : RSs K μ n H l vs) (e : l[i]? = some v) : ∃ w, vs[i]? = some w ∧ RS K μ n H v w := r.get e
theorem walk_lst {a : Addr} {vs : List V} {l : List SV} (r : RSs K μ n H l vs) (k : ∀ μ' n' H', EV.Fr μ n H μ' n' H' → SqL K.K H' a vs) : WalkS K μ n H (Itl K.K a) l where
  go := fun i x e μ' n' H' f => by
    obtain ⟨w, e1, r1⟩ := r.get e
    refine ⟨⟨vs, w, k _ _ _ f, e1⟩, fun w' H'' ⟨eH, z⟩ => ?_⟩
    subst eH
    have := z vs (k _ _ _ f)
    rw [e1] at this
    cases this
    exact ⟨.inl rfl, r1.fr f⟩
  stop := fun i hi μ' n' H' f => ⟨vs, k _ _ _ f, by rw [← r.length]; exact hi⟩
theorem walk_tup {a : Addr} {vs : List V} {l : List SV} (r : RSs K μ n H l vs) (k : SqT K.K H a vs) : WalkS K μ n H (Itt K.K a) l where
  go := fun i x e μ' n' H' f => by
    obtain ⟨w, e1, r1⟩ := r.get e
    refine ⟨⟨vs, w, sqT_fr f.tup k, e1⟩, fun w' H'' ⟨eH, z⟩ => ?_⟩
    subst eH
    have := z vs (sqT_fr f.tup k)
    rw [e1] at this
    cases this
    exact ⟨.inl rfl, r1.fr f⟩
  stop := fun i hi μ' n' H' f => ⟨vs, sqT_fr f.tup k, by rw [← r.length]; exact hi⟩
theorem walk_str {z : Cs} : WalkS K μ n H (Its (toS z)) (z.map fun c => .str [c]) where
  go := fun i x e μ' n' H' f => by
    simp only [List.getElem?_map, Option.map_eq_some_iff] at e
    obtain ⟨c, e1, e2⟩ := e
    subst e2
    have hs : (toS z).cps[i]? = some c := by simpa [toS] using e1
    refine ⟨?_, fun w' H'' ⟨eH, c', e3, e4⟩ => ?_⟩
    · have : i < z.length := (List.getElem?_eq_some_iff.mp e1).1
      show i < (toS z).cps.size
      simpa [toS] using this
    · subst eH e4
      rw [hs] at e3
      cases e3
      exact ⟨.inl rfl, .of (.str [c])⟩
  stop := fun i hi μ' n' H' f => by
    show (toS z).cps.size ≤ i
    simpa [toS] using hi
theorem RSk.keys : ∀ {l : List (SV × SV)} {kvs : List (Key × V)}, RSk K μ n H l kvs → ∀ {i : Nat} {x : SV}, (keysS l)[i]? = some x → ∃ k w, kvs[i]? = some (k, w) ∧ keyOf x = some k
  | _, _, .nil, i, x, e => by simp [keysS] at e
  | _, _, .cons hk h r, 0, x, e => by simp [keysS] at e; subst e; exact ⟨_, _, rfl, hk⟩
  | _, _, .cons hk h r, i + 1, x, e => by
    obtain ⟨k, w, h1, h2⟩ := RSk.keys r (i := i) (x := x) (by simpa [keysS] using e)
    exact ⟨k, w, by simpa using h1, h2⟩
theorem RSk.length : ∀ {l : List (SV × SV)} {kvs : List (Key × V)}, RSk K μ n H l kvs → l.length = kvs.length
  | _, _, .nil => rfl
  | _, _, .cons _ _ r => by simp [RSk.length r]
theorem key_rel {x : SV} {k : Key} (e : keyOf x = some k) : RS K μ n H x (kV k) := by
  cases x <;> simp only [keyOf, Option.some.injEq, reduceCtorEq] at e
  · subst e; exact .of (.int _)
  · subst e; exact .of (.str _)
theorem walk_key {d : Addr} {o : Obj} {kvs : List (Key × V)} {l : List (SV × SV)} (r : RSk K μ n H l kvs) (k : H d = some (.frz o (.dK kvs))) : WalkS K μ n H (Itk d o kvs) (keysS l) where
  go := fun i x e μ' n' H' f => by
    obtain ⟨k', w, e1, e2⟩ := r.keys e
    refine ⟨⟨f.frz _ _ _ k, (List.getElem?_eq_some_iff.mp e1).1⟩, fun w' H'' ⟨eH, k2, v2, e3, e4⟩ => ?_⟩
    subst eH
    rw [e1] at e3
    cases e3
    subst e4
    exact ⟨.inl rfl, key_rel e2⟩
  stop := fun i hi μ' n' H' f => ⟨f.frz _ _ _ k, by rw [← r.length]; simpa [keysS] using hi⟩
/-- an untracked dict is locked -/
theorem lock_fr {d : Addr} {o : Obj} {kvs : List (Key × V)} (e : H d = some (.dK kvs)) (t : ¬ Tr μ n d) : EV.Fr μ n H μ n (upd H d (.frz o (.dK kvs))) := by
  have k : ∀ a, a ≠ d → upd H d (.frz o (.dK kvs)) a = H a := fun a h => upd_ne h
  refine ⟨Nat.le_refl _, fun _ _ => rfl, fun a u q t' => ?_, fun a vs q => ?_, fun a u q sd t' => ?_, fun a o' u q => ?_, fun _ _ q => q⟩
  · by_cases h : a = d
    · subst h
      rcases q with q | ⟨ob, q⟩
      · rw [e] at q; cases q; exact .inr ⟨o, upd_same⟩
      · rw [e] at q; cases q
    · unfold Rd; rw [k a h]; exact q
  · by_cases h : a = d
    · subst h
      rcases q with q | ⟨ob, q⟩
      · rw [e] at q; cases q
      · rw [e] at q; cases q
    · unfold Rd; rw [k a h]; exact q
  · by_cases h : a = d
    · subst h
      rw [e] at q; cases q; exact sd.elim
    · rw [k a h]; exact q
  · by_cases h : a = d
    · subst h
      rw [e] at q; cases q
    · rw [k a h]; exact q
theorem lock_sim {h : SHp} {d : Addr} {o : Obj} {kvs : List (Key × V)} (S : Sim K μ h H) (e : H d = some (.dK kvs)) (t : ¬ Tr μ h.length d) : Sim K μ h (upd H d (.frz o (.dK kvs))) :=
  ⟨S.inj, fun i s q => by
    have hi : i < h.length := (List.getElem?_eq_some_iff.mp q).1
    rw [upd_ne (fun z => t ⟨i, hi, z⟩)]
    exact (S.obj i s q).fr (lock_fr e t)⟩
end
section
variable {X : Cx} {G : Nat → Addr} {tg e : Expr} {m : M}
theorem i_any (he : PEs G X e m) : PIs G X tg e (mIts m) := by
  refine ⟨fun W tk => ⟨fun pins s σ H R I ⟨μ, σs, h, S, st, p⟩ => ?_⟩⟩
  have x : rd ⟨X.K, G⟩ m W σ H fun V H1 => ∃ μ h u, Sim ⟨X.K, G⟩ μ h H1 ∧ RS ⟨X.K, G⟩ μ h.length H1 u V ∧ PostI ⟨X.K, G⟩ μ h.length H1 (ofI h (itm h u)) R (WE W σ) :=
    ⟨μ, σs, h, S, st, postI_bnd p fun μ' H' h' v V f S' r p' => ⟨μ', h', v, S', r, p'⟩⟩
  refine thn ((he.run W tk).run pins s σ H _ I x) fun v s1 ⟨V1, H1, I1, r1, μ, h, u, S, r, p⟩ => ?_
  have lst : ∀ {a : Addr} {vs : List V}, V1 = .ref a → SqL X.K H1 a vs → R (Itl X.K a) H1 → wpAny (model X.prog X.w) X.A (pyIter v) (PIE X pins σ tg R) X.xe s1 := by
    intro a vs e hq q
    subst e
    cases r1
    obtain ⟨its, rv, p, hz⟩ := I1.list hq
    refine wpAny_pyIter_list p.isList ?_
    refine ⟨s1.heap.objs.size, [s1.heap.objs.size], _, _, H1, rfl, I1.kept (t' := s1.toks) fun b o e => Heap.get?_push_of_some _ e, turn_list a _, ⟨_, Heap.get?_push_size _ rfl, rfl, rfl⟩, fun b hb => ?_, q⟩
    have e : b = s1.heap.objs.size := by simpa using hb
    subst e
    exact I1.fpOk (Nat.le_refl _) (I1.hok.fresh (Nat.le_refl _))
  have tup : ∀ {a : Addr} {vs : List V}, V1 = .ref a → SqT X.K H1 a vs → R (Itt X.K a) H1 → wpAny (model X.prog X.w) X.A (pyIter v) (PIE X pins σ tg R) X.xe s1 := by
    intro a vs e hq q
    subst e
    cases r1
    obtain ⟨its, rv, p, hz⟩ := I1.tuple hq
    refine wpAny_pyIter_tuple (show s1.heap.IsTuple a its.toArray from p) ?_
    refine ⟨s1.heap.objs.size, [s1.heap.objs.size], _, _, H1, rfl, I1.kept (t' := s1.toks) fun b o e => Heap.get?_push_of_some _ e, turn_tuple a _, ⟨_, Heap.get?_push_size _ rfl, rfl, rfl⟩, fun b hb => ?_, q⟩
    have e : b = s1.heap.objs.size := by simpa using hb
    subst e
    exact I1.fpOk (Nat.le_refl _) (I1.hok.fresh (Nat.le_refl _))
  have dct : ∀ {d : Addr} {o : Obj} {kvs : List (Key × V)} {H2 : Hp}, V1 = .ref d → Inv X pins σ H2 s1 → H2 d = some (.frz o (.dK kvs)) → R (Itk d o kvs) H2 → wpAny (model X.prog X.w) X.A (pyIter v) (PIE X pins σ tg R) X.xe s1 := by
    intro d o kvs H2 e I2 hd q
    subst e
    cases r1
    obtain ⟨hs, hgd, hx, es, ep, vs, hdt, hsz, kv, hm⟩ := I2.frzK hd
    refine iter_keys hs hgd hx hdt (pi_one (tk := s1.toks) I2 _ (turn_keys _ hdt) ⟨_, Heap.get?_push_size _ rfl, rfl, ?_⟩ q)
    rw [hsz] <;> rfl
  cases u with
  | lst l =>
    cases r with
    | one r => cases r with | pure r => cases r with
      | lst hh t r => exact lst rfl (.inl hh) (p μ H1 _ Fr.refl S (walk_lst (RPs.rs r) fun μ' n' H' f => .inl (f.rd _ _ hh t)))
  | tup l =>
    obtain ⟨a, vs, e, hv, rl⟩ := r.tup_
    exact tup e hv (p μ H1 _ Fr.refl S (walk_tup rl.rs hv))
  | tupR l =>
    obtain ⟨a, vs, e, hv, rl⟩ := r.tupR_
    exact tup e hv (p μ H1 _ Fr.refl S (walk_tup rl.rs hv))
  | str z =>
    cases r.str_
    obtain ⟨t, rfl⟩ := r1
    have q := p μ H1 _ Fr.refl S walk_str
    cases ha : (toS z).cps.all (· < 128)
    · exact wpAny_pyIter_wide ha (pi_one (tk := s1.toks) I1 _ (turn_str _ (toS z) t "str_iterator" (.inr rfl)) ⟨_, Heap.get?_push_size _ rfl, rfl, rfl⟩ q)
    · exact wpAny_pyIter_ascii ha (pi_one (tk := s1.toks) I1 _ (turn_str _ (toS z) t "str_ascii_iterator" (.inl rfl)) ⟨_, Heap.get?_push_size _ rfl, rfl, rfl⟩ q)
  | dct l =>
    obtain ⟨a, kvs, e, hd, t, rl⟩ := r.dct_
    rcases hd with hd | ⟨ob, hd⟩
    · obtain ⟨od, I2⟩ := I1.lock hd trivial
      exact dct e I2 upd_same (p μ _ _ (lock_fr hd t) (lock_sim S hd t) (walk_key (rl.rs.fr (lock_fr hd t)) upd_same))
    · exact dct e I1 hd (p μ H1 _ Fr.refl S (walk_key rl.rs hd))
  | ref i =>
    obtain ⟨hi, e⟩ := r.ref_
    unfold itm at p
    simp only at p
    split at p
    · rename_i l hl
      obtain ⟨kvs, ob, e1, rl⟩ := S.obj i _ hl
      exact dct e I1 e1 (p μ H1 _ Fr.refl S (walk_key rl e1))
    · exact p.elim
  | _ => exact p.elim
end
end EV

/-! EV11: for, list and dict comprehensions, range, enumerate, zip. -/
namespace EV
open PySem PySem.Spec PyProof.Rows L2

theorem tk0 {X : Cx} : Takes X (fun _ _ _ _ => False) := fun _ _ x => by
  obtain ⟨_, _, _, _, _, _, _, _, _, _, _, _, _, _, _, _, z⟩ := x
  exact z.elim
def W0 : WX := fun _ _ _ _ => False

/-! ### for -/
def loopF (t : TgT) (b : MS) : List SV → MS
  | [], σ, h => .nx σ h
  | x :: xs, σ, h => match setT t x σ with
    | none => .bad
    | some σ2 => match b σ2 h with
      | .nx σ3 h3 => loopF t b xs σ3 h3
      | .ct σ3 h3 => loopF t b xs σ3 h3
      | .bk σ3 h3 => .nx σ3 h3
      | r => r
def sFor (it : MI) (t : TgT) (b : MS) : MS := fun σ h => match it σ h with
  | .its xs h1 => loopF t b xs σ h1
  | .exc C fs h1 => .exc C fs σ h1
  | .bad => .bad
section
variable {X : Cx} {G : Nat → Addr} {tg iter : Expr} {body : List Stmt} {it : MI} {t : TgT} {b : MS} {pos : Pos}
theorem rdS_for {K : KG} {W : WX} {D : Ends} {σ : L2.St} {H : Hp} (x : rdS K (sFor it t b) W D σ H) : tFor (rdI K it W) (gS K t) (rdS K b W) D σ H := by
  obtain ⟨μ, σs, h, S, st, p⟩ := x
  refine ⟨μ, σs, h, S, st, ?_⟩
  unfold sFor at p
  cases e : it σs h with
  | bad => rw [e] at p; exact p
  | exc C fs h1 => rw [e] at p; exact fun μ' H' d fs' f S e r => p μ' H' d fs' σ f S (st.fr f) e r
  | its xs h1 =>
    rw [e] at p
    intro μ1 H1 J f1 S1 wk
    have p1 := PostS.fr f1 p
    have st1 := st.fr f1
    refine ⟨fun i m σ' H' => m = xs.length - i ∧ i ≤ xs.length ∧ ∃ μ2 σ2 h2, EV.Fr μ1 h1.length H1 μ2 h2.length H' ∧ Sim K μ2 h2 H' ∧ RSt K μ2 h2.length H' σ2 σ' ∧ PostS K μ2 h2.length H' (loopF t b (xs.drop i) σ2 h2) D W,
      ⟨xs.length, by simp, Nat.zero_le _, μ1, σs, h1, Fr.refl, S1, st1, p1⟩, ?_⟩
    rintro i m σ' H' ⟨rfl, hi, μ2, σ2, h2, f2, S2, st2, p2⟩
    by_cases hlt : i < xs.length
    · refine .inr ⟨(wk.go i xs[i] (by simp [hlt]) μ2 h2.length H' f2).1, fun σ3 H3 => ∃ μ3 σs3 h3, EV.Fr μ1 h1.length H1 μ3 h3.length H3 ∧ Sim K μ3 h3 H3 ∧ RSt K μ3 h3.length H3 σs3 σ3 ∧ PostS K μ3 h3.length H3 (loopF t b (xs.drop (i + 1)) σs3 h3) D W,
        fun σ3 H3 z => ⟨xs.length - (i + 1), by omega, rfl, hlt, z⟩, fun w H2 y => ?_⟩
      obtain ⟨g, rx⟩ := (wk.go i xs[i] (by simp [hlt]) μ2 h2.length H' f2).2 w H2 y
      rw [List.drop_eq_getElem_cons hlt] at p2
      unfold loopF at p2
      cases e2 : setT t xs[i] σ2 with
      | none => simp only [e2] at p2; exact p2.elim
      | some σt =>
        simp only [e2] at p2
        refine ⟨μ2, σ2, h2, xs[i], σt, g.sim S2, st2.fr g.fr, rx, e2, fun σ4 st4 _ => ?_⟩
        refine ⟨μ2, σt, h2, g.sim S2, st4, ?_⟩
        have f3 : EV.Fr μ1 h1.length H1 μ2 h2.length H2 := f2.trans g.fr
        cases e3 : b σt h2 with
        | nx σ5 h5 =>
          simp only [e3] at p2
          exact fun μ' H'' σ'' f S s => ⟨μ', σ5, h5, f3.trans f, S, s, PostS.fr (g.fr.trans f) p2⟩
        | ct σ5 h5 =>
          simp only [e3] at p2
          exact fun μ' H'' σ'' f S s => ⟨μ', σ5, h5, f3.trans f, S, s, PostS.fr (g.fr.trans f) p2⟩
        | bk σ5 h5 =>
          simp only [e3] at p2
          exact fun μ' H'' σ'' f S s => p2 μ' H'' σ'' (g.fr.trans f) S s
        | rt v h5 =>
          simp only [e3] at p2
          exact fun μ' H'' V f S s => p2 μ' H'' V (g.fr.trans f) S s
        | exc C fs σ5 h5 =>
          simp only [e3] at p2
          exact fun μ' H'' d fs' σ'' f S s => p2 μ' H'' d fs' σ'' (g.fr.trans f) S s
        | bad => simp only [e3] at p2; exact p2
    · have ei : i = xs.length := by omega
      subst ei
      rw [List.drop_length] at p2
      exact .inl ⟨wk.stop _ (Nat.le_refl _) μ2 h2.length H' f2, p2 μ2 H' σ' Fr.refl S2 st2⟩
theorem s_for (hp : PassesOwn (model X.prog X.w) X.A X.env X.xe) (hc : X.calm = true) (hi : PIs G X tg iter it) (hg : PG X tg (gS ⟨X.K, G⟩ t)) (hb : PSL G X body b)
    (hs : ∀ x, foldedSetIterable iter X.env x = pure x := by intro _; rfl) : PS1 G X (.For tg iter body [] pos) (sFor it t b) :=
  ⟨fun W tk => wkPS (ps_for hp hc (hi.run W tk) hg (hb.run W tk) hs) fun D σ H x => rdS_for x⟩
end

/-! ### list comprehensions -/
def loopC (n : Nat) (t : TgT) (c e : M) (is : List Nat) : List SV → M
  | [], _, h => .val (.ref n) h
  | x :: xs, σ, h => match setT t x (wipeS σ is) with
    | none => .bad
    | some σ2 => match c σ2 h with
      | .val (.bl true) h3 => match e σ2 h3 with
        | .val v h4 => match h4[n]? with
          | some (.lst l) => if Nat.blt l.length 16777216 then loopC n t c e is xs σ (h4.set n (.lst (l ++ [v]))) else .bad
          | _ => .bad
        | _ => .bad
      | .val (.bl false) h3 => loopC n t c e is xs σ h3
      | _ => .bad
def mLcT (it : MI) (t : TgT) (c e : M) (is : List Nat) : M := fun σ h => match it σ h with
  | .its xs h1 => loopC h1.length t c e is xs σ (h1 ++ [.lst []])
  | .exc C fs h1 => .exc C fs h1
  | .bad => .bad
/-- frozen -/
def mFz (m : M) : M := fun σ h => trunc h.length (m σ h)
def mLc (it : MI) (t : TgT) (c e : M) (is : List Nat) : M := mFz (mLcT it t c e is)
theorem e_fz {G : Nat → Addr} {X : Cx} {e : Expr} {m : M} (he : PEs G X e m) : PEs G X e (mFz m) :=
  ⟨fun W tk => wkPE (he.run W tk) fun σ H Q ⟨μ, σs, h, S, st, p⟩ => ⟨μ, σs, h, S, st, post_trunc p⟩⟩
section
variable {X : Cx} {G : Nat → Addr} {tg iter elt kx vx : Expr} {ifs : List Expr} {it : MI} {t : TgT} {c e mk mv : M} {pos : Pos}
/-- a comprehension's clause -/
theorem cl_nil {K : KG} : L2.PTs X [] (rdT K mTrue W0) := ⟨fun pins s σ H Q I h => pts_nil.run pins s σ H Q I (by
  obtain ⟨μ, σs, hh, S, st, p⟩ := h
  obtain ⟨b, e, q⟩ := p μ H _ Fr.refl S (.of (.bl true))
  cases e
  exact q)⟩
theorem cl_one {cx : Expr} (h : EV.PTs G X cx c) : L2.PTs X [cx] (rdT ⟨X.K, G⟩ c W0) := pts_one (h.run _ tk0)
theorem rd_lc {K : KG} {W : WX} {is : List Nat} {σ : L2.St} {H : Hp} {Q : VK} (hsl : ∀ i ∈ slots t, i ∈ is) (x : rd K (mLcT it t c e is) W σ H Q) :
    tLc (rdI K it W) (gS K t) (rdT K c W0) (rd K e W0) is σ H Q := by
  obtain ⟨μ, σs, h, S, st, p⟩ := x
  refine ⟨μ, σs, h, S, st, ?_⟩
  unfold mLcT at p
  cases e0 : it σs h with
  | bad => rw [e0] at p; exact p
  | exc C fs h1 => rw [e0] at p; exact p
  | its xs h1 =>
    rw [e0] at p
    intro μ1 H1 J f1 S1 wk D hD
    have fD : EV.Fr μ1 h1.length H1 (put μ1 h1.length D) (h1.length + 1) (upd H1 D (.lst [])) := Fr.alloc hD
    have el : (h1 ++ [SO.lst []]).length = h1.length + 1 := by simp
    have SD : Sim K (put μ1 h1.length D) (h1 ++ [.lst []]) (upd H1 D (.lst [])) := S1.alloc hD ⟨[], rfl, .nil⟩
    have p1 := Post.fr (f1.trans fD) p
    have st1 := st.fr (f1.trans fD)
    refine ⟨fun i m H' => m = xs.length - i ∧ i ≤ xs.length ∧ ∃ μ2 h2, EV.Fr μ1 h1.length H1 μ2 h2.length H' ∧ μ2 h1.length = D ∧ h1.length < h2.length ∧ Sim K μ2 h2 H' ∧ RSt K μ2 h2.length H' σs σ ∧ Post K μ2 h2.length H' (loopC h1.length t c e is (xs.drop i) σs h2) Q (WE W σ),
      ⟨xs.length, by simp, Nat.zero_le _, put μ1 h1.length D, h1 ++ [.lst []], by rw [el]; exact fD, put_at, by rw [el]; exact Nat.lt_succ_self _, SD, by rw [el]; exact st1, by rw [el]; exact p1⟩, ?_⟩
    rintro i m H' ⟨rfl, hi, μ2, h2, f2, eD, hl2, S2, st2, p2⟩
    by_cases hlt : i < xs.length
    · refine .inr ⟨(wk.go i xs[i] (by simp [hlt]) μ2 h2.length H' f2).1, fun H3 => ∃ μ2 h2, EV.Fr μ1 h1.length H1 μ2 h2.length H3 ∧ μ2 h1.length = D ∧ h1.length < h2.length ∧ Sim K μ2 h2 H3 ∧ RSt K μ2 h2.length H3 σs σ ∧ Post K μ2 h2.length H3 (loopC h1.length t c e is (xs.drop (i + 1)) σs h2) Q (WE W σ),
        fun H3 z => ⟨xs.length - (i + 1), by omega, rfl, hlt, z⟩, fun w H2 y => ?_⟩
      obtain ⟨g, rx⟩ := (wk.go i xs[i] (by simp [hlt]) μ2 h2.length H' f2).2 w H2 y
      rw [List.drop_eq_getElem_cons hlt] at p2
      unfold loopC at p2
      cases e2 : setT t xs[i] (wipeS σs is) with
      | none => simp only [e2] at p2; exact p2.elim
      | some σt =>
        simp only [e2] at p2
        have g2 : EV.Fr μ2 h2.length H' μ2 h2.length H2 := g.fr
        refine ⟨μ2, wipeS σs is, h2, xs[i], σt, g.sim S2, (st2.fr g2).wipe is, rx, e2, fun σ4 st4 out => ⟨wipe_out out hsl, ?_⟩⟩
        have f3 : EV.Fr μ1 h1.length H1 μ2 h2.length H2 := f2.trans g2
        have p3 := Post.fr g2 p2
        have st3 := st2.fr g2
        refine ⟨μ2, σt, h2, g.sim S2, st4, ?_⟩
        cases e3 : c σt h2 with
        | bad => simp only [e3] at p3; exact p3
        | exc C fs h5 => simp only [e3] at p3; exact p3.elim
        | val cv h5 =>
          simp only [e3] at p3
          intro μ5 H5 V f5 S5 r5
          cases cv with
          | bl k =>
            cases r5.bl_
            refine ⟨k, rfl, ?_⟩
            cases k with
            | false =>
              simp only at p3
              exact ⟨μ5, h5, f3.trans f5, (f5.mu _ hl2).trans eD, Nat.lt_of_lt_of_le hl2 f5.le, S5, st3.fr f5, Post.fr f5 p3⟩
            | true =>
              simp only at p3
              refine ⟨μ5, σt, h5, S5, st4.fr f5, ?_⟩
              cases e4 : e σt h5 with
              | bad => simp only [e4] at p3; exact p3
              | exc C fs h6 => simp only [e4] at p3; exact p3.elim
              | val v h6 =>
                simp only [e4] at p3
                intro μ6 H6 yv f6 S6 r6
                split at p3
                · rename_i l hl
                  split at p3
                  · rename_i hz
                    obtain ⟨acc, ea, ra⟩ := S6.obj _ _ hl
                    have m6 : μ6 h1.length = D := (f6.mu _ (Nat.lt_of_lt_of_le hl2 f5.le)).trans ((f5.mu _ hl2).trans eD)
                    rw [m6] at ea
                    have hn : h1.length < h6.length := (List.getElem?_eq_some_iff.mp hl).1
                    have nz : ∀ o u, H6 (μ6 h1.length) ≠ some (.frz o u) := by rw [m6, ea]; simp
                    have fw := S6.frW (o := .lst (acc ++ [yv])) hn nz
                    have Sw : Sim K μ6 (h6.set h1.length (.lst (l ++ [v]))) (upd H6 (μ6 h1.length) (.lst (acc ++ [yv]))) := S6.write hn nz ⟨acc ++ [yv], rfl, RSs.append (ra.fr fw) (.cons (r6.fr fw) .nil)⟩
                    rw [m6] at fw Sw
                    refine ⟨acc, ea, by rw [sizeLine_eq, ← ra.length]; exact blt_lt hz, μ6, h6.set h1.length (.lst (l ++ [v])), ?_, m6, by rw [List.length_set]; exact hn, Sw, ?_, ?_⟩
                    · rw [List.length_set]; exact ((f3.trans f5).trans f6).trans fw
                    · rw [List.length_set]; exact ((st3.fr f5).fr f6).fr fw
                    · rw [List.length_set]; exact Post.fr ((f5.trans f6).trans fw) p3
                  · exact p3.elim
                · exact p3.elim
          | _ => exact p3.elim
    · have ei : i = xs.length := by omega
      subst ei
      rw [List.drop_length] at p2
      refine .inl ⟨wk.stop _ (Nat.le_refl _) μ2 h2.length H' f2, ?_⟩
      have := p2 μ2 H' (.ref (μ2 h1.length)) Fr.refl S2 (.one (.ref _ hl2))
      rw [eD] at this
      exact this
theorem e_lcT {scope : Scope} {own : List (Str × Nat)} (hc : X.calm = true) (hN : X.N.Nodup) (hi : PIs G X tg iter it) (ok : BlkOk X.N X.env.scope scope own) (hsl : ∀ i ∈ slots t, i ∈ own.map (·.2))
    (hg : ∀ (s : Shared) (H : Hp) (C : Addr) (cl : List (Str × Addr)) (fp : List Addr), PG (X.blk s H scope (compEnvC scope cl C X.env) fp) tg (gS ⟨X.K, G⟩ t)) (ht : ∀ (s : Shared) (H : Hp) (C : Addr) (cl : List (Str × Addr)) (fp : List Addr), L2.PTs (X.blk s H scope (compEnvC scope cl C X.env) fp) ifs (rdT ⟨X.K, G⟩ c W0))
    (he : ∀ (s : Shared) (H : Hp) (C : Addr) (cl : List (Str × Addr)) (fp : List Addr), PEs G (X.blk s H scope (compEnvC scope cl C X.env) fp) elt e) (hs : ∀ x, foldedSetIterable iter X.env x = pure x := by intro _; rfl) :
    PEs G X (.ListComp elt [⟨tg, iter, ifs, 0⟩] scope pos) (mLcT it t c e (own.map (·.2))) :=
  ⟨fun W tk => wkPE (pe_lc hc hN (hi.run W tk) ok hg ht (fun s H C cl fp => (he s H C cl fp).run W0 tk0) hs) fun σ H Q x => rd_lc hsl x⟩
theorem e_lc {scope : Scope} {own : List (Str × Nat)} (hc : X.calm = true) (hN : X.N.Nodup) (hi : PIs G X tg iter it) (ok : BlkOk X.N X.env.scope scope own) (hsl : ∀ i ∈ slots t, i ∈ own.map (·.2))
    (hg : ∀ (s : Shared) (H : Hp) (C : Addr) (cl : List (Str × Addr)) (fp : List Addr), PG (X.blk s H scope (compEnvC scope cl C X.env) fp) tg (gS ⟨X.K, G⟩ t)) (ht : ∀ (s : Shared) (H : Hp) (C : Addr) (cl : List (Str × Addr)) (fp : List Addr), L2.PTs (X.blk s H scope (compEnvC scope cl C X.env) fp) ifs (rdT ⟨X.K, G⟩ c W0))
    (he : ∀ (s : Shared) (H : Hp) (C : Addr) (cl : List (Str × Addr)) (fp : List Addr), PEs G (X.blk s H scope (compEnvC scope cl C X.env) fp) elt e) (hs : ∀ x, foldedSetIterable iter X.env x = pure x := by intro _; rfl) :
    PEs G X (.ListComp elt [⟨tg, iter, ifs, 0⟩] scope pos) (mLc it t c e (own.map (·.2))) := e_fz (e_lcT hc hN hi ok hsl hg ht he hs)

/-! ### dict comprehensions -/
def loopD (n : Nat) (t : TgT) (c k e : M) (is : List Nat) : List SV → M
  | [], _, h => .val (.ref n) h
  | x :: xs, σ, h => match setT t x (wipeS σ is) with
    | none => .bad
    | some σ2 => match c σ2 h with
      | .val (.bl true) h3 => match k σ2 h3 with
        | .val kv h4 => match e σ2 h4 with
          | .val v h5 => match h5[n]? with
            | some (.dct l) => if isKey kv && Nat.blt l.length 16777216 then loopD n t c k e is xs σ (h5.set n (.dct (putKS kv v l))) else .bad
            | _ => .bad
          | _ => .bad
        | _ => .bad
      | .val (.bl false) h3 => loopD n t c k e is xs σ h3
      | _ => .bad
def mDcT (it : MI) (t : TgT) (c k e : M) (is : List Nat) : M := fun σ h => match it σ h with
  | .its xs h1 => loopD h1.length t c k e is xs σ (h1 ++ [.dct []])
  | .exc C fs h1 => .exc C fs h1
  | .bad => .bad
theorem rd_dc {K : KG} {W : WX} {is : List Nat} {σ : L2.St} {H : Hp} {Q : VK} (hsl : ∀ i ∈ slots t, i ∈ is) (x : rd K (mDcT it t c mk mv is) W σ H Q) :
    tDc (rdI K it W) (gS K t) (rdT K c W0) (rd K mk W0) (rd K mv W0) is σ H Q := by
  obtain ⟨μ, σs, h, S, st, p⟩ := x
  refine ⟨μ, σs, h, S, st, ?_⟩
  unfold mDcT at p
  cases e0 : it σs h with
  | bad => rw [e0] at p; exact p
  | exc C fs h1 => rw [e0] at p; exact p
  | its xs h1 =>
    rw [e0] at p
    intro μ1 H1 J f1 S1 wk D hD
    have fD : EV.Fr μ1 h1.length H1 (put μ1 h1.length D) (h1.length + 1) (upd H1 D (.dK [])) := Fr.alloc hD
    have el : (h1 ++ [SO.dct []]).length = h1.length + 1 := by simp
    have SD : Sim K (put μ1 h1.length D) (h1 ++ [.dct []]) (upd H1 D (.dK [])) := S1.alloc hD ⟨[], rfl, .nil⟩
    have p1 := Post.fr (f1.trans fD) p
    have st1 := st.fr (f1.trans fD)
    refine ⟨fun i m H' => m = xs.length - i ∧ i ≤ xs.length ∧ ∃ μ2 h2, EV.Fr μ1 h1.length H1 μ2 h2.length H' ∧ μ2 h1.length = D ∧ h1.length < h2.length ∧ Sim K μ2 h2 H' ∧ RSt K μ2 h2.length H' σs σ ∧ Post K μ2 h2.length H' (loopD h1.length t c mk mv is (xs.drop i) σs h2) Q (WE W σ),
      ⟨xs.length, by simp, Nat.zero_le _, put μ1 h1.length D, h1 ++ [.dct []], by rw [el]; exact fD, put_at, by rw [el]; exact Nat.lt_succ_self _, SD, by rw [el]; exact st1, by rw [el]; exact p1⟩, ?_⟩
    rintro i m H' ⟨rfl, hi, μ2, h2, f2, eD, hl2, S2, st2, p2⟩
    by_cases hlt : i < xs.length
    · refine .inr ⟨(wk.go i xs[i] (by simp [hlt]) μ2 h2.length H' f2).1, fun H3 => ∃ μ2 h2, EV.Fr μ1 h1.length H1 μ2 h2.length H3 ∧ μ2 h1.length = D ∧ h1.length < h2.length ∧ Sim K μ2 h2 H3 ∧ RSt K μ2 h2.length H3 σs σ ∧ Post K μ2 h2.length H3 (loopD h1.length t c mk mv is (xs.drop (i + 1)) σs h2) Q (WE W σ),
        fun H3 z => ⟨xs.length - (i + 1), by omega, rfl, hlt, z⟩, fun w H2 y => ?_⟩
      obtain ⟨g, rx⟩ := (wk.go i xs[i] (by simp [hlt]) μ2 h2.length H' f2).2 w H2 y
      rw [List.drop_eq_getElem_cons hlt] at p2
      unfold loopD at p2
      cases e2 : setT t xs[i] (wipeS σs is) with
      | none => simp only [e2] at p2; exact p2.elim
      | some σt =>
        simp only [e2] at p2
        have g2 : EV.Fr μ2 h2.length H' μ2 h2.length H2 := g.fr
        refine ⟨μ2, wipeS σs is, h2, xs[i], σt, g.sim S2, (st2.fr g2).wipe is, rx, e2, fun σ4 st4 out => ⟨wipe_out out hsl, ?_⟩⟩
        have f3 : EV.Fr μ1 h1.length H1 μ2 h2.length H2 := f2.trans g2
        have p3 := Post.fr g2 p2
        have st3 := st2.fr g2
        refine ⟨μ2, σt, h2, g.sim S2, st4, ?_⟩
        cases e3 : c σt h2 with
        | bad => simp only [e3] at p3; exact p3
        | exc C fs h5 => simp only [e3] at p3; exact p3.elim
        | val cv h5 =>
          simp only [e3] at p3
          intro μ5 H5 V f5 S5 r5
          cases cv with
          | bl k =>
            cases r5.bl_
            refine ⟨k, rfl, ?_⟩
            cases k with
            | false =>
              simp only at p3
              exact ⟨μ5, h5, f3.trans f5, (f5.mu _ hl2).trans eD, Nat.lt_of_lt_of_le hl2 f5.le, S5, st3.fr f5, Post.fr f5 p3⟩
            | true =>
              simp only at p3
              refine ⟨μ5, σt, h5, S5, st4.fr f5, ?_⟩
              cases e4 : mk σt h5 with
              | bad => simp only [e4] at p3; exact p3
              | exc C fs h6 => simp only [e4] at p3; exact p3.elim
              | val kv h6 =>
                simp only [e4] at p3
                intro μ6 H6 yk f6 S6 r6
                refine ⟨μ6, σt, h6, S6, (st4.fr f5).fr f6, ?_⟩
                cases e5 : mv σt h6 with
                | bad => simp only [e5] at p3; exact p3
                | exc C fs h7 => simp only [e5] at p3; exact p3.elim
                | val v h7 =>
                  simp only [e5] at p3
                  intro μ7 H7 yv f7 S7 r7
                  split at p3
                  · rename_i l hl
                    split at p3
                    · rename_i hz
                      simp only [Bool.and_eq_true] at hz
                      obtain ⟨k', ek⟩ := isKey_of hz.1
                      have ey := keyOf_rel ek r6
                      obtain ⟨acc, ea, ra⟩ := S7.obj _ _ hl
                      have l6 : h1.length < h6.length := Nat.lt_of_lt_of_le (Nat.lt_of_lt_of_le hl2 f5.le) f6.le
                      have m6 : μ7 h1.length = D := (f7.mu _ l6).trans ((f6.mu _ (Nat.lt_of_lt_of_le hl2 f5.le)).trans ((f5.mu _ hl2).trans eD))
                      rw [m6] at ea
                      have hn : h1.length < h7.length := (List.getElem?_eq_some_iff.mp hl).1
                      have nz : ∀ o u, H7 (μ7 h1.length) ≠ some (.frz o u) := by rw [m6, ea]; simp
                      have fw := S7.frW (o := .dK (L2.putK acc k' yv)) hn nz
                      have Sw : Sim K μ7 (h7.set h1.length (.dct (putKS kv v l))) (upd H7 (μ7 h1.length) (.dK (L2.putK acc k' yv))) := S7.write hn nz ⟨_, rfl, RSk.put_ ek (r7.fr fw) (ra.fr fw)⟩
                      rw [m6] at fw Sw
                      refine ⟨acc, k', ey, ea, by rw [sizeLine_eq, ← ra.length]; exact blt_lt hz.2, μ7, h7.set h1.length (.dct (putKS kv v l)), ?_, m6, by rw [List.length_set]; exact hn, Sw, ?_, ?_⟩
                      · rw [List.length_set]; exact (((f3.trans f5).trans f6).trans f7).trans fw
                      · rw [List.length_set]; exact (((st3.fr f5).fr f6).fr f7).fr fw
                      · rw [List.length_set]; exact Post.fr (((f5.trans f6).trans f7).trans fw) p3
                    · exact p3.elim
                  · exact p3.elim
          | _ => exact p3.elim
    · have ei : i = xs.length := by omega
      subst ei
      rw [List.drop_length] at p2
      refine .inl ⟨wk.stop _ (Nat.le_refl _) μ2 h2.length H' f2, ?_⟩
      have := p2 μ2 H' (.ref (μ2 h1.length)) Fr.refl S2 (.one (.ref _ hl2))
      rw [eD] at this
      exact this
theorem e_dcT {scope : Scope} {own : List (Str × Nat)} (hc : X.calm = true) (hN : X.N.Nodup) (hi : PIs G X tg iter it) (ok : BlkOk X.N X.env.scope scope own) (hsl : ∀ i ∈ slots t, i ∈ own.map (·.2))
    (hg : ∀ (s : Shared) (H : Hp) (C : Addr) (cl : List (Str × Addr)) (fp : List Addr), PG (X.blk s H scope (compEnvC scope cl C X.env) fp) tg (gS ⟨X.K, G⟩ t)) (ht : ∀ (s : Shared) (H : Hp) (C : Addr) (cl : List (Str × Addr)) (fp : List Addr), L2.PTs (X.blk s H scope (compEnvC scope cl C X.env) fp) ifs (rdT ⟨X.K, G⟩ c W0))
    (hk : ∀ (s : Shared) (H : Hp) (C : Addr) (cl : List (Str × Addr)) (fp : List Addr), PEs G (X.blk s H scope (compEnvC scope cl C X.env) fp) kx mk)
    (he : ∀ (s : Shared) (H : Hp) (C : Addr) (cl : List (Str × Addr)) (fp : List Addr), PEs G (X.blk s H scope (compEnvC scope cl C X.env) fp) vx mv) (hs : ∀ x, foldedSetIterable iter X.env x = pure x := by intro _; rfl) :
    PEs G X (.DictComp kx vx [⟨tg, iter, ifs, 0⟩] scope pos) (mDcT it t c mk mv (own.map (·.2))) :=
  ⟨fun W tk => wkPE (pe_dc hc hN (hi.run W tk) ok hg ht (fun s H C cl fp => (hk s H C cl fp).run W0 tk0) (fun s H C cl fp => (he s H C cl fp).run W0 tk0) hs) fun σ H Q x => rd_dc hsl x⟩
end
end EV

/-! EV12: built-in functions, isinstance, range, enumerate, zip. -/
namespace EV
open PySem PySem.Spec PyProof.Rows L2

/-- f(..), what it gives by values -/
def mB (F : SHp → List SV → Option SV) (ms : List M) : M := argsM ms fun vs _ h => ofO h (F h vs)
section
variable {X : Cx} {G : Nat → Addr} {F : SHp → List SV → Option SV} {x : Str} {p pos : Pos} {e : Expr} {es : List Expr} {ms : List M} {id T : String}
theorem rd_b {K : KG} {W : WX} {σ : L2.St} {H : Hp} {Q : VK} (y : rd K (mB F ms) W σ H Q) : tAs K W ms σ H fun Vs H' => rvL K F Vs H' Q := tAs_imp (rd_args y) fun Vs H1 z => rdL_v z
theorem e_callB (hc : CallR X (.builtin id) (rvL ⟨X.K, G⟩ F)) (hg : Gl X x) (hm : X.mg x = none) (hv : bootBuiltins x = some (.builtin id)) (ha : PAs G X (e :: es) ms) (hn : x ≠ "__name__" := by decide) (hdb : (x == ("__debug__" : Str)) = false := by decide)
    (he : starEach (e :: es) X.env = (false, eval e X.env) :: starEach es X.env := by rfl) (hpl : (backTo pos (starEach es X.env)).any (·.1) = false := by rfl) : PEs G X (.Call (.Name x p) (e :: es) [] pos) (mB F ms) :=
  ⟨fun W tk => wkPE (pe_callB hc hg hm hv (ha.run W tk) hn hdb he hpl) fun σ H Q y => rd_b y⟩
theorem e_callTy (hc : CallR X (.type T) (rvL ⟨X.K, G⟩ F)) (hg : Gl X x) (hm : X.mg x = none) (hv : bootBuiltins x = some (.type T)) (ha : PAs G X (e :: es) ms) (hn : x ≠ "__name__" := by decide) (hdb : (x == ("__debug__" : Str)) = false := by decide)
    (he : starEach (e :: es) X.env = (false, eval e X.env) :: starEach es X.env := by rfl) (hpl : (backTo pos (starEach es X.env)).any (·.1) = false := by rfl) : PEs G X (.Call (.Name x p) (e :: es) [] pos) (mB F ms) :=
  ⟨fun W tk => wkPE (pe_callTy hc hg hm hv (ha.run W tk) hn hdb he hpl) fun σ H Q y => rd_b y⟩
end
section
variable {K : KG} {μ : Nat → Addr} {n : Nat} {H : Hp}
theorem rss1 {x : SV} {vs : List V} (r : RSs K μ n H [x] vs) : ∃ v, vs = [v] ∧ RS K μ n H x v := by
  cases r with
  | cons r t => cases t; exact ⟨_, rfl, r⟩
theorem rss2 {x y : SV} {vs : List V} (r : RSs K μ n H [x, y] vs) : ∃ v w, vs = [v, w] ∧ RS K μ n H x v ∧ RS K μ n H y w := by
  cases r with
  | cons r t =>
    obtain ⟨w, e, r2⟩ := rss1 t
    subst e
    exact ⟨_, w, rfl, r, r2⟩
end
/-- len -/
def fLen (h : SHp) : List SV → Option SV
  | [x] => match drf h x with
    | .lst l => some (.int l.length)
    | .tup l => some (.int l.length)
    | .tupR l => some (.int l.length)
    | .str z => if lenOk z then some (.int z.length) else none
    | _ => none
  | _ => none
def allBl : List SV → Option Bool
  | [] => some true
  | .bl b :: r => (allBl r).map (b && ·)
  | _ => none
def anyBl : List SV → Option Bool
  | [] => some false
  | .bl b :: r => (anyBl r).map (b || ·)
  | _ => none
def fAll (h : SHp) : List SV → Option SV
  | [x] => match drf h x with
    | .lst l => (allBl l).map .bl
    | _ => none
  | _ => none
def fAny (h : SHp) : List SV → Option SV
  | [x] => match drf h x with
    | .lst l => (anyBl l).map .bl
    | _ => none
  | _ => none
def fInt (_ : SHp) : List SV → Option SV
  | [.int i] => some (.int i)
  | [.bl b] => some (.int (if b then 1 else 0))
  | _ => none
def fAbs (_ : SHp) : List SV → Option SV
  | [.int i] => some (.int (if i < 0 then -i else i))
  | _ => none
def fMax2 (_ : SHp) : List SV → Option SV
  | [.int i, .int j] => some (.int (if j > i then j else i))
  | _ => none
def fMin2 (_ : SHp) : List SV → Option SV
  | [.int i, .int j] => some (.int (if j < i then j else i))
  | _ => none
def fTupOf (h : SHp) : List SV → Option SV
  | [x] => match drf h x with
    | .lst l => if l.all isP then some (.tup l) else none
    | .tup l => some (.tup l)
    | _ => none
  | _ => none
def fLstOf (h : SHp) : List SV → Option SV
  | [x] => match drf h x with
    | .lst l => if l.all isP then some (.lst l) else none
    | .tup l => some (.lst l)
    | _ => none
  | _ => none
section
variable {X : Cx} {G : Nat → Addr}
theorem c_len : CallR X (.builtin "len") (rvL ⟨X.K, G⟩ fLen) := by
  intro pins s σ H Vs us Q I r ⟨μ, h, xs, z, S, rs, e, q⟩
  unfold fLen at e
  split at e
  · rename_i x
    obtain ⟨v, ev, r1⟩ := rss1 rs
    subst ev
    split at e
    · rename_i l hl
      cases e
      obtain ⟨a, vs, rfl, h1, h2⟩ := drf_lst S hl r1
      exact call_len pins s σ H _ us Q I r ⟨_, l.length, rfl, .inl ⟨vs, h1, h2.length⟩, q μ H _ Fr.refl S (.of (.int _))⟩
    · rename_i l hl
      cases e
      obtain ⟨a, vs, rfl, h1, h2⟩ := drf_tup hl r1
      exact call_len pins s σ H _ us Q I r ⟨_, l.length, rfl, .inr ⟨vs, h1, h2.length⟩, q μ H _ Fr.refl S (.of (.int _))⟩
    · rename_i l hl
      cases e
      cases drf_ne hl (fun _ z => nomatch z) (fun _ z => nomatch z) (fun _ z => nomatch z) (fun _ _ z => nomatch z)
      obtain ⟨a, vs, rfl, h1, h2⟩ := r1.tupR_
      exact call_len pins s σ H _ us Q I r ⟨_, l.length, rfl, .inr ⟨vs, h1, h2.rs.length⟩, q μ H _ Fr.refl S (.of (.int _))⟩
    · rename_i w hl
      split at e
      · rename_i hz
        cases e
        cases drf_str hl r1
        exact call_len pins s σ H _ us Q I r ⟨_, w.length, rfl, ⟨by rw [toS_length]; exact lenOk_le hz, by rw [toS_length]⟩, q μ H _ Fr.refl S (.of (.int _))⟩
      · cases e
    · cases e
  · cases e
theorem allBl_ok {K : KG} {T : Addr → Prop} {H : Hp} : ∀ {l : List SV} {vs : List V} {b : Bool}, RPs K T H l vs → allBl l = some b → ∃ bs : List Bool, vs = bs.map V.bl ∧ bs.all id = b
  | [], _, _, .nil, e => by simp [allBl] at e; subst e; exact ⟨[], rfl, rfl⟩
  | v :: l, _, b, .cons r t, e => by
    cases v <;> simp only [allBl, Option.map_eq_some_iff, reduceCtorEq] at e
    rename_i c
    obtain ⟨d, e1, e2⟩ := e
    obtain ⟨bs, h1, h2⟩ := allBl_ok t e1
    cases r
    exact ⟨c :: bs, by simp [h1], by simp [h2, ← e2]⟩
theorem anyBl_ok {K : KG} {T : Addr → Prop} {H : Hp} : ∀ {l : List SV} {vs : List V} {b : Bool}, RPs K T H l vs → anyBl l = some b → ∃ bs : List Bool, vs = bs.map V.bl ∧ bs.any id = b
  | [], _, _, .nil, e => by simp [anyBl] at e; subst e; exact ⟨[], rfl, rfl⟩
  | v :: l, _, b, .cons r t, e => by
    cases v <;> simp only [anyBl, Option.map_eq_some_iff, reduceCtorEq] at e
    rename_i c
    obtain ⟨d, e1, e2⟩ := e
    obtain ⟨bs, h1, h2⟩ := anyBl_ok t e1
    cases r
    exact ⟨c :: bs, by simp [h1], by simp [h2, ← e2]⟩
theorem allBl_pure : ∀ {l : List SV} {b : Bool}, allBl l = some b → l.all isP = true
  | [], _, _ => rfl
  | v :: l, b, e => by
    cases v <;> simp only [allBl, Option.map_eq_some_iff, reduceCtorEq] at e
    obtain ⟨d, e1, e2⟩ := e
    simp [isP, allBl_pure e1]
theorem anyBl_pure : ∀ {l : List SV} {b : Bool}, anyBl l = some b → l.all isP = true
  | [], _, _ => rfl
  | v :: l, b, e => by
    cases v <;> simp only [anyBl, Option.map_eq_some_iff, reduceCtorEq] at e
    obtain ⟨d, e1, e2⟩ := e
    simp [isP, anyBl_pure e1]
theorem c_all (hc : X.calm = true) : CallR X (.builtin "all") (rvL ⟨X.K, G⟩ fAll) := by
  intro pins s σ H Vs us Q I r ⟨μ, h, xs, z, S, rs, e, q⟩
  unfold fAll at e
  split at e
  · obtain ⟨v, ev, r1⟩ := rss1 rs
    subst ev
    split at e
    · rename_i l hl
      simp only [Option.map_eq_some_iff] at e
      obtain ⟨b, e1, e2⟩ := e
      subst e2
      obtain ⟨a, vs, rfl, h1, h2⟩ := drf_lst S hl r1
      obtain ⟨bs, h3, h4⟩ := allBl_ok (h2.pure_ (allBl_pure e1)) e1
      subst h3
      refine cr_all hc pins s σ H _ us Q I r ⟨a, bs, rfl, h1, ?_⟩
      rw [h4]
      exact q μ H _ Fr.refl S (.of (.bl _))
    · cases e
  · cases e
theorem c_any (hc : X.calm = true) : CallR X (.builtin "any") (rvL ⟨X.K, G⟩ fAny) := by
  intro pins s σ H Vs us Q I r ⟨μ, h, xs, z, S, rs, e, q⟩
  unfold fAny at e
  split at e
  · obtain ⟨v, ev, r1⟩ := rss1 rs
    subst ev
    split at e
    · rename_i l hl
      simp only [Option.map_eq_some_iff] at e
      obtain ⟨b, e1, e2⟩ := e
      subst e2
      obtain ⟨a, vs, rfl, h1, h2⟩ := drf_lst S hl r1
      obtain ⟨bs, h3, h4⟩ := anyBl_ok (h2.pure_ (anyBl_pure e1)) e1
      subst h3
      refine cr_any hc pins s σ H _ us Q I r ⟨a, bs, rfl, h1, ?_⟩
      rw [h4]
      exact q μ H _ Fr.refl S (.of (.bl _))
    · cases e
  · cases e
theorem c_int : CallR X (.type "int") (rvL ⟨X.K, G⟩ fInt) := by
  intro pins s σ H Vs us Q I r ⟨μ, h, xs, z, S, rs, e, q⟩
  unfold fInt at e
  split at e
  · rename_i i
    cases e
    obtain ⟨v, ev, r1⟩ := rss1 rs
    subst ev
    cases r1.int_
    exact call_int1 pins s σ H _ us Q I r (.inl ⟨i, rfl, q μ H _ Fr.refl S (.of (.int _))⟩)
  · rename_i b
    cases e
    obtain ⟨v, ev, r1⟩ := rss1 rs
    subst ev
    cases r1.bl_
    exact call_int1 pins s σ H _ us Q I r (.inr ⟨b, rfl, q μ H _ Fr.refl S (.of (.int _))⟩)
  · cases e
theorem c_abs : CallR X (.builtin "abs") (rvL ⟨X.K, G⟩ fAbs) := by
  intro pins s σ H Vs us Q I r ⟨μ, h, xs, z, S, rs, e, q⟩
  unfold fAbs at e
  split at e
  · rename_i i
    cases e
    obtain ⟨v, ev, r1⟩ := rss1 rs
    subst ev
    cases r1.int_
    exact call_abs pins s σ H _ us Q I r ⟨i, rfl, q μ H _ Fr.refl S (.of (.int _))⟩
  · cases e
theorem c_max2 (hc : X.calm = true) : CallR X (.builtin "max") (rvL ⟨X.K, G⟩ fMax2) := by
  intro pins s σ H Vs us Q I r ⟨μ, h, xs, z, S, rs, e, q⟩
  unfold fMax2 at e
  split at e
  · cases e
    obtain ⟨v, w, ev, r1, r2⟩ := rss2 rs
    subst ev
    cases r1.int_; cases r2.int_
    exact call_max2 hc pins s σ H _ us Q I r ⟨_, _, rfl, q μ H _ Fr.refl S (.of (.int _))⟩
  · cases e
theorem c_min2 (hc : X.calm = true) : CallR X (.builtin "min") (rvL ⟨X.K, G⟩ fMin2) := by
  intro pins s σ H Vs us Q I r ⟨μ, h, xs, z, S, rs, e, q⟩
  unfold fMin2 at e
  split at e
  · cases e
    obtain ⟨v, w, ev, r1, r2⟩ := rss2 rs
    subst ev
    cases r1.int_; cases r2.int_
    exact call_min2 hc pins s σ H _ us Q I r ⟨_, _, rfl, q μ H _ Fr.refl S (.of (.int _))⟩
  · cases e
theorem c_tup : CallR X (.type "tuple") (rvL ⟨X.K, G⟩ fTupOf) := by
  intro pins s σ H Vs us Q I r ⟨μ, h, xs, z, S, rs, e, q⟩
  unfold fTupOf at e
  split at e
  · obtain ⟨v, ev, r1⟩ := rss1 rs
    subst ev
    split at e
    · rename_i l hl
      split at e
      · rename_i hp
        cases e
        obtain ⟨a, vs, rfl, h1, h2⟩ := drf_lst S hl r1
        exact call_tuple_of pins s σ H _ us Q I r ⟨a, vs, rfl, .inl ⟨h1, fun p hn => q μ _ _ (Fr.new hn) (S.new hn) (new_tup hn (h2.pure_ hp))⟩⟩
      · cases e
    · rename_i l hl
      cases e
      obtain ⟨a, vs, rfl, h1, h2⟩ := drf_tup hl r1
      exact call_tuple_of pins s σ H _ us Q I r ⟨a, vs, rfl, .inr ⟨h1, q μ H _ Fr.refl S (.of (.tup h1 h2))⟩⟩
    · cases e
  · cases e
theorem c_lst : CallR X (.type "list") (rvL ⟨X.K, G⟩ fLstOf) := by
  intro pins s σ H Vs us Q I r ⟨μ, h, xs, z, S, rs, e, q⟩
  unfold fLstOf at e
  split at e
  · obtain ⟨v, ev, r1⟩ := rss1 rs
    subst ev
    split at e
    · rename_i l hl
      split at e
      · rename_i hp
        cases e
        obtain ⟨a, vs, rfl, h1, h2⟩ := drf_lst S hl r1
        exact call_list_of pins s σ H _ us Q I r ⟨a, vs, rfl, .inl h1, fun p hn => q μ _ _ (Fr.new hn) (S.new hn) (new_lst S hn (h2.pure_ hp))⟩
      · cases e
    · rename_i l hl
      cases e
      obtain ⟨a, vs, rfl, h1, h2⟩ := drf_tup hl r1
      exact call_list_of pins s σ H _ us Q I r ⟨a, vs, rfl, .inr h1, fun p hn => q μ _ _ (Fr.new hn) (S.new hn) (new_lst S hn h2)⟩
    · cases e
  · cases e
end

/-! ### range, enumerate, zip as what is walked -/
def argsI : List M → (List SV → SHp → RI) → MI
  | [], k => fun _ h => k [] h
  | m :: ms, k => fun σ h => match m σ h with
    | .val v h' => argsI ms (fun vs => k (v :: vs)) σ h'
    | .exc C f h' => .exc C f h'
    | .bad => .bad
def rdLI (K : KG) (k : List SV → SHp → RI) (Vs : List V) (W : WX) (σ : L2.St) (H : Hp) (Q : It → Hp → Prop) : Prop := ∃ μ h xs, Sim K μ h H ∧ RSs K μ h.length H xs Vs ∧ PostI K μ h.length H (k xs h) Q (WE W σ)
theorem rd_argsI {K : KG} {W : WX} {σ : L2.St} {Q : It → Hp → Prop} : ∀ {ms : List M} {k : List SV → SHp → RI} {Us : List V} {us : List SV} {H : Hp} {μ : Nat → Addr} {σs : SSt} {h : SHp}, Sim K μ h H → RSt K μ h.length H σs σ → RSs K μ h.length H us Us → PostI K μ h.length H (argsI ms (fun vs => k (us ++ vs)) σs h) Q (WE W σ) →
    tAs K W ms σ H fun Vs H' => rdLI K k (Us ++ Vs) W σ H' Q
  | [], k, Us, us, H, μ, σs, h, S, st, r, p => by
    show rdLI K k (Us ++ []) W σ H Q
    rw [List.append_nil]
    exact ⟨μ, h, us, S, r, by simpa [argsI] using p⟩
  | m :: ms, k, Us, us, H, μ, σs, h, S, st, r, p => by
    refine ⟨μ, σs, h, S, st, ?_⟩
    unfold argsI at p
    cases e : m σs h with
    | bad => rw [e] at p; exact p
    | exc C fs h' => rw [e] at p; exact p
    | val v h' =>
      rw [e] at p
      intro μ' H' V f S' r'
      have e2 : (fun vs => k (us ++ v :: vs)) = fun vs => k ((us ++ [v]) ++ vs) := by funext vs; rw [List.append_assoc] <;> rfl
      simp only at p
      rw [e2] at p
      have := rd_argsI (k := k) S' (st.fr f) (RSs.snoc r' (r.fr f)) (PostI.fr f p)
      refine tAs_imp this fun Vs H'' z => ?_
      rw [List.append_assoc] at z
      exact z
def rngS (i : Int) : Nat → List SV
  | 0 => []
  | n + 1 => .int i :: rngS (i + 1) n
theorem rngS_get {i : Int} : ∀ {n j : Nat} {x : SV}, (rngS i n)[j]? = some x → j < n ∧ x = .int (i + j)
  | 0, j, x, e => by simp [rngS] at e
  | n + 1, 0, x, e => by simp [rngS] at e; subst e; simp
  | n + 1, j + 1, x, e => by
    have := rngS_get (i := i + 1) (n := n) (j := j) (x := x) (by simpa [rngS] using e)
    refine ⟨by omega, ?_⟩
    rw [this.2]
    congr 1
    omega
theorem rngS_len {i : Int} : ∀ {n : Nat}, (rngS i n).length = n
  | 0 => rfl
  | n + 1 => by simp [rngS, rngS_len]
theorem walk_rng {K : KG} {μ : Nat → Addr} {n : Nat} {H : Hp} {i : Int} {k : Nat} : WalkS K μ n H (Itr i k) (rngS i k) where
  go := fun j x e μ' n' H' f => by
    obtain ⟨h1, h2⟩ := rngS_get e
    refine ⟨h1, fun w H'' ⟨eH, ew⟩ => ?_⟩
    subst eH ew h2
    exact ⟨.inl rfl, .of (.int _)⟩
  stop := fun j hj μ' n' H' f => by
    rw [rngS_len] at hj
    exact hj
def in62 (i : Int) : Bool := decide (-(2 ^ 62) ≤ i) && decide (i < 2 ^ 62)
def mRng1 (a : M) : MI := argsI [a] fun vs h => match vs with
  | [.int j] => if in62 j then .its (rngS 0 j.toNat) h else .bad
  | _ => .bad
def mRng2 (a b : M) : MI := argsI [a, b] fun vs h => match vs with
  | [.int i, .int j] => if in62 i && in62 j then .its (rngS i (j - i).toNat) h else .bad
  | _ => .bad
def enS (i : Nat) : List SV → List SV
  | [] => []
  | x :: r => .tup [.int i, x] :: enS (i + 1) r
def mEnum (a : M) : MI := argsI [a] fun vs h => match vs with
  | [.lst l] => .its (enS 0 l) h
  | _ => .bad
def zpS : List SV → List SV → List SV
  | x :: r, y :: s => .tup [x, y] :: zpS r s
  | _, _ => []
def mZip (a b : M) : MI := argsI [a, b] fun vs h => match vs with
  | [.lst l, .lst k] => .its (zpS l k) h
  | [.tup l, .tup k] => .its (zpS l k) h
  | _ => .bad
section
variable {K : KG} {μ : Nat → Addr} {n : Nat} {H : Hp}
theorem enS_get {l : List SV} : ∀ {i j : Nat} {x : SV}, (enS i l)[j]? = some x → ∃ y, l[j]? = some y ∧ x = .tup [.int ((i + j : Nat) : Int), y] := by
  induction l with
  | nil => intro i j x e; simp [enS] at e
  | cons a r ih =>
    intro i j x e
    cases j with
    | zero => simp [enS] at e; subst e; exact ⟨a, rfl, rfl⟩
    | succ j =>
      obtain ⟨y, h1, h2⟩ := ih (i := i + 1) (j := j) (x := x) (by simpa [enS] using e)
      refine ⟨y, by simpa using h1, ?_⟩
      rw [h2, show i + 1 + j = i + (j + 1) from by omega]
theorem enS_len {l : List SV} : ∀ {i : Nat}, (enS i l).length = l.length := by
  induction l with
  | nil => intro i; rfl
  | cons a r ih => intro i; simp [enS, ih]
theorem zpS_get {l : List SV} : ∀ {k : List SV} {j : Nat} {x : SV}, (zpS l k)[j]? = some x → ∃ y z, l[j]? = some y ∧ k[j]? = some z ∧ x = .tup [y, z] := by
  induction l with
  | nil => intro k j x e; cases k <;> simp [zpS] at e
  | cons a r ih =>
    intro k j x e
    cases k with
    | nil => simp [zpS] at e
    | cons b s =>
      cases j with
      | zero => simp [zpS] at e; subst e; exact ⟨a, b, rfl, rfl, rfl⟩
      | succ j =>
        obtain ⟨y, z, h1, h2, h3⟩ := ih (k := s) (j := j) (x := x) (by simpa [zpS] using e)
        exact ⟨y, z, by simpa using h1, by simpa using h2, h3⟩
theorem zpS_len {l : List SV} : ∀ {k : List SV}, (zpS l k).length = min l.length k.length := by
  induction l with
  | nil => intro k; cases k <;> simp [zpS]
  | cons a r ih =>
    intro k
    cases k with
    | nil => simp [zpS]
    | cons b s => simp [zpS, ih]
theorem new_tup' {p : Addr} {l : List SV} {vs : List L2.V} (hp : H p = none) (r : RPs K (Tr μ n) H l vs) : RS K μ n (upd H p (.tup vs)) (.tup l) (.ref p) := .of (.tup (.inl (.inl upd_same)) (r.fr (Fr.new hp)))
theorem walk_enum {a : Addr} {vs : List V} {l : List SV} (r : RPs K (Tr μ n) H l vs) (k : ∀ μ' n' H', EV.Fr μ n H μ' n' H' → SqL K.K H' a vs) : WalkS K μ n H (Ite K.K a) (enS 0 l) where
  go := fun i x e μ' n' H' f => by
    obtain ⟨y, e1, e2⟩ := enS_get e
    subst e2
    obtain ⟨w, e3, r3⟩ := r.get e1
    refine ⟨⟨vs, w, k _ _ _ f, e3⟩, fun w' H'' ⟨T, x', ew, hT, eH, z⟩ => ?_⟩
    subst ew eH
    have := z vs (k _ _ _ f)
    rw [e3] at this
    cases this
    refine ⟨.inr ⟨T, _, hT, rfl⟩, new_tup' hT (.cons ?_ (.cons (r3.fr f) .nil))⟩
    rw [Nat.zero_add]
    exact .int _
  stop := fun i hi μ' n' H' f => ⟨vs, k _ _ _ f, by rw [← r.length]; rw [enS_len] at hi; exact hi⟩
theorem walk_zip {a b : Addr} {vs ws : List V} {l k : List SV} (r : RPs K (Tr μ n) H l vs) (r' : RPs K (Tr μ n) H k ws) (h1 : ∀ μ' n' H', EV.Fr μ n H μ' n' H' → SqL K.K H' a vs) (h2 : ∀ μ' n' H', EV.Fr μ n H μ' n' H' → SqL K.K H' b ws) : WalkS K μ n H (Itz K.K a b) (zpS l k) where
  go := fun i x e μ' n' H' f => by
    obtain ⟨y, y', e1, e1', e2⟩ := zpS_get e
    subst e2
    obtain ⟨w, e3, r3⟩ := r.get e1
    obtain ⟨w', e3', r3'⟩ := r'.get e1'
    refine ⟨⟨vs, ws, w, w', h1 _ _ _ f, h2 _ _ _ f, e3, e3'⟩, fun w2 H'' ⟨T, x', y2, ew, hT, eH, z, z'⟩ => ?_⟩
    subst ew eH
    have q := z vs (h1 _ _ _ f)
    have q' := z' ws (h2 _ _ _ f)
    rw [e3] at q
    rw [e3'] at q'
    cases q; cases q'
    exact ⟨.inr ⟨T, _, hT, rfl⟩, new_tup' hT (.cons (r3.fr f) (.cons (r3'.fr f) .nil))⟩
  stop := fun i hi μ' n' H' f => ⟨vs, ws, h1 _ _ _ f, h2 _ _ _ f, by rw [← r.length, ← r'.length]; rw [zpS_len] at hi; omega⟩
theorem walk_zipT {a b : Addr} {vs ws : List V} {l k : List SV} (r : RPs K (Tr μ n) H l vs) (r' : RPs K (Tr μ n) H k ws) (h1 : SqT K.K H a vs) (h2 : SqT K.K H b ws) : WalkS K μ n H (RZ.ItzT K.K a b) (zpS l k) where
  go := fun i x e μ' n' H' f => by
    obtain ⟨y, y', e1, e1', e2⟩ := zpS_get e
    subst e2
    obtain ⟨w, e3, r3⟩ := r.get e1
    obtain ⟨w', e3', r3'⟩ := r'.get e1'
    refine ⟨⟨vs, ws, w, w', sqT_fr f.tup h1, sqT_fr f.tup h2, e3, e3'⟩, fun w2 H'' ⟨T, x', y2, ew, hT, eH, z, z'⟩ => ?_⟩
    subst ew eH
    have q := z vs (sqT_fr f.tup h1)
    have q' := z' ws (sqT_fr f.tup h2)
    rw [e3] at q
    rw [e3'] at q'
    cases q; cases q'
    exact ⟨.inr ⟨T, _, hT, rfl⟩, new_tup' hT (.cons (r3.fr f) (.cons (r3'.fr f) .nil))⟩
  stop := fun i hi μ' n' H' f => ⟨vs, ws, sqT_fr f.tup h1, sqT_fr f.tup h2, by rw [← r.length, ← r'.length]; rw [zpS_len] at hi; omega⟩
theorem RS.lstF {l : List SV} {V1 : V} (r : RS K μ n H (.lst l) V1) : ∃ a vs, V1 = .ref a ∧ SqL K.K H a vs ∧ RPs K (Tr μ n) H l vs ∧ ∀ μ' n' H', EV.Fr μ n H μ' n' H' → SqL K.K H' a vs := by
  cases r with | one r => cases r with | pure r => cases r with
    | lst h t r => exact ⟨_, _, rfl, .inl h, r, fun μ' n' H' f => .inl (f.rd _ _ h t)⟩
end
section
variable {X : Cx} {G : Nat → Addr} {tg a b : Expr} {ma mb : M} {p pos tpos : Pos} {elts : List Expr} {kk : Nat}
theorem rdI_args {K : KG} {W : WX} {σ : L2.St} {H : Hp} {Q : It → Hp → Prop} {ms : List M} {k : List SV → SHp → RI} (x : rdI K (argsI ms k) W σ H Q) : tAs K W ms σ H fun Vs H' => rdLI K k Vs W σ H' Q := by
  obtain ⟨μ, σs, h, S, st, p⟩ := x
  exact rd_argsI (Us := []) (us := []) S st .nil p
theorem wkPI {tg e : Expr} {t t' : TI} (h : PI X tg e t) (w : ∀ σ H Q, t' σ H Q → t σ H Q) : PI X tg e t' := ⟨fun pins s σ H R I q => h.run pins s σ H R I (w σ H R q)⟩
theorem in62_ok {i : Int} (h : in62 i = true) : -(2 ^ 62) ≤ i ∧ i < 2 ^ 62 := by
  unfold in62 at h; simp only [Bool.and_eq_true, decide_eq_true_eq] at h; exact h
theorem i_rng1 (hg : Gl X "range") (hm : X.mg "range" = none) (ha : PAs G X [a] [ma]) (hs : starEach [a] X.env = [(false, eval a X.env)] := by rfl) : PIs G X tg (.Call (.Name "range" p) [a] [] pos) (mRng1 ma) :=
  ⟨fun W tk => wkPI (pi_range1 hg hm (ha.run W tk) hs) fun σ H Q x => tAs_imp (rdI_args x) fun Vs H1 ⟨μ, h, xs, S, r, p⟩ => by
    (try dsimp only at p)
    split at p
    · rename_i j
      split at p
      · rename_i hj
        obtain ⟨v, e, r1⟩ := rss1 r
        subst e
        cases r1.int_
        obtain ⟨h1, h2⟩ := in62_ok hj
        exact ⟨j, rfl, h1, h2, p μ H1 _ Fr.refl S walk_rng⟩
      · exact p.elim
    · exact p.elim⟩
theorem i_rng2 (hg : Gl X "range") (hm : X.mg "range" = none) (ha : PAs G X [a, b] [ma, mb]) (hs : starEach [a, b] X.env = [(false, eval a X.env), (false, eval b X.env)] := by rfl) (hs2 : starEach [b] X.env = [(false, eval b X.env)] := by rfl) : PIs G X tg (.Call (.Name "range" p) [a, b] [] pos) (mRng2 ma mb) :=
  ⟨fun W tk => wkPI (pi_range2 hg hm (ha.run W tk) hs hs2) fun σ H Q x => tAs_imp (rdI_args x) fun Vs H1 ⟨μ, h, xs, S, r, p⟩ => by
    (try dsimp only at p)
    split at p
    · rename_i i j
      split at p
      · rename_i hj
        simp only [Bool.and_eq_true] at hj
        obtain ⟨v, w, e, r1, r2⟩ := rss2 r
        subst e
        cases r1.int_; cases r2.int_
        obtain ⟨h1, h2⟩ := in62_ok hj.1
        obtain ⟨h3, h4⟩ := in62_ok hj.2
        exact ⟨i, j, rfl, ⟨h1, h2, h3, h4⟩, p μ H1 _ Fr.refl S walk_rng⟩
      · exact p.elim
    · exact p.elim⟩
theorem i_enum (hg : Gl X "enumerate") (hm : X.mg "enumerate" = none) (ha : PAs G X [a] [ma]) (hs : starEach [a] X.env = [(false, eval a X.env)] := by rfl) : PIs G X (.Tuple elts kk tpos) (.Call (.Name "enumerate" p) [a] [] pos) (mEnum ma) :=
  ⟨fun W tk => wkPI (pi_enum hg hm (ha.run W tk) hs) fun σ H Q x => tAs_imp (rdI_args x) fun Vs H1 ⟨μ, h, xs, S, r, p⟩ => by
    (try dsimp only at p)
    split at p
    · rename_i l
      obtain ⟨v, e, r1⟩ := rss1 r
      subst e
      obtain ⟨a, vs, rfl, h1, h2, h3⟩ := r1.lstF
      exact ⟨a, vs, rfl, h1, p μ H1 _ Fr.refl S (walk_enum h2 h3)⟩
    · exact p.elim⟩
theorem i_zip (hg : Gl X "zip") (hm : X.mg "zip" = none) (ha : PAs G X [a, b] [ma, mb]) (hs : starEach [a, b] X.env = (false, eval a X.env) :: starEach [b] X.env := by rfl) (hpl : (backTo pos (starEach [b] X.env)).any (·.1) = false := by rfl) :
    PIs G X (.Tuple elts kk tpos) (.Call (.Name "zip" p) [a, b] [] pos) (mZip ma mb) :=
  ⟨fun W tk => wkPI (RZ.pi_zipA hg hm (ha.run W tk) hs hpl) fun σ H Q x => tAs_imp (rdI_args x) fun Vs H1 ⟨μ, h, xs, S, r, p⟩ => by
    (try dsimp only at p)
    split at p
    · obtain ⟨v, w, e, r1, r2⟩ := rss2 r
      subst e
      obtain ⟨a, vs, rfl, h1, h2, h3⟩ := r1.lstF
      obtain ⟨b, ws, rfl, k1, k2, k3⟩ := r2.lstF
      exact ⟨a, b, vs, ws, rfl, .inl ⟨h1, k1, p μ H1 _ Fr.refl S (walk_zip h2 k2 h3 k3)⟩⟩
    · obtain ⟨v, w, e, r1, r2⟩ := rss2 r
      subst e
      obtain ⟨a, vs, rfl, h1, h2⟩ := r1.tup_
      obtain ⟨b, ws, rfl, k1, k2⟩ := r2.tup_
      exact ⟨a, b, vs, ws, rfl, .inr ⟨h1, k1, p μ H1 _ Fr.refl S (walk_zipT h2 k2 h1 k1)⟩⟩
    · exact p.elim⟩
end
end EV

/-! EV13: own exceptions held as values; isinstance. -/
namespace PySem.W
open PySem PySem.Spec PySem.Calls PyProof.Rows
section
variable {prog : Program} {w : World} {A : Around} {E : Value → Shared → Prop} {s : Shared} {K : Frag} {x D : Addr} {ox od : Obj}
theorem ev_classE {Q : Option Value → Shared → Prop} (hga : findIn K (.ref D) "__getattribute__" = some (some (.builtin "BaseException.__getattribute__"))) (hgt : findIn K (.ref D) "__getattr__" = some none) (hsub : subIn K (.ref D) (.type "BaseException") = some true)
    (hdct : hasDictIn K D = true) (ha : findIn K (.ref D) "__class__" = some (some (.builtin "object.__class__")))
    (hn : specialIn K (.builtin "object.__class__") "__get__" = some (some (.builtin "getset_descriptor.__get__"))) (htk : takesIn K (.builtin "object.__class__") = some true) (hm : mroIn K D (.type "object") = some true)
    (X : K.In s.heap) (I : InstAt s.heap x ox D (some od)) (h : Q (some (.ref D)) { s with toks := s.toks + 1 }) : wpAny (model prog w) A (getAttr? (.ref x) "__class__") Q E s := by
  have hf : findObj K D (some od) "__class__" = some (.bind (.builtin "getset_descriptor.__get__") (.builtin "object.__class__")) := findObj_data (by obtain ⟨cd, hc, _⟩ := any_some hdct; rw [hc]; rfl) ha hn htk
  obtain ⟨hp, g, d, t, os⟩ := s
  have L0 := I.type (M := model prog w)
  have L1 := looks_findIn (M := model prog w) X hga
  have L2 := looks_findIn (M := model prog w) X hgt
  have L3 := looks_find (M := model prog w) X I hf
  have sub : Looks (model prog w) hp (isInstance (.ref x) (.type "BaseException")) true := L0.andThen (looks_subIn X hsub)
  have hx0 : (false && onTheHeap (Value.builtin "BaseException.__getattribute__")) = false := rfl
  have hx2 : (Value.builtin "BaseException.__getattribute__" == Value.builtin "object.__getattribute__") = false := by decide +kernel
  have hx1 : (onTheHeap (Value.ref D) && Value.builtin "BaseException.__getattribute__" == Value.builtin "object.__getattribute__") = false := by rw [hx2]; rfl
  unfold getAttr? getAttrBy? getAttrBy
  refine wpAny_bind (wpAny_mkText (wpAny_bind (wpAny_attempt (wpAny_holding (wpAny_bind (L0.at (wpAny_bind (L1.at ?_))))))))
  show wpAny _ _ (if (onTheHeap (Value.ref D) && Value.builtin "BaseException.__getattribute__" == Value.builtin "object.__getattribute__") = true then _ else _) _ _ _
  rw [hx1, if_neg Bool.false_ne_true]
  unfold getAttrByItsOwn hookBefore
  refine wpAny_bind ?_
  rw [if_pos (show onTheHeap (Value.ref D) = true from rfl)]
  refine L2.at ?_
  refine wpAny_bind (wpAny_attempt (wpAny_holding ?_))
  unfold callGetattribute
  rw [hx0, if_neg Bool.false_ne_true]
  unfold boundAndCalled
  rw [PySem.F.excAttr_ValueError.ga.bind (.ref x)]
  refine wpAny_bind (wpAny_pure ?_)
  show wpAny _ _ (call (.builtin "BaseException.__getattribute__") [.ref x, .str "__class__" t]) _ _ _
  refine wpAny_call (codeAny_call_builtin PySem.F.excAttr_ValueError.ga.plain PySem.F.entry_bexc_ga ?_)
  refine @check_slot (model prog w) _ _ ⟨hp, g, d, t + 1, os⟩ "BaseException.__getattribute__" "BaseException" "__getattribute__" (.ref x) [.str "__class__" t] [] _ (by decide +kernel) (by decide +kernel) sub (PySem.F.args_bexc_ga (.ref x) (.str "__class__" t)) ?_
  unfold Builtin.«object.__getattribute__»
  refine wpAny_bind (wpAny_of_eq (a := ((Value.ref x : Value), [Value.str "__class__" t])) (by first | rfl | (simp only [slotArgs]; rfl)) ?_)
  refine wpAny_bind (wpAny_pure (wpAny_bind (L0.at (wpAny_bind (L3.at ?_)))))
  show wpAny _ _ (holding [Value.builtin "object.__class__"] (call (.builtin "getset_descriptor.__get__") [.builtin "object.__class__", .ref x, .ref D]) >>= ret) _ _ _
  refine wpAny_bind (wpAny_holding (wpAny_call (class_get (s := ⟨hp, g, d, t + 1, os⟩) (ox := ox) (od := some od) X I hm ?_)))
  refine wpAny_pure ?_
  show wpAny _ _ (handedOut (.ref D)) _ _ _
  rw [handedOut_of (v := .ref D) rfl]
  first
    | exact wpAny_pure (wpAny_pure h)
    | exact wpAny_pure h
    | exact wpAny_pure (wpAny_bind (wpAny_pure (wpAny_pure h)))
theorem ev_kitx_exc (hga : findIn K (.ref D) "__getattribute__" = some (some (.builtin "BaseException.__getattribute__"))) (hgt : findIn K (.ref D) "__getattr__" = some none) (hsub : subIn K (.ref D) (.type "BaseException") = some true) (hdct : hasDictIn K D = true) (ha : findIn K (.ref D) "__class__" = some (some (.builtin "object.__class__")))
    (hn : specialIn K (.builtin "object.__class__") "__get__" = some (some (.builtin "getset_descriptor.__get__"))) (htk : takesIn K (.builtin "object.__class__") = some true) (hm : mroIn K D (.type "object") = some true) :
    KitX K (.ref x) (.ref D) (fun h => InstAt h x ox D (some od)) where
  ty := fun _ _ _ I => I.type
  it := fun _ _ X _ => by
    obtain ⟨cdD, hcD, _⟩ := any_some hdct
    unfold clsIn at hcD
    split at hcD
    · rename_i c' d' cd' sl' ho
      intro A' Q' E' s' k q
      unfold isType loadHead
      exact wpAny_bind (wpAny_loadPart (k _ _ (X _ _ ho)) (wpAny_pure q))
    · cases hcD
  ne := fun h tp dd its n sl X htp => by
    obtain ⟨cdD, hcD, _⟩ := any_some hdct
    refine Bool.eq_false_iff.mpr fun q => ?_
    have e : D = tp := Value.ref.inj (beq_iff_eq.mp q)
    subst e
    unfold clsIn at hcD
    split at hcD
    · rename_i c' d' cd' sl' ho
      have z := (X _ _ ho).symm.trans htp
      cases z
    · cases hcD
  ca := fun X I k => ev_classE hga hgt hsub hdct ha hn htk hm X I k
end
end PySem.W
namespace EV
open PySem PySem.Spec PyProof.Rows L2

/-! ### the facts of an own exception class, by a test -/
def oexB (K : PySem.W.Frag) (C : Addr) : Bool := (match K.lookup C with
  | some ⟨.type "type", _, .cls cd, sl⟩ => (match cd.mro, sl.toList with
    | .ref C' :: bm, [_, _, _, _, some (.builtin n), _] => C' == C && n == "ValueError.__new__" && !cd.hasDel && cd.hasDict && PySem.HandSPX.refsVE bm
    | _, _ => false)
  | _ => false) && (decide (PySem.W.findIn K (.ref C) "__setattr__" = some (some (.builtin "object.__setattr__"))) && (decide (PySem.W.subIn K (.ref C) (.type "BaseException") = some true) && (decide (PySem.W.typeIn K (.ref C) = some (.type "type")) && PySem.W.keepIn K (.ref C))))
theorem oexB_ok {K : PySem.W.Frag} {C : Addr} (q : oexB K C = true) : OexC K C := by
  unfold oexB at q
  simp only [Bool.and_eq_true, decide_eq_true_eq] at q
  obtain ⟨q, h1, h2, h3, h4⟩ := q
  refine ⟨?_, h1, h2, h3, h4⟩
  split at q
  · rename_i dd cd sl ho
    split at q
    · rename_i C' bm k0 k1 k2 k3 n k5 hm hs
      simp only [Bool.and_eq_true, beq_iff_eq, Bool.not_eq_true'] at q
      obtain ⟨⟨⟨⟨rfl, rfl⟩, hdel⟩, hdict⟩, ht⟩ := q
      obtain ⟨nm, bs, mro, ns, qn, hd, sn, sub, ab, col, del⟩ := cd
      dsimp only at hm hdel hdict
      subst hm hdel hdict
      have hsl : sl = #[k0, k1, k2, k3, some (.builtin "ValueError.__new__"), k5] := by
        obtain ⟨l⟩ := sl
        simp only at hs
        rw [hs]
      subst hsl
      exact ⟨nm, qn, ns, bs, bm, sn, sub, ab, col, dd, k0, k1, k2, k3, k5, ho, ht⟩
    · cases q
  · cases q
def excB (K : PySem.W.Frag) (D : Addr) : Bool := decide (PySem.W.findIn K (.ref D) "__getattribute__" = some (some (.builtin "BaseException.__getattribute__"))) && (decide (PySem.W.findIn K (.ref D) "__getattr__" = some none) && (decide (PySem.W.subIn K (.ref D) (.type "BaseException") = some true) && (PySem.W.hasDictIn K D &&
  (decide (PySem.W.findIn K (.ref D) "__class__" = some (some (.builtin "object.__class__"))) && (decide (PySem.W.specialIn K (.builtin "object.__class__") "__get__" = some (some (.builtin "getset_descriptor.__get__"))) && (decide (PySem.W.takesIn K (.builtin "object.__class__") = some true) && decide (PySem.W.mroIn K D (.type "object") = some true)))))))
theorem excB_ok {K : PySem.W.Frag} {D : Addr} (q : excB K D = true) : ExcC K D := by
  unfold excB at q
  simp only [Bool.and_eq_true, decide_eq_true_eq] at q
  obtain ⟨h1, h2, h3, h4, h5, h6, h7, h8⟩ := q
  exact ⟨h1, h2, h3, h4, h5, h6, h7, h8⟩
/-- what an own plain class must say, so that isinstance asks its instances rightly -/
structure InsK (K : PySem.W.Frag) (C : Addr) : Prop where
  cl : Cls K C
  ha : PySem.W.findIn K (.ref C) "__class__" = some (some (.builtin "object.__class__"))
  hn : PySem.W.specialIn K (.builtin "object.__class__") "__get__" = some (some (.builtin "getset_descriptor.__get__"))
  htk : PySem.W.takesIn K (.builtin "object.__class__") = some true
  hm : PySem.W.mroIn K C (.type "object") = some true
def insB (K : PySem.W.Frag) (C : Addr) : Bool := PySem.W.plainGet K C Str.empty && (PySem.W.hasDictIn K C && (PySem.W.plainOver K C && (decide (PySem.W.findIn K (.ref C) "__setattr__" = some (some (.builtin "object.__setattr__"))) &&
  (decide (PySem.W.findIn K (.ref C) "__class__" = some (some (.builtin "object.__class__"))) && (decide (PySem.W.specialIn K (.builtin "object.__class__") "__get__" = some (some (.builtin "getset_descriptor.__get__"))) && (decide (PySem.W.takesIn K (.builtin "object.__class__") = some true) && decide (PySem.W.mroIn K C (.type "object") = some true)))))))
theorem insB_ok {K : PySem.W.Frag} {C : Addr} (q : insB K C = true) : InsK K C := by
  unfold insB at q
  simp only [Bool.and_eq_true, decide_eq_true_eq] at q
  obtain ⟨h1, h2, h3, h4, h5, h6, h7, h8⟩ := q
  exact ⟨⟨h1, h2, h3, h4⟩, h5, h6, h7, h8⟩

/-! ### the object -/
theorem RS.xo_ {K : KG} {μ : Nat → Addr} {n : Nat} {H : Hp} {V1 : L2.V} {C : Nat} {l : List (Cs × SV)} (r : RS K μ n H (.xo C l) V1) : ∃ a d fs, V1 = .ref a ∧ H a = some (exo a (K.G C) (some d)) ∧ H d = some (exd d fs) ∧ RPf K (Tr μ n) H l fs := by
  cases r with | one r => cases r with | pure r => cases r with | xo h h2 t t2 r => exact ⟨_, _, _, rfl, h, h2, r⟩
theorem xo_at {X : Cx} {pins : List (Addr × Obj)} {σ : L2.St} {H : Hp} {s : Shared} {a d C : Addr} {fs : List (Str × V)} (I : Inv X pins σ H s) (h : H a = some (exo a C (some d))) (h2 : H d = some (exd d fs)) :
    ∃ (ox od : Obj) (mA : Str → Option Value), PySem.W.InstAt s.heap a ox C (some od) ∧ (∀ name, PySem.W.lookIn name od = some (mA name)) ∧ ∀ f, RelO (fs.lookup f) (mA f) := by
  obtain ⟨t0, ho⟩ := exo_at I.hok h
  obtain ⟨mA, hn, r⟩ := exd_at I.hok h2
  obtain ⟨od, hod, hl⟩ := lookIn_ns hn
  exact ⟨_, od, mA, ⟨ho, rfl, rfl, hod⟩, hl, r⟩
/-- e.f -/
def mXf (cs : List Nat) (f : Cs) (a : M) : M := bnd a fun x _ h => match x with
  | .xo C fs => if cs.contains C then ofO h (lkF f fs) else .bad
  | _ => .bad
def XfOk (K : PySem.W.Frag) (G : Nat → Addr) (cs : List Nat) (f : Str) : Prop := ∀ C ∈ cs, ExcC K (G C) ∧ PySem.W.findIn K (.ref (G C)) f = some none
section
variable {X : Cx} {G : Nat → Addr} {e : Expr} {m : M} {pos : Pos}
theorem e_xf {cs : List Nat} {f : Str} {fc : Cs} (he : PEs G X e m) (hf : toS fc = f) (ok : XfOk X.K G cs f) (hb : attributeBase e f X.env (eval e X.env) = eval e X.env) : PEs G X (.Attribute e f pos) (mXf cs fc m) := by
  refine ⟨fun W tk => ⟨fun pins s σ H Q I x => ?_⟩⟩
  refine attr_of hb (thn ((he.run W tk).run pins s σ H _ I (rd_bnd x)) fun u s1 ⟨V1, H1, I1, r1, μ, σs, h, y, S, st, r, p⟩ => ?_)
  (try dsimp only at p)
  split at p
  · rename_i C fs
    (try dsimp only at p)
    split at p
    · rename_i hc
      obtain ⟨T, hno⟩ := ok C (by simpa using hc)
      obtain ⟨a, d, fs', ea, h1, h2, rf⟩ := r.xo_
      subst ea
      obtain rfl : u = Value.ref a := r1
      obtain ⟨ox, od, mA, J, hl, hr⟩ := xo_at I1 h1 h2
      obtain ⟨z, e2, q⟩ := ofO_post p
      rcases rf.rs.lk (f := fc) with ⟨e3, _⟩ | ⟨v, w, e3, e4, r4⟩
      · rw [e3] at e2; cases e2
      · rw [e3] at e2
        cases e2
        rw [hf] at e4
        obtain ⟨u, hu, ru⟩ := RelO.some_of (v := w) (o := mA f) (by rw [← e4]; exact hr f)
        exact HandSPX.exc_get I1.kIn J T.hg T.hk T.hs (PySem.W.findObj_own T.hd hno rfl (by rw [hl, hu])) (handed_of ru) ⟨w, H1, I1.tok _, ru, q μ H1 _ Fr.refl S r4⟩
    · exact p.elim
  · exact p.elim
end

/-! ### making one -/
/-- what its __init__ promises: the fields are its parameters -/
def spX (C : Addr) (fs : List Str) : Sp := fun vs H Q _ => ∃ a ws, vs = .ref a :: ws ∧ ws.length = fs.length ∧ H a = some (exo a C none) ∧ ∀ dx, H dx = none → dx ≠ a → Q .non (upd (upd H dx (exd dx ((fs.zip ws).reverse))) a (exo a C (some dx)))
section
variable {P : Program} {w : World} {K : PySem.W.Frag} {mg : Str → Option Value} {base : Heap} {k : Nat} {x qual f1 f2 : Str} {params : Arguments} {scope : Scope} {dvs : List L2.V} {kws : List (Str × L2.V)} {f : Addr} {fd : FuncData} {N ps : List Str} {C : Addr}
  {e1 o1 e2 o2 : Expr} {p1 p2 q1 q2 : Pos}
theorem fnX1 (F : FunD K x qual params [.Assign [.Attribute o1 f1 p1] e1 q1] scope dvs kws f fd) (S : FnScope N ps scope) (hl : ps.length = 2) (hN : N.length = 2) (T : OexC K C) (hno : PySem.W.findIn K (.ref C) f1 = some none)
    (ho : ∀ (cdv : Value) (A : Around) (outer : List Env) (s : Shared) (H : Hp) (E : XK), PE (cxOf (L2.CX P w) P w K mg base N qual scope f cdv A outer s H E) o1 (tVar 0))
    (he : ∀ (cdv : Value) (A : Around) (outer : List Env) (s : Shared) (H : Hp) (E : XK), PE (cxOf (L2.CX P w) P w K mg base N qual scope f cdv A outer s H E) e1 (tVar 1))
    (hs : ∀ env, swapsWith e1 (some (.Attribute o1 f1 p1)) q1.line env = pure false) :
    FnOk P w K mg base (L2.CX P w) (k + 1) f fd ps (spX C [f1]) :=
  F.ok S (fun vs H Q E ⟨a, ws, e, l, _⟩ => by subst e; simp [l, hl]) fun cdv A outer s H vs Q E hr h => by
    obtain ⟨a, ws, ev, l, ha, q⟩ := h
    subst ev
    obtain ⟨w1, rfl⟩ : ∃ w1, ws = [w1] := by
      match ws, l with
      | [w1], _ => exact ⟨w1, rfl⟩
    refine ⟨_, pss_one (ps_ost (ho cdv A outer s H E) (he cdv A outer s H E) (hs _)), ?_⟩
    have e0 : start N [V.ref a, w1] = [some (.ref a), some w1] := by
      show [V.ref a, w1].map some ++ List.replicate (N.length - 2) none = _
      rw [hN] <;> rfl
    rw [e0]
    refine ⟨w1, rfl, V.ref a, rfl, a, C, rfl, T, hno, .inl ⟨ha, fun dx h1 h2 => ?_⟩⟩
    exact q dx h1 h2
theorem fnX2 (F : FunD K x qual params [.Assign [.Attribute o1 f1 p1] e1 q1, .Assign [.Attribute o2 f2 p2] e2 q2] scope dvs kws f fd) (S : FnScope N ps scope) (hl : ps.length = 3) (hN : N.length = 3) (T : OexC K C) (hno : PySem.W.findIn K (.ref C) f1 = some none) (hno2 : PySem.W.findIn K (.ref C) f2 = some none)
    (ho : ∀ (cdv : Value) (A : Around) (outer : List Env) (s : Shared) (H : Hp) (E : XK), PE (cxOf (L2.CX P w) P w K mg base N qual scope f cdv A outer s H E) o1 (tVar 0))
    (he : ∀ (cdv : Value) (A : Around) (outer : List Env) (s : Shared) (H : Hp) (E : XK), PE (cxOf (L2.CX P w) P w K mg base N qual scope f cdv A outer s H E) e1 (tVar 1))
    (ho2 : ∀ (cdv : Value) (A : Around) (outer : List Env) (s : Shared) (H : Hp) (E : XK), PE (cxOf (L2.CX P w) P w K mg base N qual scope f cdv A outer s H E) o2 (tVar 0))
    (he2 : ∀ (cdv : Value) (A : Around) (outer : List Env) (s : Shared) (H : Hp) (E : XK), PE (cxOf (L2.CX P w) P w K mg base N qual scope f cdv A outer s H E) e2 (tVar 2))
    (hs : ∀ env, swapsWith e1 (some (.Attribute o1 f1 p1)) q1.line env = pure false) (hs2 : ∀ env, swapsWith e2 (some (.Attribute o2 f2 p2)) q2.line env = pure false) :
    FnOk P w K mg base (L2.CX P w) (k + 1) f fd ps (spX C [f1, f2]) :=
  F.ok S (fun vs H Q E ⟨a, ws, e, l, _⟩ => by subst e; simp [l, hl]) fun cdv A outer s H vs Q E hr h => by
    obtain ⟨a, ws, ev, l, ha, q⟩ := h
    subst ev
    obtain ⟨w1, w2, rfl⟩ : ∃ w1 w2, ws = [w1, w2] := by
      match ws, l with
      | [w1, w2], _ => exact ⟨w1, w2, rfl⟩
    refine ⟨_, pss_cons (ps_ost (ho cdv A outer s H E) (he cdv A outer s H E) (hs _)) (pss_one (ps_ost (ho2 cdv A outer s H E) (he2 cdv A outer s H E) (hs2 _))), ?_⟩
    have e0 : start N [V.ref a, w1, w2] = [some (.ref a), some w1, some w2] := by
      show [V.ref a, w1, w2].map some ++ List.replicate (N.length - 3) none = _
      rw [hN] <;> rfl
    rw [e0]
    refine ⟨w1, rfl, V.ref a, rfl, a, C, rfl, T, hno, .inl ⟨ha, fun dx h1 h2 => ?_⟩⟩
    refine ⟨w2, rfl, V.ref a, rfl, a, C, rfl, T, hno2, .inr ⟨dx, [(f1, w1)], upd_same, by rw [upd_ne h2, upd_same], by simp, ?_⟩⟩
    have := q dx h1 h2
    have e3 : upd (upd (upd H dx (exd dx [(f1, w1)])) a (exo a C (some dx))) dx (exd dx [(f2, w2), (f1, w1)]) = upd (upd H dx (exd dx [(f2, w2), (f1, w1)])) a (exo a C (some dx)) := by
      funext b
      by_cases hb : b = dx
      · subst hb; rw [upd_same, upd_ne h2, upd_same]
      · rw [upd_ne hb]
        by_cases ha : b = a
        · subst ha; rw [upd_same, upd_same]
        · rw [upd_ne ha, upd_ne ha, upd_ne hb, upd_ne hb]
    show Q .non _
    rw [e3]
    exact this
end
def mMkX (C : Nat) (fs : List Cs) (ms : List M) : M := argsM ms fun vs _ h => if Nat.beq vs.length fs.length && (vs.all isP && Nat.ble fs.length 100) then .val (.xo C ((fs.zip vs).reverse)) h else .bad
section
variable {X : Cx} {G : Nat → Addr} {k : Nat} {fI : Addr} {C : Nat} {fd : FuncData} {ps : List Str} {x : Str} {p pos : Pos} {e : Expr} {es : List Expr} {ms : List M} {fs : List Cs}
theorem rpf_zip {K : KG} {T : Addr → Prop} {H : Hp} : ∀ {fs : List Cs} {vs : List SV} {ws : List L2.V}, RPs K T H vs ws → RPf K T H (fs.zip vs) ((fs.map toS).zip ws)
  | [], _, _, _ => .nil
  | _ :: _, _, _, .nil => .nil
  | f :: fs, _, _, .cons h r => .cons h (rpf_zip r)
theorem rpf_snoc {K : KG} {T : Addr → Prop} {H : Hp} {f : Cs} {v : SV} {w : L2.V} (r0 : RP K T H v w) : ∀ {l : List (Cs × SV)} {ws : List (Str × L2.V)}, RPf K T H l ws → RPf K T H (l ++ [(f, v)]) (ws ++ [(toS f, w)])
  | _, _, .nil => .cons r0 .nil
  | _, _, .cons h r => .cons h (rpf_snoc r0 r)
theorem rpf_rev {K : KG} {T : Addr → Prop} {H : Hp} : ∀ {l : List (Cs × SV)} {ws : List (Str × L2.V)}, RPf K T H l ws → RPf K T H l.reverse ws.reverse
  | _, _, .nil => .nil
  | _, _, .cons h r => by
    rw [List.reverse_cons, List.reverse_cons]
    exact rpf_snoc h (rpf_rev r)
theorem RPf.fr {K : KG} {μ μ' : Nat → Addr} {n n' : Nat} {H H' : Hp} {l : List (Cs × SV)} {vs : List (Str × L2.V)} (f : EV.Fr μ n H μ' n' H') (r : RPf K (Tr μ n) H l vs) : RPf K (Tr μ' n') H' l vs := RPf.mono f.rd f.tup f.ins f.nt r
theorem e_mkx (T : OexC X.K (G C)) (iC : PySem.W.findIn X.K (.ref (G C)) "__init__" = some (some (.ref fI))) (tI : PySem.W.typeIn X.K (.ref fI) = some (.type "function"))
    (F1 : FnOk X.prog X.w X.K X.mg X.base (L2.CX X.prog X.w) k fI fd ps (spX (G C) (fs.map toS))) (hr : Room (k + 1) X.A) (hb : Binds X.K fd ps []) (hg : Gl X x) (hm : X.mg x = some (.ref (G C))) (ha : PAs G X (e :: es) ms)
    (hdb : (x == ("__debug__" : Str)) = false := by decide) (he : starEach (e :: es) X.env = (false, eval e X.env) :: starEach es X.env := by rfl) (hpl : (backTo pos (starEach es X.env)).any (·.1) = false := by rfl) :
    PEs G X (.Call (.Name x p) (e :: es) [] pos) (mMkX C fs ms) := by
  refine ⟨fun W tk => ⟨fun pins s σ H Q I h => ?_⟩⟩
  obtain ⟨nm, q, N, bs, bm, sn, sub, ab, col, dd, k0, k1, k2, k3, k5, hC, hbm⟩ := T.cls
  refine wpAny_Call_Name_kw (ld_glob I hg hm ?_ hdb)
  refine PySem.W.callWith_K (h₀ := X.base) I.ok.mod.kin T.kC (thn ((ha.run W tk).run pos pins s σ H _ I (rd_args h)) fun us s1 ⟨vs, H1, I1, r1, μ, σs, hh, xs, S, st, rs, pp⟩ => ⟨I1.kIn, ?_⟩) he hpl
  show wpAny _ _ (call (.ref (G C)) us) _ _ _
  (try dsimp only at pp)
  split at pp
  · rename_i ok
    simp only [Bool.and_eq_true] at ok
    have el : xs.length = fs.length := Nat.eq_of_beq_eq_true ok.1
    have hp := rs.pure_ ok.2.1
    have h100 : fs.length ≤ 100 := Nat.le_of_ble_eq_true ok.2.2
    obtain ⟨hp0, g, dr, tk', os⟩ := s1
    have hsz : hp0.objs.size ≤ hp0.objs.size + 1 := Nat.le_succ _
    have hn : H1 (hp0.objs.size + 1) = none := I1.hok.fresh hsz
    have kk : ∀ b o, hp0.get? b = some o → ((hp0.push (PySem.W.kdv_tup us)).push (PySem.HandSPX.excO (G C) hp0.objs.size)).get? b = some o := fun b o e => Heap.get?_push_of_some _ (Heap.get?_push_of_some _ e)
    have hget : ((hp0.push (PySem.W.kdv_tup us)).push (PySem.HandSPX.excO (G C) hp0.objs.size)).get? (hp0.objs.size + 1) = some (PySem.HandSPX.excO (G C) hp0.objs.size) := by heap_get
    have I2 : Inv X pins σ (upd H1 (hp0.objs.size + 1) (exo (hp0.objs.size + 1) (G C) none)) ⟨(hp0.push (PySem.W.kdv_tup us)).push (PySem.HandSPX.excO (G C) hp0.objs.size), g, dr, tk', os⟩ :=
      I1.laid (t' := tk') (a := hp0.objs.size + 1) (o := exo (hp0.objs.size + 1) (G C) none) (h' := (hp0.push (PySem.W.kdv_tup us)).push (PySem.HandSPX.excO (G C) hp0.objs.size)) kk hsz (exo_ok hget)
    have r2 : Vals (V.ref (hp0.objs.size + 1) :: vs) (Value.ref (hp0.objs.size + 1) :: us) := .cons rfl r1
    have hlv : vs.length = fs.length := by rw [← el]; exact rs.length.symm
    have hq : spX (G C) (fs.map toS) (V.ref (hp0.objs.size + 1) :: vs) (upd H1 (hp0.objs.size + 1) (exo (hp0.objs.size + 1) (G C) none)) (fun v H2 => v = .non ∧ Q (.ref (hp0.objs.size + 1)) H2) (WE W σ) := by
      refine ⟨_, vs, rfl, by simpa using hlv, upd_same, fun dx h1 h2 => ⟨rfl, ?_⟩⟩
      have h1' : H1 dx = none := by rw [upd_ne h2] at h1; exact h1
      -- the end heap: two new objects, one behind the other
      have e3 : upd (upd (upd H1 (hp0.objs.size + 1) (exo (hp0.objs.size + 1) (G C) none)) dx (exd dx (((fs.map toS).zip vs).reverse))) (hp0.objs.size + 1) (exo (hp0.objs.size + 1) (G C) (some dx)) = upd (upd H1 dx (exd dx (((fs.map toS).zip vs).reverse))) (hp0.objs.size + 1) (exo (hp0.objs.size + 1) (G C) (some dx)) := by
        funext b
        by_cases hb : b = hp0.objs.size + 1
        · subst hb; rw [upd_same, upd_same]
        · rw [upd_ne hb, upd_ne hb]
          by_cases hd : b = dx
          · subst hd; rw [upd_same, upd_same]
          · rw [upd_ne hd, upd_ne hd, upd_ne hb]
      rw [e3]
      have hn2 : upd H1 dx (exd dx (((fs.map toS).zip vs).reverse)) (hp0.objs.size + 1) = none := by rw [upd_ne (Ne.symm h2)]; exact hn
      have f1 : EV.Fr μ hh.length H1 μ hh.length (upd H1 dx (exd dx (((fs.map toS).zip vs).reverse))) := Fr.new h1'
      have f2 : EV.Fr μ hh.length _ μ hh.length (upd (upd H1 dx (exd dx (((fs.map toS).zip vs).reverse))) (hp0.objs.size + 1) (exo (hp0.objs.size + 1) (G C) (some dx))) := Fr.new hn2
      refine pp μ _ _ (f1.trans f2) ((S.new h1').new hn2) (.of (.xo (d := dx) (fs' := ((fs.map toS).zip vs).reverse) upd_same (by rw [upd_ne h2, upd_same]) (S.not_tr hn) (S.not_tr h1') ?_))
      exact (rpf_rev (rpf_zip hp)).fr (f1.trans f2)
    have hl : (Value.ref (hp0.objs.size + 1) :: us ++ []).length = ps.length := by
      have e := r2.length
      rw [F1.len _ _ _ _ hq] at e
      rw [List.append_nil]
      exact e.symm
    have hus : us.length ≤ sizeLine := by
      rw [← Paired.length r1, sizeLine_eq, hlv]
      omega
    refine wpAny_call (PySem.HandSPX.call_own F.excBase_ValueError (fun Y => PySem.HandSPX.refsVE_contains Y bm hbm) (I1.kIn _ _ hC) (PySem.W.looks_findIn I1.kIn iC) (fun self => PySem.W.bind_fn I1.kIn self tI) hus
      (codeAny_mono (F1.run _ X.stack _ _ ⟨Value.ref (hp0.objs.size + 1) :: us, []⟩ (Value.ref (hp0.objs.size + 1) :: us) _ _ (WE W σ) (hr.make (G C) us []) (I2.env0.make (G C) us []) (by
        have := hb _ (Value.ref (hp0.objs.size + 1) :: us) I2.kIn hl
        rw [List.append_nil] at this
        exact this) r2 hq) fun r s' hq' => ?_))
    cases r with
    | error er => exact passAt' tk σ pins _ _ er s' I2 hq'
    | ok fl =>
      cases fl with
      | ret u =>
        obtain ⟨v, H', I3, rv, ev, q3⟩ := I2.after hq'
        subst ev
        exact ⟨rv, ⟨V.ref (hp0.objs.size + 1), H', I3, rfl, q3⟩⟩
      | next => exact False.elim hq'
      | brk => exact False.elim hq'
      | cont => exact False.elim hq'
  · exact pp.elim
end

/-! ### isinstance -/
def tagS (h : SHp) (u : SV) : Option Nat := match drf h u with
  | .non => some 0
  | .bl _ => some 1
  | .int _ => some 2
  | .str _ => some 3
  | .lst _ => some 4
  | .tup _ => some 5
  | .tupR _ => some 5
  | .dct _ => some 6
  | .ins C _ => some (20 + C)
  | .xo C _ => some (20 + C)
  | _ => none
def tyTag (n : String) : Option Nat := if n = "bool" then some 1 else if n = "int" then some 2 else if n = "str" then some 3 else if n = "list" then some 4 else if n = "tuple" then some 5 else if n = "dict" then some 6 else if n = "ValueError" then some 7 else none
def tagC : SV → Option Nat
  | .ty n => tyTag n
  | .gl C => some (20 + C)
  | _ => none
def tagV (G : Nat → Addr) : Nat → Value
  | 0 => .type "NoneType"
  | 1 => .type "bool"
  | 2 => .type "int"
  | 3 => .type "str"
  | 4 => .type "list"
  | 5 => .type "tuple"
  | 6 => .type "dict"
  | 7 => .type "ValueError"
  | n => .ref (G (n - 20))
theorem tagV_own {G : Nat → Addr} {C : Nat} : tagV G (20 + C) = .ref (G C) := by
  rw [Nat.add_comm]
  show Value.ref (G (C + 20 - 20)) = _
  rw [Nat.add_sub_cancel]
structure IsiOk (K : PySem.W.Frag) (G : Nat → Addr) (isi : Nat → Nat → Option Bool) (cl xl : Nat → Bool) : Prop where
  k : ∀ a b r, isi a b = some r → PySem.W.kitOne K (tagV G a) (tagV G b) = some r
  c : ∀ C, cl C = true → InsK K (G C)
  x : ∀ C, xl C = true → ExcC K (G C)
def okTy (cl xl : Nat → Bool) (h : SHp) (u : SV) : Bool := match drf h u with
  | .ins C _ => cl C
  | .xo C _ => xl C
  | _ => true
def fIsi (isi : Nat → Nat → Option Bool) (cl xl : Nat → Bool) (h : SHp) : List SV → Option SV
  | [x, c] => if okTy cl xl h x then match tagS h x with
    | some a => match c with
      | .tup [c1, c2] => match tagC c1, tagC c2 with
        | some b1, some b2 => match isi a b1, isi a b2 with
          | some r1, some r2 => some (.bl (r1 || r2))
          | _, _ => none
        | _, _ => none
      | c => match tagC c with
        | some b => (isi a b).map .bl
        | none => none
    | none => none else none
  | _ => none
section
variable {X : Cx} {G : Nat → Addr} {isi : Nat → Nat → Option Bool} {cl xl : Nat → Bool} {pins : List (Addr × Obj)} {σ : L2.St} {H : Hp} {s : Shared}
theorem tyTag_ok {n : String} {t : Nat} (e : tyTag n = some t) : tagV G t = .type n := by
  unfold tyTag at e
  repeat (split at e <;> first | (rename_i h; subst h; cases e; rfl) | skip)
  cases e
theorem tagC_ok {K : KG} {μ : Nat → Addr} {n : Nat} {H : Hp} {c : SV} {V1 : V} {b : Nat} (e : tagC c = some b) (r : RS K μ n H c V1) : ClsV V1 (tagV K.G b) := by
  cases c <;> simp only [tagC, reduceCtorEq, Option.some.injEq] at e
  · cases r.ty_
    rw [tyTag_ok e]
    exact .ty _
  · subst e
    cases r.gl_
    rw [tagV_own]
    exact .own _
/-- the library's isinstance premises for a symbolic value -/
theorem kit_sv {μ : Nat → Addr} {h : SHp} {x : SV} {V1 : V} {u : Value} {a : Nat} (O : IsiOk X.K G isi cl xl) (I : Inv X pins σ H s) (S : Sim ⟨X.K, G⟩ μ h H) (r : RS ⟨X.K, G⟩ μ h.length H x V1) (ru : RelV V1 u) (e : tagS h x = some a) (ok : okTy cl xl h x = true) :
    ∃ P : Heap → Prop, PySem.W.KitX X.K u (tagV G a) P ∧ P s.heap ∧ u ≠ .builtin "__main__.__loader__#opaque" := by
  have seqL : ∀ {p : Addr} {vs : List V}, V1 = .ref p → SqL X.K H p vs → ∃ P : Heap → Prop, PySem.W.KitX X.K u (.type "list") P ∧ P s.heap ∧ u ≠ .builtin "__main__.__loader__#opaque" := by
    intro p vs ev hq
    subst ev
    rcases hq with hq | ⟨o, its, n, h1, h2, _⟩
    · rcases hq with hq | ⟨ob, hq⟩
      · exact kit_of I ru (.base (.lst hq))
      · exact kit_of I ru (.base (.frz hq))
    · exact kit_of I ru (.kList h1 h2)
  have seqT : ∀ {p : Addr} {vs : List V}, V1 = .ref p → SqT X.K H p vs → ∃ P : Heap → Prop, PySem.W.KitX X.K u (.type "tuple") P ∧ P s.heap ∧ u ≠ .builtin "__main__.__loader__#opaque" := by
    intro p vs ev hq
    subst ev
    rcases hq with hq | ⟨o, its, n, h1, h2, _⟩
    · rcases hq with hq | ⟨ob, hq⟩
      · exact kit_of I ru (.base (.tup hq))
      · exact kit_of I ru (.fTuple hq)
    · exact kit_of I ru (.kTuple h1 h2)
  unfold tagS at e
  unfold okTy at ok
  split at e
  · rename_i q; cases e; cases drf_non q r; exact kit_of I ru (.base .non)
  · rename_i q; cases e; cases drf_bl q r; exact kit_of I ru (.base (.bl _))
  · rename_i q; cases e; cases drf_int q r; exact kit_of I ru (.base (.int _))
  · rename_i q; cases e; cases drf_str q r; exact kit_of I ru (.base (.str _))
  · rename_i q
    cases e
    obtain ⟨p, vs, ev, hq, _⟩ := drf_lst S q r
    exact seqL ev hq
  · rename_i q
    cases e
    obtain ⟨p, vs, ev, hq, _⟩ := drf_tup q r
    exact seqT ev hq
  · rename_i q
    cases e
    cases drf_ne q (fun _ z => nomatch z) (fun _ z => nomatch z) (fun _ z => nomatch z) (fun _ _ z => nomatch z)
    obtain ⟨p, vs, ev, hq, _⟩ := r.tupR_
    exact seqT ev hq
  · rename_i q
    cases e
    obtain ⟨p, kvs, ev, hq, _⟩ := drf_dct S q r
    subst ev
    rcases hq with hq | ⟨ob, hq⟩
    · exact kit_of I ru (.base (.dK hq))
    · exact kit_of I ru (.fDict hq)
  · rename_i C fs q
    cases e
    simp only [q] at ok
    obtain ⟨p, dx, fs', ev, hq, _⟩ := drf_ins S q r
    subst ev
    have c := O.c C ok
    rw [tagV_own]
    exact kit_of I ru (.base (.ins hq c.cl c.ha c.hn c.htk c.hm))
  · rename_i C fs q
    cases e
    simp only [q] at ok
    cases drf_ne q (fun _ z => nomatch z) (fun _ z => nomatch z) (fun _ z => nomatch z) (fun _ _ z => nomatch z)
    obtain ⟨p, d, fs', ev, h1, h2, _⟩ := r.xo_
    subst ev
    cases (show u = Value.ref p from ru)
    have c := O.x C ok
    obtain ⟨ox, od, mA, J, _, _⟩ := xo_at I h1 h2
    rw [tagV_own]
    exact ⟨_, PySem.W.ev_kitx_exc c.hg c.hk c.hs c.hd c.ha c.hn c.ht c.hm, J, fun z => nomatch z⟩
  · cases e
theorem c_isi (O : IsiOk X.K G isi cl xl) : CallR X (.builtin "isinstance") (rvL ⟨X.K, G⟩ (fIsi isi cl xl)) := by
  intro pins s σ H Vs us Q I r ⟨μ, h, xs, z, S, rs, e, q⟩
  unfold fIsi at e
  split at e
  · rename_i x c
    obtain ⟨v, w, ev, r1, r2⟩ := rss2 rs
    subst ev
    obtain ⟨u1, u2, rfl, q1, q2⟩ := vals2 r
    split at e
    · rename_i ok
      split at e
      · rename_i a ta
        obtain ⟨P, Z, p, hx⟩ := kit_sv O I S r1 q1 ta ok
        split at e
        · rename_i c1 c2
          split at e
          · rename_i b1 b2 t1 t2
            split at e
            · rename_i k1 k2 i1 i2
              cases e
              obtain ⟨tp, vs, ev, hT, rl⟩ := r2.tup_
              subst ev
              cases (show u2 = Value.ref tp from q2)
              cases rl with
              | cons ra rl => cases rl with
                | cons rb rl =>
                  cases rl
                  have C1 := tagC_ok t1 (RS.of ra)
                  have C2 := tagC_ok t2 (RS.of rb)
                  have ka : PySem.W.kitAny X.K (tagV G a) [tagV G b1, tagV G b2] = some (k1 || k2) := by
                    unfold PySem.W.kitAny
                    rw [O.k _ _ _ i1]
                    cases k1 with
                    | true => rfl
                    | false =>
                      show PySem.W.kitAny X.K (tagV G a) [tagV G b2] = some k2
                      unfold PySem.W.kitAny
                      rw [O.k _ _ _ i2]
                      cases k2 <;> rfl
                  have fin : ∀ tk, (EP X pins σ Q) (.bool (k1 || k2)) { s with toks := tk } := fun tk => ⟨.bl (k1 || k2), H, I.tok tk, rfl, q μ H _ Fr.refl S (.of (.bl _))⟩
                  obtain ⟨its, rv, ⟨o, h1, h2, n, h3⟩, _⟩ := I.tuple hT
                  have e3 := ClsV.all (.cons C1 (.cons C2 .nil)) rv
                  subst e3
                  obtain ⟨oc, od, dt, sl⟩ := o
                  simp only at h2 h3
                  subst h2 h3
                  exact PySem.W.kia_tup Z I.kIn p h1 ka hx fin
            · cases e
          · cases e
        · split at e
          · rename_i b tb
            simp only [Option.map_eq_some_iff] at e
            obtain ⟨k, e1, e2⟩ := e
            subst e2
            have e3 := (tagC_ok tb r2).eq q2
            subst e3
            exact PySem.W.kia_one Z I.kIn p (O.k _ _ _ e1) hx fun tk => ⟨.bl k, H, I.tok tk, rfl, q μ H _ Fr.refl S (.of (.bl _))⟩
          · cases e
      · cases e
    · cases e
  · cases e
end
end EV

/-! EV14: equal data with dicts within. -/
namespace GQ
open PySem PySem.SeqAt
open AutoSeq1 (wpAny_loadPart')
open MeetsSeq MeetsSeq2 MeetsSeq3 SeqRoads2
section
variable {prog : Program} {w : World} {A : Around} {R : Result → Shared → Prop}
theorem ev_tuple_neG (l b : Addr) (items items2 : Array Value) (n n2 : Nat) (dd dd2 : Option Addr) (sl sl2 : Array (Option Value)) (hsz : items.size = items2.size) (I : Nat → Shared → Prop)
    (turn : ∀ i (h1 : i < items.size) (h2 : i < items2.size) s, I i s → wpAny (model prog w) A.in1 (eqBool items[i] items2[i]) (fun r s' => r = true ∧ I (i + 1) s') (fun e s' => R (.error e) s') s)
    (fin : ∀ s, I items.size s → R (.ok (.ret (.bool false))) s) {s : Shared} (hl1 : s.heap.get? l = some { cls := .type "tuple", dict := dd, data := .seq items n, slots := sl }) (hb1 : s.heap.get? b = some { cls := .type "tuple", dict := dd2, data := .seq items2 n2, slots := sl2 }) (h : I 0 s) :
    wpAny (model prog w) A.in1 (Builtin.«tuple.__ne__» ⟨[.ref l, .ref b], []⟩) (FinOf prog w A R) (fun e s' => R (.error e) s') s := by
  have f2 := AutoSeq1.sub_tuple_tuple
  have hZ : (items.toList.zip items2.toList).length = items.size := by simp [hsz]
  have h0 := h
  obtain ⟨hp, g, d, tk, os⟩ := s
  wp_walk using wpAny_loadPart' hl1, wpAny_loadPart' hb1, wpAny_forIn_list _ (fun rest b s' => b.1 = none ∧ ∃ i, rest = (items.toList.zip items2.toList).drop i ∧ i ≤ items.size ∧ I i s') _
  case turn =>
    rintro ⟨y, x⟩ rest b s' ⟨hb', i, hz, hi, hI⟩
    have hlt : i < (items.toList.zip items2.toList).length := by
      rcases Nat.lt_or_ge i (items.toList.zip items2.toList).length with h' | h'
      · exact h'
      · rw [List.drop_of_length_le h'] at hz; cases hz
    have h1 : i < items.size := hZ ▸ hlt
    have h2 : i < items2.size := hsz ▸ h1
    rw [List.drop_eq_getElem_cons hlt] at hz
    injection hz with hyx hrest
    have hy : y = items[i] := by have := congrArg Prod.fst hyx; simpa using this
    have hx : x = items2[i] := by have := congrArg Prod.snd hyx; simpa using this
    subst hy hx
    refine wpAny_bind (wpAny_mono (turn i h1 h2 s' hI) (fun r s2 q2 => ?_) fun _ _ x => x)
    obtain ⟨hr, q2⟩ := q2
    subst hr
    wp_walk
    exact ⟨rfl, i + 1, hrest, h1, q2⟩
  case fin =>
    rintro ⟨b1, b2⟩ s' ⟨hb', i, hz, hi, hI⟩
    simp only at hb'
    subst hb'
    have hge : items.size ≤ i := by
      rcases Nat.lt_or_ge i (items.toList.zip items2.toList).length with h' | h'
      · rw [List.drop_eq_getElem_cons h'] at hz; cases hz
      · exact hZ ▸ h'
    have hi' : i = items.size := by omega
    have hR : R (.ok (.ret (.bool false))) s' := fin s' (hi' ▸ hI)
    wp_walk
    simpa [Builtin.Tuple.tupleCompareSizes, hsz] using hR
  case h =>
    exact ⟨rfl, 0, rfl, Nat.zero_le _, h0⟩
end
section
variable {prog : Program} {w : World} {A : Around} {E : Value → Shared → Prop} {s : Shared}
theorem ev_ne_tupG {l b : Addr} {items items2 : Array Value} {Q : Value → Shared → Prop} (hsz : items.size = items2.size) (hu : A.units < cLine) (I : Nat → Shared → Prop)
    (hl : s.heap.IsTuple l items) (hb : s.heap.IsTuple b items2)
    (turn : ∀ i (h1 : i < items.size) (h2 : i < items2.size) s, I i s → wpAny (model prog w) A.in1 (eqBool items[i] items2[i]) (fun r s' => r = true ∧ I (i + 1) s') E s)
    (fin : ∀ s, I items.size s → Q (.bool false) s) (h : I 0 s) : wpAny (model prog w) A (richCompare .NotEq (.ref l) (.ref b)) Q E s := by
  obtain ⟨⟨cls, dd, data, sl⟩, ho, hc, n, hd⟩ := id hl
  obtain ⟨⟨cls2, dd2, data2, sl2⟩, ho2, hc2, n2, hd2⟩ := id hb
  simp only at hc hd hc2 hd2
  subst hc hd hc2 hd2
  refine wpAny_richCompare_same_room (op := .NotEq) ⟨_, ho, rfl⟩ ⟨_, ho2, rfl⟩ F.slot_tuple_ne (call_here F.slot_tuple_ne ⟨_, ho, rfl⟩ F.entry_tuple_ne (F.args_tuple_ne_2 _ _) ?_) hu
  exact ev_tuple_neG (R := wants (fun v s' => v ≠ .notImplemented ∧ Q v s') E) l b items items2 n n2 dd dd2 sl sl2 hsz I turn (fun s' q => ⟨(fun x => nomatch x), fin s' q⟩) ho ho2 h
end
end GQ
namespace EV
open PySem PySem.Spec PyProof.Rows L2

def all2 (f : SV → SV → Bool) : List SV → List SV → Bool
  | [], [] => true
  | x :: l, y :: k => f x y && all2 f l k
  | _, _ => false
def allK (f : SV → SV → Bool) (k : List (SV × SV)) : List (SV × SV) → Bool
  | [] => true
  | kv :: l => (match lkS kv.1 k with
    | some w => f kv.2 w
    | none => false) && allK f k l
/-- equal, of nesting at most n (False says nothing) -/
def eqT : Nat → SV → SV → Bool
  | 0, x, y => flatS x && (flatS y && eqS x y)
  | n + 1, x, y => match x, y with
    | .tup l, .tup k => all2 (eqT n) l k
    | .lst l, .lst k => all2 (eqT n) l k
    | .dct l, .dct k => Nat.beq l.length k.length && allK (eqT n) k l
    | x, y => flatS x && (flatS y && eqS x y)
theorem all2_len {f : SV → SV → Bool} : ∀ {l k : List SV}, all2 f l k = true → l.length = k.length
  | [], [], _ => rfl
  | _ :: l, _ :: k, h => by
    simp only [all2, Bool.and_eq_true] at h
    simp [all2_len h.2]
  | [], _ :: _, h => by simp [all2] at h
  | _ :: _, [], h => by simp [all2] at h
theorem all2_get {f : SV → SV → Bool} : ∀ {l k : List SV} {i : Nat} {x y : SV}, all2 f l k = true → l[i]? = some x → k[i]? = some y → f x y = true
  | [], [], i, x, y, _, e, _ => by simp at e
  | a :: l, b :: k, 0, x, y, h, e1, e2 => by
    simp only [all2, Bool.and_eq_true] at h
    simp at e1 e2
    subst e1 e2
    exact h.1
  | a :: l, b :: k, i + 1, x, y, h, e1, e2 => by
    simp only [all2, Bool.and_eq_true] at h
    exact all2_get h.2 (by simpa using e1) (by simpa using e2)
  | [], _ :: _, _, _, _, h, _, _ => by simp [all2] at h
  | _ :: _, [], _, _, _, h, _, _ => by simp [all2] at h
section
variable {X : Cx} {G : Nat → Addr} {T : Addr → Prop} {pins : List (Addr × Obj)} {σ : L2.St} {H : Hp} {s : Shared}
def EqAll (X : Cx) (A : Around) (s : Shared) (K : KG) (T : Addr → Prop) (H : Hp) (n : Nat) : Prop :=
  ∀ (x y : SV) (X1 Y1 : V) (v u : Value), RP K T H x X1 → RP K T H y Y1 → eqT n x y = true → RelV X1 v → RelV Y1 u → SeqAt.EqP X.prog X.w A s v u true
theorem all2_run {A : Around} {K : KG} {n : Nat} (ih : EqAll X A s K T H n) {l k : List SV} {vs ws : List V} {us us2 : List Value} (h : all2 (eqT n) l k = true) (rl : RPs K T H l vs) (rk : RPs K T H k ws) (r1 : Vals vs us) (r2 : Vals ws us2) (j : Nat) (h1 : j < us.length) (h2 : j < us2.length) :
    SeqAt.EqP X.prog X.w A s us[j] us2[j] true := by
  have e1 := r1.length
  have e2 := r2.length
  have e3 := rl.length
  have e4 := rk.length
  have x1 : l[j]? = some l[j] := List.getElem?_eq_getElem (by omega)
  have y1 : k[j]? = some k[j] := List.getElem?_eq_getElem (by omega)
  obtain ⟨w1, g1, p1⟩ := rl.get x1
  obtain ⟨w2, g2, p2⟩ := rk.get y1
  obtain ⟨u1, q1, z1⟩ := r1.get g1
  obtain ⟨u2, q2, z2⟩ := r2.get g2
  rw [List.getElem?_eq_getElem h1] at q1
  rw [List.getElem?_eq_getElem h2] at q2
  cases q1; cases q2
  exact ih _ _ _ _ _ _ p1 p2 (all2_get h x1 y1) z1 z2
theorem allK_run {A : Around} {K : KG} {μ : Nat → Addr} {m n : Nat} (ih : EqAll X A s K (Tr μ m) H n) {k : List (SV × SV)} {ls : List (Key × V)} {vb : List (Key × Value)} (rk : RPk K (Tr μ m) H k ls) (rb : KV ls vb) :
    ∀ {l : List (SV × SV)} {ks : List (Key × V)} {va : List (Key × Value)}, RPk K (Tr μ m) H l ks → KV ks va → allK (eqT n) k l = true → PySem.W.KeqHitsP X.prog X.w A s vb va true
  | [], _, _, .nil, ra, _ => by
    cases ra
    exact .nil
  | (a, b) :: l, _, _, .cons hk hv r, ra, h => by
    unfold KV at ra
    cases ra with
    | @cons p q ps qs h1 t =>
      obtain ⟨h1, h2⟩ := h1
      simp only [allK, Bool.and_eq_true] at h
      obtain ⟨h3, h4⟩ := h
      split at h3
      · rename_i w hw
        have c := rk.rs.lk hk
        rcases c with ⟨c1, _⟩ | ⟨v', w', c1, c2, c3⟩
        · rw [c1] at hw; cases hw
        · rw [c1] at hw
          cases hw
          rename_i k' _ _ _
          have rr : RelO (some w') (valueAt vb k') := by rw [← c2]; exact rb.val k'
          obtain ⟨y, hy, ry⟩ := rr.some_of
          obtain ⟨key, v⟩ := q
          simp only at h1 h2
          rw [h1] at hy
          show PySem.W.KeqHitsP X.prog X.w A s vb ((key, v) :: qs) (true && true)
          have rp : RP K (Tr μ m) H w w' := c3.pure_ (by
            cases c3 with
            | one c3 =>
              cases c3 with
              | un => exact absurd h3 (by unfold eqT; cases n <;> (cases b <;> simp [flatS]))
              | pure r => cases r <;> rfl
              | ref => exact absurd h3 (by unfold eqT; cases n <;> (cases b <;> simp [flatS]))
            | tupR => exact absurd h3 (by unfold eqT; cases n <;> (cases b <;> simp [flatS])))
          exact .hit hy (ih _ _ _ _ _ _ hv rp h3 h2 ry) (allK_run ih rk rb r t h4)
      · cases h3
theorem dK_rd (I : Inv X pins σ H s) {a : Addr} {kvs : List (Key × V)} (h : Rd H a (.dK kvs)) : ObjOk X.prog X.w H s.heap a (.dK kvs) := by
  rcases h with h | ⟨ob, h⟩
  · exact I.hok a _ h
  · exact (show ObjOk X.prog X.w H s.heap a (.frz ob (.dK kvs)) from I.hok a _ h).2
theorem eqT_flat {μ : Nat → Addr} {m : Nat} {A : Around} {K : KG} {x y : SV} {X1 Y1 : V} {v u : Value} (r1 : RP K (Tr μ m) H x X1) (r2 : RP K (Tr μ m) H y Y1) (h : (flatS x && (flatS y && eqS x y)) = true) (rx : RelV X1 v) (ry : RelV Y1 u) : SeqAt.EqP X.prog X.w A s v u true := by
  simp only [Bool.and_eq_true] at h
  obtain ⟨h1, h2, h3⟩ := h
  have e := r1.eqS r2 h1 h2
  have q := eqAt_V (A := A) (s := s) rx ry (r1.flat h1) (r2.flat h2)
  rw [e, h3] at q
  exact q.eqP
theorem ne_of_lb {A : Around} {a b : Addr} (step : ∀ (E Q : Value → Shared → Prop), Q (.bool true) s → wpAny (model X.prog X.w) A (richCompare .Eq (.ref a) (.ref b)) Q E s) : SeqAt.EqP X.prog X.w A s (.ref a) (.ref b) true := by
  by_cases e : a = b
  · subst e
    exact (SeqAt.EqAt.same _).eqP
  · exact SeqAt.eqP_refs e step
theorem eqT_run (I : Inv X pins σ H s) {μ : Nat → Addr} {m : Nat} : ∀ (n : Nat) (A : Around), A.units + n < cLine → EqAll X A s ⟨X.K, G⟩ (Tr μ m) H n
  | 0, A, _ => fun x y X1 Y1 v u r1 r2 h rx ry => eqT_flat r1 r2 h rx ry
  | n + 1, A, hu => fun x y X1 Y1 v u r1 r2 h rx ry => by
    have ih := eqT_run I (μ := μ) (m := m) n A.in1 (by show A.units + 1 + n < cLine; omega)
    unfold eqT at h
    split at h
    · rename_i l k
      obtain ⟨a, vs, ea, ha, ra⟩ := (RS.of r1).tup_
      obtain ⟨b, ws, eb, hb, rb⟩ := (RS.of r2).tup_
      subst ea eb
      cases (show v = Value.ref a from rx)
      cases (show u = Value.ref b from ry)
      refine ne_of_lb fun E Q q => ?_
      obtain ⟨its, rv, e, z⟩ := I.tuple ha
      obtain ⟨its2, rv2, e2, z2⟩ := I.tuple hb
      have hsz : its.toArray.size = its2.toArray.size := by
        rw [List.size_toArray, List.size_toArray, ← rv.length, ← rv2.length, ← ra.length, ← rb.length]; exact all2_len h
      refine GQ.rc_tupG hsz (by omega) (fun _ s' => s' = s) e e2 (fun i h1 h2 s' es => ?_) (fun s' es => by subst es; exact q) rfl
      subst es
      have k := all2_run ih h ra rb rv rv2 i (by simpa using h1) (by simpa using h2)
      refine k _ _ ⟨rfl, rfl⟩
    · rename_i l k
      obtain ⟨a, vs, ea, ha, ra⟩ := (RS.of r1).lst_
      obtain ⟨b, ws, eb, hb, rb⟩ := (RS.of r2).lst_
      subst ea eb
      cases (show v = Value.ref a from rx)
      cases (show u = Value.ref b from ry)
      refine ne_of_lb fun E Q q => ?_
      obtain ⟨us, rv, p1, _⟩ := I.list ha
      obtain ⟨us2, rv2, p2, _⟩ := I.list hb
      have hsz : us.toArray.size = us2.toArray.size := by
        rw [List.size_toArray, List.size_toArray, ← rv.length, ← rv2.length, ← ra.length, ← rb.length]; exact all2_len h
      refine SeqAt.rcP_lists (e := fun _ => true) p1.isList p2.isList hsz (by omega) (fun j h1 h2 => ?_) E Q ?_
      · have k := all2_run ih h ra rb rv rv2 j (by simpa using h1) (by simpa using h2)
        simpa using k
      · rw [show ((List.range us.toArray.size).all fun _ => true) = true from List.all_eq_true.mpr fun _ _ => rfl]
        exact q
    · rename_i l k
      simp only [Bool.and_eq_true] at h
      obtain ⟨a, ks, ea, ha, ta, ra⟩ := (RS.of r1).dct_
      obtain ⟨b, ls, eb, hb, tb, rb⟩ := (RS.of r2).dct_
      subst ea eb
      cases (show v = Value.ref a from rx)
      cases (show u = Value.ref b from ry)
      refine ne_of_lb fun E Q q => ?_
      obtain ⟨_, ya, va, rva, da⟩ := dK_rd I ha
      obtain ⟨_, yb, vb, rvb, db⟩ := dK_rd I hb
      refine PySem.W.rcP_dicts (knd := mixKind X.prog X.w) (r := true) ya yb da db (by omega) (fun _ => allK_run ih rb rvb ra rva h.2) E Q ?_
      have e : va.length = vb.length := by
        rw [← rva.length, ← rvb.length, ← ra.rs.length, ← rb.rs.length]; exact Nat.eq_of_beq_eq_true h.1
      rw [show (va.length == vb.length && true) = true from by rw [e]; simp]
      exact q
    · exact eqT_flat r1 r2 h rx ry
/-- ==, != of data; of equal tuples with dicts within -/
def fEqX (neg : Bool) (h : SHp) (x y : SV) : Option SV := match dat (drf h x), dat (drf h y) with
  | some d, some e => if SeqAt.shaped d && SeqAt.shaped e then some (.bl (if neg then !PyData.eqv d e else PyData.eqv d e)) else none
  | _, _ => match x, y with
    | .tup l, .tup k => if all2 (eqT 60) l k then some (.bl !neg) else none
    | _, _ => none
theorem fEqX_split {neg : Bool} {h : SHp} {x y z : SV} (e : fEqX neg h x y = some z) : fEq neg h x y = some z ∨ ∃ l k, x = .tup l ∧ y = .tup k ∧ all2 (eqT 60) l k = true ∧ z = .bl !neg := by
  unfold fEqX at e
  split at e
  · rename_i d d' h1 h2
    exact .inl (by unfold fEq; rw [h1, h2]; exact e)
  · split at e
    · rename_i l k _
      split at e
      · rename_i ha
        cases e
        exact .inr ⟨l, k, rfl, rfl, ha, rfl⟩
      · cases e
    · cases e
theorem o_eqX (hu : X.A.units + 64 < cLine) : OpR X (compareOp .Eq) (rv2 ⟨X.K, G⟩ (fEqX false)) := by
  intro pins s σ H V1 V2 v u Q I rx ry ⟨μ, h, x, y, z, S, r1, r2, e, q⟩
  rcases fEqX_split e with e | ⟨l, k, rfl, rfl, ha, rfl⟩
  · exact o_eq hu pins s σ H V1 V2 v u Q I rx ry ⟨μ, h, x, y, z, S, r1, r2, e, q⟩
  · obtain ⟨a, vs, ea, hta, ra⟩ := r1.tup_
    obtain ⟨b, ws, eb, htb, rb⟩ := r2.tup_
    subst ea eb
    cases (show v = Value.ref a from rx)
    cases (show u = Value.ref b from ry)
    obtain ⟨its, rv, e1, z⟩ := I.tuple hta
    obtain ⟨its2, rv2, e2, z2⟩ := I.tuple htb
    have hsz : its.toArray.size = its2.toArray.size := by
      rw [List.size_toArray, List.size_toArray, ← rv.length, ← rv2.length, ← ra.length, ← rb.length]; exact all2_len ha
    show wpAny (model X.prog X.w) X.A (richCompare .Eq (.ref a) (.ref b)) (EP X pins σ Q) X.xe s
    refine GQ.rc_tupG hsz (by omega) (fun _ s' => s' = s) e1 e2 (fun i h1 h2 s' es => ?_) (fun s' es => by subst es; exact ⟨.bl true, H, I, rfl, q μ H _ Fr.refl S (.of (.bl true))⟩) rfl
    subst es
    exact all2_run (eqT_run (G := G) I 60 X.A.in1 (by show X.A.units + 1 + 60 < cLine; omega)) ha ra rb rv rv2 i (by simpa using h1) (by simpa using h2) _ _ ⟨rfl, rfl⟩
theorem o_neX (hu : X.A.units + 64 < cLine) : OpR X (compareOp .NotEq) (rv2 ⟨X.K, G⟩ (fEqX true)) := by
  intro pins s σ H V1 V2 v u Q I rx ry ⟨μ, h, x, y, z, S, r1, r2, e, q⟩
  rcases fEqX_split e with e | ⟨l, k, rfl, rfl, ha, rfl⟩
  · exact o_ne hu pins s σ H V1 V2 v u Q I rx ry ⟨μ, h, x, y, z, S, r1, r2, e, q⟩
  · obtain ⟨a, vs, ea, hta, ra⟩ := r1.tup_
    obtain ⟨b, ws, eb, htb, rb⟩ := r2.tup_
    subst ea eb
    cases (show v = Value.ref a from rx)
    cases (show u = Value.ref b from ry)
    obtain ⟨its, rv, e1, z⟩ := I.tuple hta
    obtain ⟨its2, rv2, e2, z2⟩ := I.tuple htb
    have hsz : its.toArray.size = its2.toArray.size := by
      rw [List.size_toArray, List.size_toArray, ← rv.length, ← rv2.length, ← ra.length, ← rb.length]; exact all2_len ha
    show wpAny (model X.prog X.w) X.A (richCompare .NotEq (.ref a) (.ref b)) (EP X pins σ Q) X.xe s
    refine GQ.ev_ne_tupG hsz (by omega) (fun _ s' => s' = s) e1 e2 (fun i h1 h2 s' es => ?_) (fun s' es => by subst es; exact ⟨.bl false, H, I, rfl, q μ H _ Fr.refl S (.of (.bl false))⟩) rfl
    subst es
    exact all2_run (eqT_run (G := G) I 60 X.A.in1 (by show X.A.units + 1 + 60 < cLine; omega)) ha ra rb rv rv2 i (by simpa using h1) (by simpa using h2) _ _ ⟨rfl, rfl⟩
end
end EV

/-! EV15: own __eq__, __bool__; class names; star defs; list * int; dict displays; unpacking; locks. -/
namespace PySem.W
open PySem PySem.Spec PySem.Calls PyProof.Rows Builtin Builtin.ObjectAttr Builtin.Getset_descriptor
section
variable {prog : Program} {w : World} {A : Around} {E : Value → Shared → Prop} {s : Shared} {K : Frag} {x C L f : Addr} {ox : Obj} {od : Option Obj} {b tb : Value}
/-- a built-in special method that is found on the class -/
theorem ev_ifBound_B {M : Model} {args : List Value} {Q : Option Value → Shared → Prop} {name : Str} {id : String} (X : K.In s.heap) (I : InstAt s.heap x ox C od) (hs : findIn K (.ref C) name = some (some (.builtin id))) (hb : ∀ self, bindSpecial (.builtin id) self = pure (.builtin id, [self]))
    (h : wpAny M A (call (.builtin id) (.ref x :: args)) (fun v => Q (some v)) E s) : wpAny M A (callSpecialIfBound? (.ref x) name args) Q E s := by
  simp only [callSpecialIfBound?, bindSpecialIfBound?]
  refine wpAny_holding (wpAny_bind (wpAny_bind (wpAny_bind (I.type.here ((looks_findIn X hs).here ?_)))))
  refine wpAny_bind (wpAny_askSetting (wpAny_ite ?_))
  have fin : wpAny M A (call (.builtin id) ([.ref x] ++ args) >>= fun v => pure (some v)) Q E s := wpAny_bind (wpAny_mono h (fun v s' h' => wpAny_pure h') fun _ _ h' => h')
  have hbb : Looks M s.heap (bindSpecial (.builtin id) (.ref x)) (.builtin id, [.ref x]) := Looks.of_pure (hb _)
  split
  · exact wpAny_bind (hbb.here (wpAny_pure (by exact fin)))
  · exact wpAny_tryCatch (wpAny_bind (hbb.here (wpAny_pure (by exact fin))))
def EvBool (Q : Bool → Shared → Prop) (v : Value) (s' : Shared) : Prop := ∃ k, v = .bool k ∧ Q k s'
theorem ev_tryEq {Q : Option Value → Shared → Prop} (X : K.In s.heap) (I : InstAt s.heap x ox C od) (hs : findIn K (.ref C) "__eq__" = some (some (.ref f))) (hf : isFn K (.ref f) = true)
    (h : wpAny (model prog w) A (call (.ref f) [.ref x, b]) (EvBool fun k => Q (some (.bool k))) E s) : wpAny (model prog w) A (tryCompare (.ref x) "__eq__" b) Q E s := by
  unfold tryCompare
  refine wpAny_bind (ifBound_K X I hs hf (wpAny_mono h (fun v s' hv => ?_) fun _ _ e => e))
  obtain ⟨k, rfl, q⟩ := hv
  exact wpAny_pure q
theorem ev_objNe {Q : Fin → Shared → Prop} (hu : A.units < cLine) (X : K.In s.heap) (I : InstAt s.heap x ox C od) (hs : findIn K (.ref C) "__eq__" = some (some (.ref f))) (hf : isFn K (.ref f) = true)
    (h : wpAny (model prog w) A (call (.ref f) [.ref x, b]) (EvBool fun k => Q (.done (.ret (.bool !k)))) E s) : wpAny (model prog w) A (Builtin.«object.__ne__» ⟨[.ref x, b], []⟩) Q E s := by
  unfold Builtin.«object.__ne__»
  repeat (first
    | with_reducible refine wpAny_cRoomFor hu ?_
    | (refine wpAny_bind (m := callSpecialIfBound? (.ref x) (Str.ofString "__eq__") [b])
        (ifBound_K X I hs hf (wpAny_mono h (fun r s' hr => by
          obtain ⟨k, rfl, hq⟩ := hr
          repeat (first | exact hq | exact wpAny_pure hq | exact wpAny_truthy_bool hq | (refine wpAny_bind (m := truthy (.bool _)) (wpAny_truthy_bool ?_)) | wp_step)) fun _ _ e => e)))
    | wp_step)
theorem ev_tryNe {Q : Option Value → Shared → Prop} (hu : A.units + 1 < cLine) (X : K.In s.heap) (I : InstAt s.heap x ox C od) (hn : findIn K (.ref C) "__ne__" = some (some (.builtin "object.__ne__"))) (ho : subIn K (.ref C) (.type "object") = some true)
    (hs : findIn K (.ref C) "__eq__" = some (some (.ref f))) (hf : isFn K (.ref f) = true)
    (h : wpAny (model prog w) A.in1 (call (.ref f) [.ref x, b]) (EvBool fun k => Q (some (.bool !k))) E s) : wpAny (model prog w) A (tryCompare (.ref x) "__ne__" b) Q E s := by
  unfold tryCompare
  refine wpAny_bind (ev_ifBound_B X I hn F.cmp_object.ne.bind (wpAny_call (codeAny_call_builtin F.cmp_object.ne.plain F.cmpEntry_ne
    (check_slot F.cmpKind_ne F.cmpSplit_ne (I.type.andThen (looks_subIn X ho)) (F.cmpArgs_ne _ _) (ev_objNe (A := A.in1) hu X I hs hf (wpAny_mono h (fun v s' hv => ?_) fun _ _ e => e))))))
  obtain ⟨k, rfl, q⟩ := hv
  refine ⟨k, rfl, ?_⟩
  exact wpAny_pure q
/-- a rich comparison by tryCompare of one of the two -/
theorem ev_rich_l {op : CmpOp} {Q : Value → Shared → Prop} (hu : A.units < cLine) (X : K.In s.heap) (I : InstAt s.heap x ox C od) (hb : Looks (model prog w) s.heap (typeOf b) tb) (hn : notFirst K C tb = true)
    (h : wpAny (model prog w) A (tryCompare (.ref x) (cmpInfo op).2.1 b) (fun r s' => ∃ v, r = some v ∧ Q v s') E s) : wpAny (model prog w) A (richCompare op (.ref x) b) Q E s := by
  unfold richCompare
  simp only [oneThing_ref]
  refine wpAny_holding (wpAny_bind (wpAny_cRoomFor hu ?_))
  refine wpAny_bind (I.type.here (wpAny_bind (hb.here ?_)))
  split
  · rename_i q
    have e : subIn K tb (.ref C) = some false := by
      rcases Bool.or_eq_true_iff.mp hn with e | e
      · rw [beq_iff_eq.mp e] at q; simp at q
      · exact beq_iff_eq.mp e
    refine wpAny_bind ((looks_subIn X e).here ?_)
    simp only [Bool.false_eq_true, if_false]
    refine wpAny_bind (wpAny_mono h (fun r s' z => ?_) fun _ _ e => e)
    obtain ⟨v, rfl, hq⟩ := z
    exact wpAny_pure hq
  · refine wpAny_bind (wpAny_pure ?_)
    simp only [Bool.false_eq_true, if_false]
    refine wpAny_bind (wpAny_mono h (fun r s' z => ?_) fun _ _ e => e)
    obtain ⟨v, rfl, hq⟩ := z
    exact wpAny_pure hq
theorem ev_rich_r {op : CmpOp} {Q : Value → Shared → Prop} {y D : Addr} {oy : Obj} {oe : Option Obj} (hu : A.units < cLine) (X : K.In s.heap) (I : InstAt s.heap x ox C od) (J : InstAt s.heap y oy D oe) (hn : subIn K (.ref D) (.ref C) = some true) (ne : D ≠ C)
    (h : wpAny (model prog w) A (tryCompare (.ref y) (cmpInfo op).2.2 (.ref x)) (fun r s' => ∃ v, r = some v ∧ Q v s') E s) : wpAny (model prog w) A (richCompare op (.ref x) (.ref y)) Q E s := by
  unfold richCompare
  simp only [oneThing_ref]
  refine wpAny_holding (wpAny_bind (wpAny_cRoomFor hu ?_))
  refine wpAny_bind (I.type.here (wpAny_bind (J.type.here ?_)))
  have q : ((Value.ref C != Value.ref D) = true) := by simp; exact fun z => ne z.symm
  rw [if_pos q]
  refine wpAny_bind ((looks_subIn X hn).here ?_)
  simp only [if_true]
  refine wpAny_bind (wpAny_mono h (fun r s' z => ?_) fun _ _ e => e)
  obtain ⟨v, rfl, hq⟩ := z
  show wpAny (model prog w) A (rule "compare.subclass-reflected-first" >>= fun _ => pure v) Q E s'
  exact wpAny_bind (wpAny_rule (wpAny_pure hq))

/-! ### the name of an own class -/
theorem ev_dga (d tp : Value) (C : Addr) : descrGetArgs ⟨[d, .ref C, tp], []⟩ = pure (d, some (.ref C), given tp) := by kernel_rfl
theorem ev_cn_get {R : Result → Shared → Prop} {tp : Value} {o : Obj} {v : Value} (X : K.In s.heap) (ht : typeIn K (.ref C) = some (.type "type")) (ho : K.lookup C = some o) (hv : o.slots[2]? = some (some v)) (h : R (.ok (.ret v)) s) :
    codeAny (model prog w) A (.call (.builtin "getset_descriptor.__get__") ⟨[.builtin "type.__name__", .ref C, tp], []⟩) R s := by
  obtain ⟨hh, g, dr, t, os⟩ := s
  have L0 : Looks (model prog w) hh (typeOf (.ref C)) (.type "type") := looks_typeIn X ht
  have L1 : Looks (model prog w) hh (isSubtype (.type "type") (.type "type")) true := Looks.of_pure (by rw [isSubtype_type]; kernel_rfl)
  have hget := X _ _ ho
  refine codeAny_call_builtin KF.slot_gs.plain KF.entry_gs (KF.slot_gs.check _ _ _ _ _ _ _ _ ktyn_type (KF.args_gs _ _ _) ?_)
  unfold Builtin.«getset_descriptor.__get__» descrGet
  rw [ev_dga]
  refine wpAny_bind (wpAny_pure ?_)
  unfold descrGetter descrCheckInstance descrNameAndClass isInstance
  simp only [ktyn_owner]
  repeat lk
  refine ⟨Code.quiet_builtin _ (by decide +kernel), codeAny_builtin ktyn_entry ?_⟩
  unfold Builtin.«type.__name__»
  dsimp only
  unfold keptObject slotAt
  dsimp only
  refine wpAny_bind (wpAny_bind (wpAny_loadPart hget (wpAny_pure ?_)))
  rw [hv]
  simp only [Option.join]
  first | exact wpAny_pure h | exact wpAny_bind (wpAny_pure h)
theorem ev_cn {expr : Bool} {Q : Value → Shared → Prop} {o : Obj} {v : Value} (X : K.In s.heap) (ht : typeIn K (.ref C) = some (.type "type")) (ho : K.lookup C = some o) (hv : o.slots[2]? = some (some v)) (hh : handedIn v = true) (hst : nsIn K cStatics "thirdparty.any" = some none)
    (e : findCls K (.ref C) (.type "type") "__name__" = some (.get (.builtin "getset_descriptor.__get__") (.builtin "type.__name__") (.ref C) (.type "type")))
    (h : Q v { s with toks := s.toks + 1 }) : wpAny (model prog w) A (getAttr (.ref C) "__name__" expr) Q E s := by
  have L0 : Looks (model prog w) s.heap (typeOf (.ref C)) (.type "type") := looks_typeIn X ht
  have LO : Looks (model prog w) s.heap (opaqueClassAbove (.ref C)) none := looks_opaque X hst
  have hg : findIn K (.type "type") "__getattribute__" = some (some (.builtin "type.__getattribute__")) := type_tga
  refine cls_open X LO L0 hg (looks_hook X (r := none) (by rfl)) (by show subIn K _ _ = _; rfl) e ?_
  show wpAny _ _ (do ret (← holding [Value.builtin "type.__name__"] (call (.builtin "getset_descriptor.__get__") [.builtin "type.__name__", .ref C, .type "type"]))) _ _ _
  refine wpAny_bind (wpAny_holding (wpAny_call (ev_cn_get (s := { s with toks := s.toks + 1 }) X ht ho hv ?_)))
  exact wpAny_pure (handed_on hh h)
end
end PySem.W

/-! EV16: own __eq__, __bool__ as operators; class names. -/
namespace EV
open PySem PySem.Spec PyProof.Rows L2

def E0' : XK := fun _ _ _ => False
def rO (K : KG) (kf : SV → SV → SHp → R) : R2 := fun V1 V2 H Q => ∃ μ h x y, Sim K μ h H ∧ RS K μ h.length H x V1 ∧ RS K μ h.length H y V2 ∧ Post K μ h.length H (kf x y h) Q E0'
def rOL (K : KG) (kf : List SV → SHp → R) : List V → Hp → VK → Prop := fun Vs H Q => ∃ μ h xs, Sim K μ h H ∧ RSs K μ h.length H xs Vs ∧ Post K μ h.length H (kf xs h) Q E0'
def noX : R → R
  | .exc _ _ _ => .bad
  | r => r
def mO (kf : SV → SV → SHp → R) (a b : M) : M := bnd a fun x => bnd b fun y _ h => noX (kf x y h)
def mOL (kf : List SV → SHp → R) (ms : List M) : M := argsM ms fun vs _ h => noX (kf vs h)
theorem post_noX {K : KG} {μ : Nat → Addr} {n : Nat} {H : Hp} {r : R} {Q : VK} {E : XK} (p : Post K μ n H (noX r) Q E) : Post K μ n H r Q E0' := by
  cases r with
  | val v h => exact p
  | exc C fs h => exact p.elim
  | bad => exact p
section
variable {X : Cx} {G : Nat → Addr} {a b : Expr} {ma mb : M} {pos p : Pos} {kf : SV → SV → SHp → R} {kl : List SV → SHp → R} {x : Str} {e : Expr} {es : List Expr} {ms : List M} {T : String}
theorem e_cmpO {op : CmpOp} (ho : OpR X (compareOp op) (rO ⟨X.K, G⟩ kf)) (ha : PEs G X a ma) (hb : PEs G X b mb) (hm : behindInMarks op b = false) : PEs G X (.Compare a [op] [b] pos) (mO kf ma mb) :=
  ⟨fun W tk => wkPE (pe_cmpR ho (ha.run W tk) (hb.run W tk) hm) fun σ H Q x => rd_imp (rd_bnd x) fun V H1 y => rd_imp (rd1_bnd y) fun V2 H2 ⟨μ, σs, h, u, v, S, st, r1, r2, p⟩ => ⟨μ, h, u, v, S, r1, r2, post_noX p⟩⟩
theorem t_cmpO {op : CmpOp} (ho : OpR X (compareOp op) (rO ⟨X.K, G⟩ fun x y h => kf x y h)) (ha : PEs G X a ma) (hb : PEs G X b mb) (hm : behindInMarks op b = false)
    (hB : ∀ x y h v h', kf x y h = .val v h' → ∃ k, v = .bl k) : PTs G X (.Compare a [op] [b] pos) (mO kf ma mb) :=
  ⟨fun W tk => wkPT (pt_cmpR ho (ha.run W tk) (hb.run W tk) hm) fun σ H Q x => rd_imp (rd_bnd x) fun V H1 y => rd_imp (rd1_bnd y) fun V2 H2 ⟨μ, σs, h, u, v, S, st, r1, r2, p⟩ => ⟨μ, h, u, v, S, r1, r2, post_noX p⟩⟩
theorem e_callTyO (hc : CallR X (.type T) (rOL ⟨X.K, G⟩ kl)) (hg : Gl X x) (hm : X.mg x = none) (hv : bootBuiltins x = some (.type T)) (ha : PAs G X (e :: es) ms) (hn : x ≠ "__name__" := by decide) (hdb : (x == ("__debug__" : Str)) = false := by decide)
    (he : starEach (e :: es) X.env = (false, eval e X.env) :: starEach es X.env := by rfl) (hpl : (backTo pos (starEach es X.env)).any (·.1) = false := by rfl) : PEs G X (.Call (.Name x p) (e :: es) [] pos) (mOL kl ms) :=
  ⟨fun W tk => wkPE (pe_callTy hc hg hm hv (ha.run W tk) hn hdb he hpl) fun σ H Q y => tAs_imp (rd_args y) fun Vs H1 ⟨μ, σs, h, xs, S, st, r, p⟩ => ⟨μ, h, xs, S, r, post_noX p⟩⟩
end

/-! ### a def run somewhere below the body -/
section
variable {X : Cx} {G : Nat → Addr} {k : Nat} {f : Addr} {C : Nat} {fd : FuncData} {ps : List Str} {sem : List SV → SHp → R} {pins : List (Addr × Obj)} {σ : L2.St} {H : Hp} {s : Shared}
theorem run_sub {A : Around} {Q : VK} {us : List Value} {Vs : List V} (sb : Sub X k A) (F : FnS X.prog X.w X.K X.mg X.base G k f fd ps sem) (I : Inv X pins σ H s) (hb : Binds X.K fd ps []) (r : Vals Vs us) (hl : Vs.length = ps.length)
    {μ : Nat → Addr} {h : SHp} {xs : List SV} (S : Sim ⟨X.K, G⟩ μ h H) (rs : RSs ⟨X.K, G⟩ μ h.length H xs Vs) (p : Post ⟨X.K, G⟩ μ h.length H (sem xs h) Q E0') :
    wpAny (model X.prog X.w) A (call (.ref f) us) (EP X pins σ Q) X.xe s := by
  have e0 : Env0 X.prog X.w X.K X.mg X.base A X.stack s H := by
    have e := I.env0
    exact ⟨by rw [sb.fr]; exact e.frames, e.mod, e.bs, e.bsz, e.funs, e.frf, e.hok, e.bare⟩
  have hlu : (us ++ []).length = ps.length := by rw [List.append_nil, ← r.length]; exact hl
  refine wpAny_call (codeAny_mono (F.run A X.stack s H ⟨us, []⟩ us Vs Q E0' sb.room e0 (by
    have := hb s us I.kIn hlu
    rw [List.append_nil] at this
    exact this) r ⟨hl, μ, h, xs, S, rs, p⟩) fun r s' hq => ?_)
  cases r with
  | error e => exact passAt' (W := W0) tk0 σ pins H s e s' I hq
  | ok fl =>
    cases fl with
    | ret w => exact I.after hq
    | next => exact False.elim hq
    | brk => exact False.elim hq
    | cont => exact False.elim hq
end
def finB (neg : Bool) : R → R
  | .val (.bl k) h => .val (.bl (xr neg k)) h
  | _ => .bad
/-- x == y, x != y of an instance of C, sem its __eq__; sw: the classes over C that have the same one -/
def kEqO (neg : Bool) (C : Nat) (sem : List SV → SHp → R) (sw : List Nat) (nf cl xl : Nat → Bool) (x y : SV) (h : SHp) : R := match drf h x with
  | .ins C' _ => if Nat.beq C' C then match drf h y with
      | .ins D _ => if sw.contains D then finB neg (sem [y, x] h) else if cl D && nf (20 + D) then finB neg (sem [x, y] h) else .bad
      | _ => if okTy cl xl h y then match tagS h y with
        | some t => if nf t then finB neg (sem [x, y] h) else .bad
        | none => .bad else .bad
    else .bad
  | _ => .bad
theorem finB_bl {neg : Bool} {r : R} {v : SV} {h' : SHp} (e : finB neg r = .val v h') : ∃ k, v = .bl k := by
  unfold finB at e
  split at e
  · cases e; exact ⟨_, rfl⟩
  · cases e
theorem kEqO_bl {neg : Bool} {C : Nat} {sem : List SV → SHp → R} {sw : List Nat} {nf cl xl : Nat → Bool} (x y : SV) (h : SHp) (v : SV) (h' : SHp) (e : kEqO neg C sem sw nf cl xl x y h = .val v h') : ∃ k, v = .bl k := by
  unfold kEqO at e
  repeat' (split at e)
  all_goals first
    | exact finB_bl e
    | cases e
structure EqOk (K : PySem.W.Frag) (G : Nat → Addr) (C : Nat) (f : Addr) (sw : List Nat) (nf : Nat → Bool) : Prop where
  eq : PySem.W.findIn K (.ref (G C)) "__eq__" = some (some (.ref f))
  fn : PySem.W.isFn K (.ref f) = true
  sw : ∀ D ∈ sw, PySem.W.findIn K (.ref (G D)) "__eq__" = some (some (.ref f)) ∧ PySem.W.subIn K (.ref (G D)) (.ref (G C)) = some true ∧ G D ≠ G C ∧
    PySem.W.findIn K (.ref (G D)) "__ne__" = some (some (.builtin "object.__ne__")) ∧ PySem.W.subIn K (.ref (G D)) (.type "object") = some true
  nf : ∀ t, nf t = true → PySem.W.notFirst K (G C) (tagV G t) = true
  ne : PySem.W.findIn K (.ref (G C)) "__ne__" = some (some (.builtin "object.__ne__"))
  ob : PySem.W.subIn K (.ref (G C)) (.type "object") = some true
section
variable {X : Cx} {G : Nat → Addr} {k : Nat} {f : Addr} {C : Nat} {fd : FuncData} {ps : List Str} {sem : List SV → SHp → R} {sw : List Nat} {nf cl xl : Nat → Bool} {isi : Nat → Nat → Option Bool}
theorem post_finB {K : KG} {μ : Nat → Addr} {n : Nat} {H : Hp} {neg : Bool} {r : R} {Q : VK} (p : Post K μ n H (finB neg r) Q E0') : Post K μ n H r (fun V H' => ∃ k, V = .bl k ∧ Q (.bl (xr neg k)) H') E0' := by
  unfold finB at p
  split at p
  · rename_i k h
    intro μ' H' V fr S r
    cases r.bl_
    exact ⟨k, rfl, p μ' H' _ fr S (.of (.bl _))⟩
  · exact p.elim
/-- the operator from its two roads -/
theorem o_eqG (neg : Bool) {op : CmpOp} (O : IsiOk X.K G isi cl xl) (E : EqOk X.K G C f sw nf) (F : FnS X.prog X.w X.K X.mg X.base G k f fd ps sem) (hr : Room (k + 1) X.A) (hb : Binds X.K fd ps []) (hl : ps.length = 2)
    (try_ : ∀ {s : Shared} {x D : Addr} {ox : Obj} {od : Option Obj} {u : Value} {Q : Option Value → Shared → Prop}, X.K.In s.heap → PySem.W.InstAt s.heap x ox D od → PySem.W.findIn X.K (.ref D) "__eq__" = some (some (.ref f)) → PySem.W.findIn X.K (.ref D) "__ne__" = some (some (.builtin "object.__ne__")) → PySem.W.subIn X.K (.ref D) (.type "object") = some true →
      (∀ A, Sub X k A → wpAny (model X.prog X.w) A (call (.ref f) [.ref x, u]) (PySem.W.EvBool fun b => Q (some (.bool (xr neg b)))) X.xe s) → wpAny (model X.prog X.w) X.A (tryCompare (.ref x) (cmpInfo op).2.1 u) Q X.xe s)
    (hsame : (cmpInfo op).2.2 = (cmpInfo op).2.1) (hop : ∀ a b, compareOp op a b = richCompare op a b) : OpR X (compareOp op) (rO ⟨X.K, G⟩ (kEqO neg C sem sw nf cl xl)) := by
  intro pins s σ H V1 V2 v u Q I rx ry ⟨μ, h, x, y, S, r1, r2, p⟩
  rw [hop]
  unfold kEqO at p
  split at p
  · rename_i C' fs hx
    split at p
    · rename_i hC
      have ec : C' = C := Nat.eq_of_beq_eq_true hC
      subst ec
      obtain ⟨ax, dx, fsx, e1, hax, _⟩ := drf_ins S hx r1
      subst e1
      cases (show v = Value.ref ax from rx)
      obtain ⟨mA, J, _⟩ := ins_get I.hok hax
      obtain ⟨od, J, _⟩ := J.look
      have go : ∀ (z : SV) (hz : finB neg (sem [x, z] h) = finB neg (sem [x, y] h) → True), True := fun _ _ => trivial
      -- x's own road
      have left : ∀ {tb : Value}, (∀ M : Model, PySem.W.Looks M s.heap (typeOf u) tb) → PySem.W.notFirst X.K (G C') tb = true → Post ⟨X.K, G⟩ μ h.length H (finB neg (sem [x, y] h)) Q E0' →
          wpAny (model X.prog X.w) X.A (richCompare op (.ref ax) u) (EP X pins σ Q) X.xe s := by
        intro tb ht hn p
        refine PySem.W.ev_rich_l (hr.mono (Nat.le_succ k)).units0 I.kIn J (ht _) hn (try_ I.kIn J E.eq E.ne E.ob fun A sb => ?_)
        refine wpAny_mono (run_sub sb F I hb (Vs := [V.ref ax, V2]) (.cons rfl (.cons ry .nil)) (by simp [hl]) S (.cons r1 (.cons r2 .nil)) (post_finB p)) (fun w s' hw => ?_) fun _ _ e => e
        obtain ⟨V, H', I', rw', b, eV, q⟩ := hw
        subst eV
        cases rw'
        exact ⟨b, rfl, _, rfl, ⟨.bl (xr neg b), H', I', rfl, q⟩⟩
      split at p
      · rename_i D fy hy
        obtain ⟨ay, dy, fsy, e2, hay, _⟩ := drf_ins S hy r2
        subst e2
        cases (show u = Value.ref ay from ry)
        obtain ⟨mB, J', _⟩ := ins_get I.hok hay
        obtain ⟨od', J', _⟩ := J'.look
        split at p
        · rename_i hD
          obtain ⟨s1, s2, s3, s4, s5⟩ := E.sw D (by simpa using hD)
          refine PySem.W.ev_rich_r (hr.mono (Nat.le_succ k)).units0 I.kIn J J' s2 s3 ?_
          rw [hsame]
          refine try_ I.kIn J' s1 s4 s5 fun A sb => ?_
          refine wpAny_mono (run_sub sb F I hb (Vs := [V.ref ay, V.ref ax]) (.cons rfl (.cons rfl .nil)) (by simp [hl]) S (.cons r2 (.cons r1 .nil)) (post_finB p)) (fun w s' hw => ?_) fun _ _ e => e
          obtain ⟨V, H', I', rw', b, eV, q⟩ := hw
          subst eV
          cases rw'
          exact ⟨b, rfl, _, rfl, ⟨.bl (xr neg b), H', I', rfl, q⟩⟩
        · split at p
          · rename_i hD
            simp only [Bool.and_eq_true] at hD
            have n2 := E.nf _ hD.2
            rw [tagV_own] at n2
            exact left (fun M => J'.type) n2 p
          · exact p.elim
      · split at p
        · rename_i ok
          split at p
          · rename_i t tt
            split at p
            · rename_i hn
              obtain ⟨P, Z, pz, _⟩ := kit_sv O I S r2 ry tt ok
              exact left (fun M => Z.ty M s.heap I.kIn pz) (E.nf _ hn) p
            · exact p.elim
          · exact p.elim
        · exact p.elim
    · exact p.elim
  · exact p.elim
theorem o_eqO (O : IsiOk X.K G isi cl xl) (E : EqOk X.K G C f sw nf) (F : FnS X.prog X.w X.K X.mg X.base G k f fd ps sem) (hr : Room (k + 1) X.A) (hb : Binds X.K fd ps []) (hl : ps.length = 2) :
    OpR X (compareOp .Eq) (rO ⟨X.K, G⟩ (kEqO false C sem sw nf cl xl)) :=
  o_eqG false O E F hr hb hl (fun {s x D ox od u Q} K I he _ _ h => PySem.W.ev_tryEq K I he E.fn (wpAny_mono (h X.A ⟨hr.mono (Nat.le_succ k), rfl⟩) (fun v s' z => z) fun _ _ e => e)) rfl fun _ _ => rfl
theorem o_neO (O : IsiOk X.K G isi cl xl) (E : EqOk X.K G C f sw nf) (F : FnS X.prog X.w X.K X.mg X.base G k f fd ps sem) (hr : Room (k + 1) X.A) (hb : Binds X.K fd ps []) (hl : ps.length = 2) :
    OpR X (compareOp .NotEq) (rO ⟨X.K, G⟩ (kEqO true C sem sw nf cl xl)) :=
  o_eqG true O E F hr hb hl (fun {s x D ox od u Q} K I he hn ho h => PySem.W.ev_tryNe (by have := hr.un; omega) K I hn ho he E.fn (h X.A.in1 ⟨hr.in1, rfl⟩)) rfl fun _ _ => rfl
end

/-! ### bool(x) by an own __bool__ -/
def kBool (C : Nat) (sem : List SV → SHp → R) : List SV → SHp → R
  | [x], h => match drf h x with
    | .ins C' _ => if Nat.beq C' C then finB false (sem [x] h) else .bad
    | _ => .bad
  | _, _ => .bad
section
variable {X : Cx} {G : Nat → Addr} {k : Nat} {f : Addr} {C : Nat} {fd : FuncData} {ps : List Str} {sem : List SV → SHp → R}
theorem ev_bool_new {prog : Program} {w : World} {x : Addr} : MeetsIn prog w (Builtin.«bool.__new__» ⟨[.type "bool", .ref x], []⟩) (fun A R s => wpAny (model prog w) A.in1 (truthy (.ref x)) (fun b s' => R (.ok (.ret (.bool b))) s') (fun e s' => R (.error e) s') s) :=
  .of_wp fun A R s hs => by
    obtain ⟨hp, g, d, tk, os⟩ := s
    have f1 := F.conv_sub_bool
    repeat (any_goals (first | assumption | (with_reducible refine wpAny_bind (wpAny_mono hs (fun b s' hb => ?_) fun _ _ e => e)) | wp_step))
    all_goals first | exact ⟨_, rfl, hb⟩ | exact hb | skip
theorem c_bool (hs : PySem.W.findIn X.K (.ref (G C)) "__bool__" = some (some (.ref f))) (hf : PySem.W.isFn X.K (.ref f) = true) (Fb : FnS X.prog X.w X.K X.mg X.base G k f fd ps sem) (hr : Room (k + 2) X.A) (hb : Binds X.K fd ps []) (hl : ps.length = 1) : CallR X (.type "bool") (rOL ⟨X.K, G⟩ (kBool C sem)) := by
  intro pins s σ H Vs us Q I r ⟨μ, h, xs, S, rs, p⟩
  unfold kBool at p
  split at p
  · rename_i x
    obtain ⟨v, ev, r1⟩ := rss1 rs
    subst ev
    obtain ⟨u, rfl, rx⟩ := vals1 r
    split at p
    · rename_i C' fs hx
      split at p
      · rename_i hC
        have ec : C' = C := Nat.eq_of_beq_eq_true hC
        subst ec
        obtain ⟨ax, dx, fsx, e1, hax, _⟩ := drf_ins S hx r1
        subst e1
        cases (show u = Value.ref ax from rx)
        obtain ⟨mA, J, _⟩ := ins_get I.hok hax
        obtain ⟨od, J, _⟩ := J.look
        obtain ⟨m, hF⟩ := I.fr
        have sb : Sub X k X.A.in1.in1 := ⟨hr.in1.in1, rfl⟩
        refine callType_newIn PySem.F.called_bool PySem.F.newNe_bool (PySem.F.typeCall_bool_1 _) (PySem.F.newCall_bool_1 _) (fun obj => PySem.F.args_object_init_2 obj _) PySem.F.entry_bool_new ev_bool_new ?_
        show wpAny _ X.A.in1.in1 (truthy (.ref ax)) _ _ s
        refine PySem.W.truthy_K hF I.ok.mod.kin J hs hf ?_
        refine wpAny_mono (run_sub sb Fb I hb (Vs := [V.ref ax]) (.cons rfl .nil) (by simp [hl]) S (.cons r1 .nil) (post_finB p)) (fun w s' hw => ?_) fun _ _ e => e
        obtain ⟨V, H', I', rw', b, eV, q⟩ := hw
        subst eV
        cases rw'
        exact ⟨rfl, ⟨.bl b, H', I', rfl, q⟩⟩
      · exact p.elim
    · exact p.elim
  · exact p.elim
end

/-! ### x.__class__.__name__ -/
structure CnOk (K : PySem.W.Frag) (C : Addr) (nm : Str) : Prop where
  i : InsK K C
  ty : PySem.W.typeIn K (.ref C) = some (.type "type")
  nm : ∃ o t, K.lookup C = some o ∧ o.slots[2]? = some (some (.str nm t))
  st : PySem.W.nsIn K cStatics "thirdparty.any" = some none
  fc : PySem.W.findCls K (.ref C) (.type "type") "__name__" = some (.get (.builtin "getset_descriptor.__get__") (.builtin "type.__name__") (.ref C) (.type "type"))
def mCn (nm : Nat → Option Cs) (a : M) : M := bnd a fun x _ h => match drf h x with
  | .ins C _ => match nm C with
    | some n => .val (.str n) h
    | none => .bad
  | _ => .bad
section
variable {X : Cx} {G : Nat → Addr} {e : Expr} {m : M} {p1 p2 : Pos} {nm : Nat → Option Cs}
theorem e_cn (he : PEs G X e m) (ok : ∀ C n, nm C = some n → CnOk X.K (G C) (toS n)) (hb : attributeBase e "__class__" X.env (eval e X.env) = eval e X.env) (hb2 : attributeBase (.Attribute e "__class__" p1) "__name__" X.env (eval (.Attribute e "__class__" p1) X.env) = eval (.Attribute e "__class__" p1) X.env) :
    PEs G X (.Attribute (.Attribute e "__class__" p1) "__name__" p2) (mCn nm m) := by
  refine ⟨fun W tk => ⟨fun pins s σ H Q I x => ?_⟩⟩
  refine attr_of hb2 (attr_of hb (thn ((he.run W tk).run pins s σ H _ I (rd_bnd x)) fun u s1 ⟨V1, H1, I1, r1, μ, σs, h, y, S, st, r, p⟩ => ?_))
  (try dsimp only at p)
  split at p
  · rename_i C fs hx
    split at p
    · rename_i n hn
      have O := ok C n hn
      obtain ⟨ax, dx, fsx, e1, hax, _⟩ := drf_ins S hx r
      subst e1
      cases (show u = Value.ref ax from r1)
      obtain ⟨mA, J, _⟩ := ins_get I1.hok hax
      obtain ⟨od, J, _⟩ := J.look
      obtain ⟨fr, hF⟩ := I1.fr
      refine PySem.W.get_class hF I1.ok.mod.kin J (O.i.cl.get _) O.i.cl.hd O.i.ha O.i.hn O.i.htk O.i.hm ?_
      obtain ⟨o, t, ho, hv⟩ := O.nm
      have K2 : X.K.In ({ s1 with toks := s1.toks + 1 } : Shared).heap := I1.kIn
      refine PySem.W.ev_cn (s := { s1 with toks := s1.toks + 1 }) K2 O.ty ho hv rfl O.st O.fc ?_
      exact ⟨.str (toS n), H1, (I1.tok _).tok _, ⟨t, rfl⟩, p μ H1 _ Fr.refl S (.of (.str n))⟩
    · exact p.elim
  · exact p.elim
end
end EV

/-! EV17: star defs; list * int; dict displays; unpacking; locks. -/
namespace EV
open PySem PySem.Spec PyProof.Rows L2

/-! ### def f(a, .., *v) -/
def tupOf (l : List SV) : Option SV := if l.all isP then some (.tup l) else if l.all noTR then some (.tupR l) else none
/-- np parameters ahead of the star -/
def starM (np : Nat) (sem : List SV → SHp → R) (xs : List SV) (h : SHp) : R := if Nat.ble np xs.length && lenOk (xs.drop np) then match tupOf (xs.drop np) with
  | some t => sem (xs.take np ++ [t]) h
  | none => .bad else .bad
def spR (K : KG) (f : List SV → SHp → R) : Sp := fun vs H Q E => ∃ μ h xs, Sim K μ h H ∧ RSs K μ h.length H xs vs ∧ Post K μ h.length H (f xs h) Q E
abbrev FnSR (P : Program) (w : World) (K : PySem.W.Frag) (mg : Str → Option Value) (base : Heap) (G : Nat → Addr) (k : Nat) (f : Addr) (sem : List SV → SHp → R) : Prop := FnR P w K mg base (L2.CX P w) k f (spR ⟨K, G⟩ sem)
section
variable {K : KG} {μ : Nat → Addr} {n : Nat} {H : Hp}
theorem RSs.take : ∀ {l : List SV} {vs : List V} (i : Nat), RSs K μ n H l vs → RSs K μ n H (l.take i) (vs.take i)
  | _, _, 0, _ => .nil
  | _, _, _ + 1, .nil => .nil
  | _, _, i + 1, .cons h t => .cons h (RSs.take i t)
theorem RSs.drop : ∀ {l : List SV} {vs : List V} (i : Nat), RSs K μ n H l vs → RSs K μ n H (l.drop i) (vs.drop i)
  | _, _, 0, h => h
  | _, _, _ + 1, .nil => .nil
  | _, _, i + 1, .cons _ t => RSs.drop i t
theorem tupOf_rel {l : List SV} {vs : List V} {t : SV} {p : Addr} (hp : H p = none) (r : RSs K μ n H l vs) (e : tupOf l = some t) : RS K μ n (upd H p (.tup vs)) t (.ref p) := by
  unfold tupOf at e
  split at e
  · rename_i hl
    cases e
    exact new_tup' hp (r.pure_ hl)
  · split at e
    · rename_i hl
      cases e
      exact .tupR (.inl (.inl upd_same)) ((r.one_ hl).fr (Fr.new hp))
    · cases e
end
theorem fn_starS {P : Program} {w : World} {K : PySem.W.Frag} {mg : Str → Option Value} {base : Heap} {G : Nat → Addr} {k : Nat} {x qual : Str} {params : Arguments} {body : List Stmt} {scope : Scope} {kws : List (Str × L2.V)} {f : Addr} {fd : FuncData} {N ps : List Str} {pv : Str} {b : MS}
    {sem : List SV → SHp → R} (F : FunD K x qual params body scope [] kws f fd) (S : FnScope N (ps ++ [pv]) scope) (hsem : ∀ vs h, ∀ {KG : KG} {μ : Nat → Addr} {H : Hp} {Q : VK} {E : XK}, Post KG μ h.length H (sem vs h) Q E → Post KG μ h.length H (retOf (b (padU N.length vs) h)) Q E)
    (hbd : ∀ (kV doc pm : Value) (an : Option Addr) (cdv ct : Value) (us rest : List Value), us.length = ps.length → bindArgs (PySem.W.fnOf x qual params body scope .none kV doc pm an cdv ct) ⟨us ++ rest, []⟩ = (newTuple rest >>= fun t => pure (ps.zip us ++ [(pv, t)])))
    (hb : ∀ (cdv : Value) (A : Around) (outer : List Env) (s : Shared) (H : Hp) (E : XK), Room k (A.deeper (envOfC qual scope s.heap.objs.size f cdv)) → PSL G (cxOf (L2.CX P w) P w K mg base N qual scope f cdv A outer s H E) body b) :
    FnSR P w K mg base G (k + 1) f (starM ps.length sem) := by
  obtain ⟨oc, od, dV, kV, doc, pm, an, cdv, ct, osl, rfl, lk, hcd, hD, _⟩ := F.ex
  obtain rfl : dV = .none := by
    rcases hD with ⟨_, e⟩ | ⟨e, _⟩
    · exact e
    · exact absurd rfl e
  have base_ := StX.fn_star (CX := L2.CX P w) (P := P) (w := w) (mg := mg) (base := base) (k := k) (sp := fun vs H Q E => ∃ μ h xs, Sim ⟨K, G⟩ μ h H ∧ RSs ⟨K, G⟩ μ h.length H xs vs ∧ Post ⟨K, G⟩ μ h.length H (sem xs h) Q E) lk hcd S StX.cxUp (hbd kV doc pm an cdv ct)
    (fun A outer s H vs Q E hr ⟨μ, h, xs, Sm, rs, p⟩ => by
      have tk : Takes (cxOf (L2.CX P w) P w K mg base N qual scope f cdv A outer s H E) (fun c d _ H => E c d H) := takes_of rfl rfl rfl rfl
      refine ⟨_, (hb cdv A outer s H E hr).run _ tk, μ, padU N.length xs, h, Sm, ?_, ?_⟩
      · have e : start N vs = vs.map some ++ List.replicate (N.length - vs.length) none := rfl
        rw [e, ← rs.length]
        exact RSt.start _ rs
      · have q := hsem xs h p
        cases e : b (padU N.length xs) h with
        | nx s h' => rw [e] at q; exact fun μ' H' σ' f S' st => q μ' H' .non f S' (.of .non)
        | rt v h' => rw [e] at q; exact q
        | exc C fs s h' => rw [e] at q; exact fun μ' H' d fs' σ' f S' st => q μ' H' d fs' f S'
        | _ => rw [e] at q; exact q.elim)
  intro A outer s H us vs Q E hr e0 r ⟨μ, h, xs, Sm, rs, p⟩
  unfold starM at p
  split at p
  · rename_i ok
    simp only [Bool.and_eq_true] at ok
    split at p
    · rename_i t ht
      have hn : ps.length ≤ xs.length := Nat.le_of_ble_eq_true ok.1
      have el := rs.length
      have hz := lenOk_le ok.2
      have ed : (xs.drop ps.length).length = (vs.drop ps.length).length := (rs.drop ps.length).length
      refine base_ A outer s H us vs Q E hr e0 r ⟨vs.take ps.length, vs.drop ps.length, (List.take_append_drop _ _).symm, by rw [List.length_take]; omega, by omega, fun q hq => ?_⟩
      have f1 : EV.Fr μ h.length H μ h.length (upd H q (.tup (vs.drop ps.length))) := Fr.new hq
      exact ⟨μ, h, xs.take ps.length ++ [t], Sm.new hq, RSs.append ((rs.take ps.length).fr f1) (.cons (tupOf_rel hq (rs.drop ps.length) ht) .nil), Post.fr f1 p⟩
    · exact p.elim
  · exact p.elim
section
variable {X : Cx} {G : Nat → Addr} {k : Nat} {f : Addr} {C : Nat} {sem : List SV → SHp → R} {x : Str} {p pos : Pos} {e : Expr} {es : List Expr} {ms : List M}
theorem run_mkR {W : WX} {pins : List (Addr × Obj)} {σ : L2.St} {H : Hp} {s : Shared} {Q : VK} {us : List Value} {vs : List L2.V} (M : Mk X.K (G C) f) (F : FnSR X.prog X.w X.K X.mg X.base G k f sem) (hr : Room (k + 1) X.A) (tk : Takes X W) (I : Inv X pins σ H s) (r : Vals vs us)
    (h : rdL ⟨X.K, G⟩ (fun vs _ h => mkM C sem vs h) vs W σ H Q) : wpAny (model X.prog X.w) X.A (call (.ref (G C)) us) (EP X pins σ Q) X.xe s := by
  obtain ⟨μ, σs, hh, xs, S, st, rs, pp⟩ := h
  have hx0 := I.hok.fresh (Nat.le_succ s.heap.objs.size)
  have hd0 := I.hok.fresh (Nat.le_refl s.heap.objs.size)
  have hne : s.heap.objs.size ≠ s.heap.objs.size + 1 := Nat.ne_of_lt (Nat.lt_succ_self _)
  obtain ⟨f1, S1⟩ := made_sim (C := C) S hx0 hd0 hne
  have I2 := Inv.made (C := G C) I
  have r2 : Vals (V.ref (s.heap.objs.size + 1) :: vs) (Value.ref (s.heap.objs.size + 1) :: us) := .cons rfl r
  have e1 : (hh ++ [SO.ins C []]).length = hh.length + 1 := by simp
  have hq : spR ⟨X.K, G⟩ sem (V.ref (s.heap.objs.size + 1) :: vs) (upd (upd H s.heap.objs.size (.own (s.heap.objs.size + 1))) (s.heap.objs.size + 1) (.ins (G C) s.heap.objs.size [])) (fun v H2 => v = .non ∧ Q (.ref (s.heap.objs.size + 1)) H2) (WE W σ) := by
    refine ⟨put μ hh.length (s.heap.objs.size + 1), hh ++ [.ins C []], .ref hh.length :: xs, S1, ?_, ?_⟩
    · rw [e1]
      refine .cons ?_ (rs.fr f1)
      have := RS1.ref (K := ⟨X.K, G⟩) (μ := put μ hh.length (s.heap.objs.size + 1)) (n := hh.length + 1) (H := upd (upd H s.heap.objs.size (.own (s.heap.objs.size + 1))) (s.heap.objs.size + 1) (.ins (G C) s.heap.objs.size [])) hh.length (Nat.lt_succ_self _)
      rw [put_at] at this
      exact .one this
    · rw [e1]
      exact post_make f1 pp
  refine wpAny_call (make_map (f := f) I.kIn M.makes M.init (beq_iff_eq.mp M.fn) (codeAny_mono (F _ X.stack _ _ (Value.ref (s.heap.objs.size + 1) :: us) _ _ (WE W σ) (hr.make (G C) us []) (I2.env0.make (G C) us []) r2 hq) fun r s' hq' => ?_))
  cases r with
  | error e => exact passAt' tk σ pins _ _ e s' I2 hq'
  | ok fl =>
    cases fl with
    | ret u =>
      obtain ⟨v, H', I3, rv, ev, q3⟩ := I2.after hq'
      subst ev
      exact ⟨rv, ⟨V.ref (s.heap.objs.size + 1), H', I3, rfl, q3⟩⟩
    | next => exact False.elim hq'
    | brk => exact False.elim hq'
    | cont => exact False.elim hq'
theorem e_makeR (M : Mk X.K (G C) f) (F : FnSR X.prog X.w X.K X.mg X.base G k f sem) (hr : Room (k + 1) X.A) (hg : Gl X x) (hm : X.mg x = some (.ref (G C))) (ha : PAs G X (e :: es) ms) (hdb : (x == ("__debug__" : Str)) = false := by decide)
    (he : starEach (e :: es) X.env = (false, eval e X.env) :: starEach es X.env := by rfl) (hpl : (backTo pos (starEach es X.env)).any (·.1) = false := by rfl) : PEs G X (.Call (.Name x p) (e :: es) [] pos) (mMake C sem [] ms) := by
  refine ⟨fun W tk => ⟨fun pins s σ H Q I h => ?_⟩⟩
  refine wpAny_Call_Name_kw (ld_glob I hg hm ?_ hdb)
  refine PySem.W.callWith_K (h₀ := X.base) I.ok.mod.kin M.kp (thn ((ha.run W tk).run pos pins s σ H _ I (rd_args h)) fun us s1 ⟨vs, H1, I1, r, q⟩ => ⟨I1.kIn, ?_⟩) he hpl
  refine run_mkR M F hr tk I1 r ?_
  obtain ⟨μ, σs, hh, xs, S, st, rs, pp⟩ := q
  refine ⟨μ, σs, hh, xs, S, st, rs, ?_⟩
  simp only [List.append_nil] at pp
  exact pp
end

/-! ### list * int -/
def fMulX (_ : SHp) (x y : SV) : Option SV := match x, y with
  | .lst l, .int k => if decide (0 ≤ k) && (decide (k < 1000000) && Nat.ble (l.length * k.toNat) 16777216) then some (.lst (List.replicate k.toNat l).flatten) else none
  | .int i, .int j => if bMul i j then some (.int (i * j)) else none
  | _, _ => none
theorem rps_rep {K : KG} {T : Addr → Prop} {H : Hp} {l : List SV} {vs : List V} (r : RPs K T H l vs) : ∀ n : Nat, RPs K T H (List.replicate n l).flatten (List.replicate n vs).flatten
  | 0 => .nil
  | n + 1 => by
    rw [List.replicate_succ, List.replicate_succ, List.flatten_cons, List.flatten_cons]
    exact r.append (rps_rep r n)
theorem lst_rd {X : Cx} {pins : List (Addr × Obj)} {σ : L2.St} {H : Hp} {s : Shared} (I : Inv X pins σ H s) {a : Addr} {xs : List V} (h : Rd H a (.lst xs)) : ObjOk X.prog X.w H s.heap a (.lst xs) := by
  rcases h with h | ⟨ob, h⟩
  · exact I.hok a _ h
  · exact (show ObjOk X.prog X.w H s.heap a (.frz ob (.lst xs)) from I.hok a _ h).2
section
variable {X : Cx} {G : Nat → Addr}
theorem op_repRd {pins : List (Addr × Obj)} {s : Shared} {σ : L2.St} {H : Hp} {l : Addr} {xs : List V} {k : Int} {t : Tok} {Q : VK} (I : Inv X pins σ H s) (hH : Rd H l (.lst xs)) (h1 : -(2 ^ 63) ≤ k) (h2 : k < 2 ^ 63) (hz : xs.length * k.toNat ≤ sizeLine)
    (q : ∀ p, H p = none → Q (.ref p) (upd H p (.lst (List.replicate k.toNat xs).flatten))) : wpAny (model X.prog X.w) X.A (binaryOp .Mult (.ref l) (.int k t)) (EP X pins σ Q) X.xe s := by
  obtain ⟨z, its, n, r, e⟩ := lst_rd I hH
  have hl := r.length
  have hlen : its.toArray.size * k.toNat ≤ sizeLine := by rw [List.size_toArray, ← hl]; exact hz
  have hcap : ¬ its.toArray.size * k.toNat > (2 ^ 63 - 1) / 8 := by
    have : (sizeLine : Nat) ≤ (2 ^ 63 - 1) / 8 := by decide
    omega
  have hfit : ¬ (!Builtin.List.listFitsIndex k) = true := by
    rw [fitsIndex_both h1 h2]
    exact Bool.false_ne_true
  have hlong : ¬ Builtin.List.listTooLong (its.toArray.size * k.toNat) = true := by
    rw [notLongL hlen]
    exact Bool.false_ne_true
  have hnew : List.foldl (fun x1 x2 => x1 ++ x2) #[] (List.replicate (if its.toArray.isEmpty = true then 0 else k.toNat) its.toArray) = (List.replicate k.toNat its).flatten.toArray := by
    have f0 : ∀ m : Nat, List.foldl (fun x1 x2 => x1 ++ x2) #[] (List.replicate m its.toArray) = (List.replicate m its).flatten.toArray := fun m => by
      have := foldl_rep its m []
      rw [List.nil_append] at this
      exact this
    rw [f0]
    cases its with
    | nil => simp
    | cons a r' => rw [if_neg (by simp)]
  refine wpAny_binaryOp_repeat_ref (T := "list") (U := "int") (by decide) ⟨_, e, rfl⟩ (fun s' => typeIs_int s' k t) noFill_list_mul F.fills_int_mul F.slot_int_rmul repeat_list F.slot_int_index.lookup
    (call_meets F.slot_int_rmul (typeIs_int s k t) F.entry_int_rmul (F.args_int_rmul_2 _ _) (int___rmul___int_list k t l its.toArray n)
      ⟨e, rfl, ⟨_, e, rfl⟩, call_meets F.slot_list_mul ⟨_, e, rfl⟩ F.entry_list_mul (F.args_list_mul_2 _ _) (AutoListH.list___mul___list_int_3 l its.toArray n k t hfit hcap hlong) ⟨e, ?_⟩⟩)
  rw [hnew]
  exact ⟨.ref _, _, I.lnew (t' := s.toks) (r.rep k.toNat) (by rw [PyProof.Rows.lm_len_rep_flat, Nat.mul_comm]; exact hz), rfl, q _ I.fresh⟩
theorem o_mulX : OpR X (binaryOp .Mult) (rv2 ⟨X.K, G⟩ fMulX) := by
  intro pins s σ H V1 V2 v u Q I rx ry ⟨μ, h, x, y, z, S, r1, r2, e, q⟩
  unfold fMulX at e
  split at e
  · rename_i l k
    split at e
    · rename_i hk
      simp only [Bool.and_eq_true, decide_eq_true_eq] at hk
      obtain ⟨k1, k2, k3⟩ := hk
      cases e
      cases r2.int_
      obtain ⟨t, rfl⟩ := ry
      cases r1 with | one r1 => cases r1 with | pure r1 => cases r1 with
        | lst hh tt rl =>
          cases rx
          have hz := Nat.le_of_ble_eq_true k3
          refine op_repRd I hh (by omega) (by omega) (by rw [sizeLine_eq, ← rl.length]; exact hz) fun p hp => ?_
          exact q μ _ _ (Fr.new hp) (S.new hp) (new_lst S hp (rps_rep rl _))
    · cases e
  · rename_i i j
    split at e
    · rename_i hb
      exact o_mul (G := G) pins s σ H V1 V2 v u Q I rx ry ⟨μ, h, .int i, .int j, z, S, r1, r2, by unfold fI2; simp only; rw [if_pos hb]; exact e, q⟩
    · cases e
  · cases e
end

/-! ### {k: v, ..} -/
def dPairs (n : Nat) : List (M × M) → List (SV × SV) → M
  | [], acc => fun _ h => match h[n]? with
    | some (.dct []) => if acc.all (fun kv => isKey kv.1) && Nat.ble acc.length 15 then .val (.ref n) (h.set n (.dct (acc.foldl (fun d kv => putKS kv.1 kv.2 d) []))) else .bad
    | _ => .bad
  | (mk, mv) :: r, acc => bnd mk fun k => bnd mv fun v => dPairs n r (acc ++ [(k, v)])
def mDctT (ps : List (M × M)) : M := fun σ h => dPairs h.length ps [] σ (h ++ [.dct []])
def mDctN : M := fun _ h => .val (.dct []) h
def mDctNT : M := fun _ h => .val (.ref h.length) (h ++ [.dct []])
structure PPss (G : Nat → Addr) (X : Cx) (pos : Pos) (keys : List (Option Expr)) (values : List Expr) (ms : List (M × M)) : Prop where
  run : ∀ W, Takes X W → PPs X pos keys values (ms.map fun m => (rd ⟨X.K, G⟩ m.1 W, rd ⟨X.K, G⟩ m.2 W))
section
variable {X : Cx} {G : Nat → Addr} {pos : Pos} {keys : List (Option Expr)} {values : List Expr} {ms : List (M × M)} {k v : Expr} {mk mv : M}
theorem pp_nil : PPss G X pos [] [] [] := ⟨fun W tk => pps_nil⟩
theorem pp_cons (hk : PEs G X k mk) (hv : PEs G X v mv) (hr : PPss G X pos keys values ms) : PPss G X pos (some k :: keys) (v :: values) ((mk, mv) :: ms) := ⟨fun W tk => pps_cons (hk.run W tk) (hv.run W tk) (hr.run W tk)⟩
theorem merge_rel {K : KG} {μ : Nat → Addr} {n : Nat} {H : Hp} : ∀ {acc : List (SV × SV)} {kvs : List (Key × V)} {d : List (SV × SV)} {e : List (Key × V)}, RSk K μ n H acc kvs → RSk K μ n H d e → RSk K μ n H (acc.foldl (fun d kv => putKS kv.1 kv.2 d) d) (mergeK e kvs)
  | _, _, _, _, .nil, r => r
  | (k, v) :: acc, (k', w) :: kvs, d, e, .cons hk h t, r => by
    have := merge_rel t (RSk.put_ hk h r)
    exact this
theorem RSk.snoc {K : KG} {μ : Nat → Addr} {n : Nat} {H : Hp} {k v : SV} {k' : Key} {w : V} (hk : keyOf k = some k') (r0 : RS K μ n H v w) : ∀ {l : List (SV × SV)} {ws : List (Key × V)}, RSk K μ n H l ws → RSk K μ n H (l ++ [(k, v)]) (ws ++ [(k', w)])
  | _, _, .nil => .cons hk r0 .nil
  | _, _, .cons hk' h r => .cons hk' h (RSk.snoc hk r0 r)
/-- pairs of values -/
inductive RVV (K : KG) (μ : Nat → Addr) (n : Nat) (H : Hp) : List (SV × SV) → List (V × V) → Prop
  | nil : RVV K μ n H [] []
  | cons {k v : SV} {x y : V} {l : List (SV × SV)} {ws : List (V × V)} (hk : RS K μ n H k x) (hv : RS K μ n H v y) (r : RVV K μ n H l ws) : RVV K μ n H ((k, v) :: l) ((x, y) :: ws)
theorem RVV.fr {K : KG} {μ μ' : Nat → Addr} {n n' : Nat} {H H' : Hp} (f : EV.Fr μ n H μ' n' H') : ∀ {l : List (SV × SV)} {ws : List (V × V)}, RVV K μ n H l ws → RVV K μ' n' H' l ws
  | _, _, .nil => .nil
  | _, _, .cons a b r => .cons (a.fr f) (b.fr f) (RVV.fr f r)
theorem RVV.snoc {K : KG} {μ : Nat → Addr} {n : Nat} {H : Hp} {k v : SV} {x y : V} (a : RS K μ n H k x) (b : RS K μ n H v y) : ∀ {l : List (SV × SV)} {ws : List (V × V)}, RVV K μ n H l ws → RVV K μ n H (l ++ [(k, v)]) (ws ++ [(x, y)])
  | _, _, .nil => .cons a b .nil
  | _, _, .cons c d r => .cons c d (RVV.snoc a b r)
theorem RVV.ks {K : KG} {μ : Nat → Addr} {n : Nat} {H : Hp} : ∀ {l : List (SV × SV)} {ws : List (V × V)}, RVV K μ n H l ws → l.all (fun kv => isKey kv.1) = true → ∃ kvs : List (Key × V), ws = kvs.map (fun kv => (kV kv.1, kv.2)) ∧ RSk K μ n H l kvs
  | _, _, .nil, _ => ⟨[], rfl, .nil⟩
  | _, _, .cons a b r, h => by
    simp only [List.all_cons, Bool.and_eq_true] at h
    obtain ⟨kvs, e1, e2⟩ := RVV.ks r h.2
    obtain ⟨k', ek⟩ := isKey_of h.1
    have := keyOf_rel ek a
    subst this
    exact ⟨(k', _) :: kvs, by simp [e1], .cons ek b e2⟩
theorem tp_imp {K : KG} {W : WX} {σ : L2.St} : ∀ {ms : List (M × M)} {H : Hp} {Q Q' : List (V × V) → Hp → Prop}, tPairs (ms.map fun m => (rd K m.1 W, rd K m.2 W)) σ H Q → (∀ ps H', Q ps H' → Q' ps H') → tPairs (ms.map fun m => (rd K m.1 W, rd K m.2 W)) σ H Q'
  | [], _, _, _, x, h => h _ _ x
  | m :: ms, H, Q, Q', x, h => by
    have x' : rd K m.1 W σ H fun x H1 => rd K m.2 W σ H1 fun y H2 => tPairs (ms.map fun m => (rd K m.1 W, rd K m.2 W)) σ H2 fun ps H3 => Q ((x, y) :: ps) H3 := x
    exact rd_imp x' fun V H1 y => rd_imp y fun V2 H2 z => tp_imp z fun ps H' w => h _ _ w
theorem rd_pairs {K : KG} {W : WX} {σ : L2.St} {Q : VK} {n : Nat} {D : Addr} : ∀ {ms : List (M × M)} {acc : List (SV × SV)} {wacc : List (V × V)} {H : Hp} {μ : Nat → Addr} {σs : SSt} {h : SHp}, Sim K μ h H → RSt K μ h.length H σs σ → RVV K μ h.length H acc wacc → n < h.length → μ n = D →
    Post K μ h.length H (dPairs n ms acc σs h) Q (WE W σ) → tPairs (ms.map fun m => (rd K m.1 W, rd K m.2 W)) σ H fun ps H2 => H2 D = some (.dK []) ∧ ∃ kvs : List (Key × V), wacc ++ ps = kvs.map (fun kv => (kV kv.1, kv.2)) ∧ kvs.length ≤ 15 ∧ Q (.ref D) (upd H2 D (.dK (mergeK [] kvs)))
  | [], acc, wacc, H, μ, σs, h, S, st, ra, hn, eD, p => by
    unfold dPairs at p
    split at p
    · rename_i hl
      split at p
      · rename_i ok
        simp only [Bool.and_eq_true] at ok
        obtain ⟨vs, e1, r1⟩ := S.obj _ _ hl
        cases r1
        rw [eD] at e1
        obtain ⟨kvs, e2, r2⟩ := ra.ks ok.1
        have hz := Nat.le_of_ble_eq_true ok.2
        have nz : ∀ o u, H (μ n) ≠ some (.frz o u) := by rw [eD, e1]; simp
        have fw := S.frW (o := .dK (mergeK [] kvs)) hn nz
        have Sw := S.write (s := .dct (acc.foldl (fun d kv => putKS kv.1 kv.2 d) [])) (o := .dK (mergeK [] kvs)) hn nz ⟨_, rfl, merge_rel (r2.fr fw) .nil⟩
        refine ⟨e1, kvs, by rw [List.append_nil]; exact e2, by rw [← r2.length]; exact hz, ?_⟩
        rw [eD] at fw Sw
        have := p μ _ (.ref (μ n)) (by rw [List.length_set]; exact fw) Sw (.one (.ref _ (by rw [List.length_set]; exact hn)))
        rw [eD] at this
        exact this
      · exact p.elim
    · exact p.elim
  | (mk, mv) :: r, acc, wacc, H, μ, σs, h, S, st, ra, hn, eD, p => by
    unfold dPairs at p
    refine ⟨μ, σs, h, S, st, post_bnd p fun μ1 H1 h1 kv kV1 f1 S1 rk p1 => ?_⟩
    refine ⟨μ1, σs, h1, S1, st.fr f1, post_bnd p1 fun μ2 H2 h2 vv vV f2 S2 rv p2 => ?_⟩
    have := rd_pairs (ms := r) (D := D) (Q := Q) S2 ((st.fr f1).fr f2) (RVV.snoc (rk.fr f2) rv ((ra.fr f1).fr f2)) (Nat.lt_of_lt_of_le (Nat.lt_of_lt_of_le hn f1.le) f2.le) ((f2.mu _ (Nat.lt_of_lt_of_le hn f1.le)).trans ((f1.mu _ hn).trans eD)) p2
    refine tp_imp this fun ps H3 ⟨z1, kvs, z2, z3, z4⟩ => ⟨z1, kvs, by rw [← z2]; simp, z3, z4⟩
theorem e_dctT (h : PPss G X pos keys values ms) (hall : keys.all (·.isSome) = true) (hl : keys.length = values.length) (h0 : keys ≠ []) (h15 : keys.length ≤ 15) : PEs G X (.Dict keys values pos) (mDctT ms) :=
  ⟨fun W tk => wkPE (pe_disp (h.run W tk) hall hl h0 h15) fun σ H Q ⟨μ, σs, hh, S, st, p⟩ => fun D hD => by
    have fD : EV.Fr μ hh.length H (put μ hh.length D) (hh.length + 1) (upd H D (.dK [])) := Fr.alloc hD
    have el : (hh ++ [SO.dct []]).length = hh.length + 1 := by simp
    have SD : Sim ⟨X.K, G⟩ (put μ hh.length D) (hh ++ [.dct []]) (upd H D (.dK [])) := S.alloc hD ⟨[], rfl, .nil⟩
    have := rd_pairs (K := ⟨X.K, G⟩) (W := W) (σ := σ) (Q := Q) (n := hh.length) (D := D) (ms := ms) (acc := []) (wacc := []) SD (by rw [el]; exact st.fr fD) .nil (by rw [el]; exact Nat.lt_succ_self _) put_at (by rw [el]; exact Post.fr fD p)
    simpa using this⟩
theorem e_dctN : PEs G X (.Dict [] [] pos) mDctN := ⟨fun W tk => wkPE pe_dnewK fun σ H Q ⟨μ, σs, h, S, st, p⟩ => fun D hD => p μ _ _ (Fr.new hD) (S.new hD) (.of (.dct (.inl upd_same) (S.not_tr hD) .nil))⟩
theorem e_dctNT : PEs G X (.Dict [] [] pos) mDctNT := ⟨fun W tk => wkPE pe_dnewK fun σ H Q ⟨μ, σs, h, S, st, p⟩ => fun D hD => post_alloc (s := .dct []) S hD ⟨[], rfl, .nil⟩ p⟩
end

/-! ### a, b = e -/
def sUnp (t : TgT) (a : M) : MS := bndS a fun x σ h => match setT t x σ with
  | some σ' => .nx σ' h
  | none => .bad
section
variable {X : Cx} {G : Nat → Addr} {tg e : Expr} {m : M} {t : TgT} {pos : Pos}
theorem s_unp (he : PEs G X e m) (hg : PG X tg (gS ⟨X.K, G⟩ t)) (hs : swapsWithSole [tg] e pos.line X.env = pure false) (hw : swappedStores [tg] e X.env = pure none)
    (h1 : (assignEach [tg] X.env).map (·.2) = [assign tg X.env] := by rfl) : PS1 G X (.Assign [tg] e pos) (sUnp t m) :=
  ⟨fun W tk => wkPS (ps_asg (he.run W tk) hg hs hw h1) fun D σ H x => rd_imp (rdS_bnd x) fun V H1 ⟨μ, σs, h, u, S, st, r, p⟩ => by
    (try dsimp only at p)
    split at p
    · rename_i σ' e
      exact ⟨μ, σs, h, u, σ', S, st, r, e, fun σ2 st2 _ => p μ H1 σ2 Fr.refl S st2⟩
    · exact p.elim⟩
/-- x, y = a, b with plain local names -/
def sPar (i j : Nat) (ms : List M) : MS := fun σ h => match argsM ms (fun vs _ h => .val (.tupR vs) h) σ h with
  | .val (.tupR [v, w]) h' => .nx (setn w j (setn v i σ)) h'
  | .exc C f h' => .exc C f σ h'
  | _ => .bad
end
def parM : List M → (List SV → MS) → MS
  | [], k => k []
  | m :: ms, k => bndS m fun x => parM ms fun xs => k (x :: xs)
def rdSL (K : KG) (k : List SV → MS) (Vs : List V) (W : WX) : TS := fun D σ H => ∃ μ σs h xs, Sim K μ h H ∧ RSt K μ h.length H σs σ ∧ RSs K μ h.length H xs Vs ∧ PostS K μ h.length H (k xs σs h) D W
theorem rdSL_args {K : KG} {W : WX} {D : Ends} {σ : L2.St} : ∀ {ms : List M} {k : List SV → MS} {Us : List V} {us : List SV} {H : Hp} {μ : Nat → Addr} {σs : SSt} {h : SHp}, Sim K μ h H → RSt K μ h.length H σs σ → RSs K μ h.length H us Us → PostS K μ h.length H (parM ms (fun vs => k (us ++ vs)) σs h) D W →
    tAs K W ms σ H fun Vs H' => rdSL K k (Us ++ Vs) W D σ H'
  | [], k, Us, us, H, μ, σs, h, S, st, r, p => by
    show rdSL K k (Us ++ []) W D σ H
    rw [List.append_nil]
    exact ⟨μ, σs, h, us, S, st, r, by simpa [parM] using p⟩
  | m :: ms, k, Us, us, H, μ, σs, h, S, st, r, p => by
    refine ⟨μ, σs, h, S, st, postS_bnd st p fun μ' H' h' v V f S' r' p' => ?_⟩
    have e2 : (fun vs => k (us ++ v :: vs)) = fun vs => k ((us ++ [v]) ++ vs) := by funext vs; rw [List.append_assoc] <;> rfl
    rw [e2] at p'
    have := rdSL_args (k := k) S' (st.fr f) (RSs.snoc r' (r.fr f)) p'
    refine tAs_imp this fun Vs H'' z => ?_
    rw [List.append_assoc] at z
    exact z
def sPar2 (i j : Nat) (ms : List M) : MS := parM ms fun vs σ h => match vs with
  | [v, w] => .nx (setn w j (setn v i σ)) h
  | _ => .bad
theorem s_par2 {X : Cx} {G : Nat → Addr} {i j : Nat} {x y : Str} {a b : Expr} {ms : List M} {pos px py pt : Pos} {kt k2 pt2} (hc : X.calm = true) (hN : X.N.Nodup) (hi : X.N[i]? = some x) (hj : X.N[j]? = some y) (hij : i ≠ j)
    (hx : X.env.scope.names.lookup x = some .local) (hy : X.env.scope.names.lookup y = some .local) (ha : PAs G X [a, b] ms)
    (hw : swappedStores [.Tuple [.Name x px, .Name y py] kt pt] (.Tuple [a, b] k2 pt2) X.env = pure (some [x, y]))
    (hs : swapsWithSole [.Tuple [.Name x px, .Name y py] kt pt] (.Tuple [a, b] k2 pt2) pos.line X.env = pure false := by rfl) : PS1 G X (.Assign [.Tuple [.Name x px, .Name y py] kt pt] (.Tuple [a, b] k2 pt2) pos) (sPar2 i j ms) :=
  ⟨fun W tk => wkPS (ps_par hc hN hi hj hij hx hy (ha.run W tk) hw hs) fun D σ H ⟨μ, σs, h, S, st, p⟩ => by
    have := rdSL_args (K := ⟨X.K, G⟩) (W := W) (D := D) (σ := σ) (ms := ms) (k := fun vs σ h => match vs with
      | [v, w] => RT.nx (setn w j (setn v i σ)) h
      | _ => .bad) (Us := []) (us := []) S st .nil p
    refine tAs_imp this fun Vs H1 ⟨μ, σs, h, us, S, st, r, p⟩ => ?_
    (try dsimp only at p)
    split at p
    · obtain ⟨v, w, e, r1, r2⟩ := rss2 r
      exact ⟨v, w, e, p μ H1 _ Fr.refl S ((st.set r1 i).set r2 j)⟩
    · exact p.elim⟩

/-! ### a dict of a slot is locked while an expression is evaluated -/
section
variable {K : KG} {μ : Nat → Addr} {n : Nat} {H H' : Hp} (rd : ∀ a u, Rd H a u → ¬ Tr μ n a → Rd H' a u) (tu : ∀ a vs, Rd H a (.tup vs) → Rd H' a (.tup vs)) (ins : ∀ a u, H a = some u → Solid u → ¬ Tr μ n a → H' a = some u)
include rd tu ins
theorem RS1.sm {v : SV} {w : V} (h : RS1 K μ n H v w) : RS1 K μ n H' v w := by
  cases h with
  | un w => exact .un w
  | pure h => exact .pure (RP.mono rd tu ins (fun _ _ t => t) h)
  | ref i hi => exact .ref i hi
theorem RSs1.sm : ∀ {v : List SV} {w : List V}, RSs1 K μ n H v w → RSs1 K μ n H' v w
  | _, _, .nil => .nil
  | _, _, .cons h r => .cons (RS1.sm rd tu ins h) (RSs1.sm r)
theorem RS.sm {v : SV} {w : V} (h : RS K μ n H v w) : RS K μ n H' v w := by
  cases h with
  | one h => exact .one (RS1.sm rd tu ins h)
  | tupR h r => exact .tupR (sqT_fr tu h) (RSs1.sm rd tu ins r)
theorem RSs.sm : ∀ {v : List SV} {w : List V}, RSs K μ n H v w → RSs K μ n H' v w
  | _, _, .nil => .nil
  | _, _, .cons h r => .cons (RS.sm rd tu ins h) (RSs.sm r)
theorem RSk.sm : ∀ {v : List (SV × SV)} {w : List (Key × V)}, RSk K μ n H v w → RSk K μ n H' v w
  | _, _, .nil => .nil
  | _, _, .cons hk h r => .cons hk (RS.sm rd tu ins h) (RSk.sm r)
theorem RSf.sm : ∀ {v : List (Cs × SV)} {w : List (Str × V)}, RSf K μ n H v w → RSf K μ n H' v w
  | _, _, .nil => .nil
  | _, _, .cons h r => .cons (RS.sm rd tu ins h) (RSf.sm r)
theorem RO.sm {s : SO} {o : Option HO} (h : RO K μ n H s o) : RO K μ n H' s o := by
  cases s with
  | lst l => obtain ⟨vs, e, r⟩ := h; exact ⟨vs, e, RSs.sm rd tu ins r⟩
  | dct l => obtain ⟨vs, e, r⟩ := h; exact ⟨vs, e, RSk.sm rd tu ins r⟩
  | ins C l => obtain ⟨dx, vs, e, r⟩ := h; exact ⟨dx, vs, e, RSf.sm rd tu ins r⟩
  | lk s =>
    cases s with
    | lst l => obtain ⟨vs, e, r⟩ := h; exact ⟨vs, e, RSs.sm rd tu ins r⟩
    | dct l => obtain ⟨vs, ob, e, r⟩ := h; exact ⟨vs, ob, e, RSk.sm rd tu ins r⟩
    | ins C l => exact h
    | lk s => exact h
end
def mLk (i : Nat) (m : M) : M := fun σ h => match nth σ i with
  | .ref n => match h[n]? with
    | some (.dct l) => match m σ (h.set n (.lk (.dct l))) with
      | .val v h' => match h'[n]? with
        | some (.lk (.dct k)) => .val v (h'.set n (.dct k))
        | _ => .bad
      | _ => .bad
    | _ => m σ h
  | _ => m σ h
section
variable {X : Cx} {G : Nat → Addr} {e : Expr} {m : M} {i : Nat}
/-- what holds behind the lock -/
theorem unlock_fr {μ μ' : Nat → Addr} {n m k : Nat} {H H' : Hp} {od : Obj} {kvs : List (Key × V)} (hk : k < n) (e : H (μ k) = some (.dK kvs)) (f : EV.Fr μ n (upd H (μ k) (.frz od (.dK kvs))) μ' m H') : EV.Fr μ n H μ' m (upd H' (μ k) (.dK kvs)) := by
  have ne : ∀ a, ¬ Tr μ n a → a ≠ μ k := fun a t z => t ⟨k, hk, z.symm⟩
  have nt2 : ∀ a u, H a = some u → (∀ z, u ≠ .dK z) → a ≠ μ k := fun a u h1 h2 z => by subst z; rw [e] at h1; cases h1; exact h2 _ rfl
  refine ⟨f.le, f.mu, fun a u q t => ?_, fun a vs q => ?_, fun a u q sd t => ?_, fun a o u q => ?_, fun a q t => ?_⟩
  · have z := f.rd a u (by unfold Rd; rw [upd_ne (ne a t)]; exact q) t
    unfold Rd; rw [upd_ne (ne a t)]; exact z
  · have na : a ≠ μ k := by
      rcases q with q | ⟨ob, q⟩
      · exact nt2 a _ q (fun _ z => nomatch z)
      · exact nt2 a _ q (fun _ z => nomatch z)
    have z := f.tup a vs (by unfold Rd; rw [upd_ne na]; exact q)
    unfold Rd; rw [upd_ne na]; exact z
  · rw [upd_ne (ne a t)]
    exact f.ins a u (by rw [upd_ne (ne a t)]; exact q) sd t
  · have na : a ≠ μ k := nt2 a _ q (fun _ z => nomatch z)
    rw [upd_ne na]
    exact f.frz a o u (by rw [upd_ne na]; exact q)
  · exact f.nt a (by rw [upd_ne (ne a t)]; exact q) t
theorem unlock_sim {K : KG} {μ : Nat → Addr} {h : SHp} {n : Nat} {H : Hp} {od : Obj} {kvs : List (Key × V)} {k : List (SV × SV)} (S : Sim K μ h H) (hk : h[n]? = some (.lk (.dct k))) (e : H (μ n) = some (.frz od (.dK kvs))) :
    Sim K μ (h.set n (.dct k)) (upd H (μ n) (.dK kvs)) ∧ ∀ {v : SV} {w : V}, RS K μ h.length H v w → RS K μ h.length (upd H (μ n) (.dK kvs)) v w := by
  have hn : n < h.length := (List.getElem?_eq_some_iff.mp hk).1
  have ne : ∀ a, ¬ Tr μ h.length a → a ≠ μ n := fun a t z => t ⟨n, hn, z.symm⟩
  have rd : ∀ a u, Rd H a u → ¬ Tr μ h.length a → Rd (upd H (μ n) (.dK kvs)) a u := fun a u q t => by unfold Rd; rw [upd_ne (ne a t)]; exact q
  have tu : ∀ a vs, Rd H a (.tup vs) → Rd (upd H (μ n) (.dK kvs)) a (.tup vs) := fun a vs q => by
    have na : a ≠ μ n := fun z => by
      subst z
      rcases q with q | ⟨ob, q⟩
      · rw [e] at q; cases q
      · rw [e] at q; cases q
    unfold Rd; rw [upd_ne na]; exact q
  have ins : ∀ a u, H a = some u → Solid u → ¬ Tr μ h.length a → upd H (μ n) (.dK kvs) a = some u := fun a u q _ t => by rw [upd_ne (ne a t)]; exact q
  refine ⟨⟨fun a b ha hb e => S.inj a b (by simpa using ha) (by simpa using hb) e, fun j s' ej => ?_⟩, fun r => RS.sm rd tu ins r⟩
  rw [List.length_set]
  by_cases q : n = j
  · subst q
    rw [List.getElem?_set_self hn] at ej
    cases ej
    obtain ⟨kvs2, ob2, e6, rk⟩ := S.obj _ _ hk
    rw [e] at e6
    cases e6
    rw [upd_same]
    exact ⟨kvs, rfl, RSk.sm rd tu ins rk⟩
  · rw [List.getElem?_set_ne q] at ej
    have hj : j < h.length := (List.getElem?_eq_some_iff.mp ej).1
    rw [upd_ne (fun z => q (S.inj n j hn hj z.symm))]
    exact RO.sm rd tu ins (S.obj j s' ej)
theorem e_lk (he : PEs G X e m) : PEs G X e (mLk i m) := by
  refine ⟨fun W tk => ⟨fun pins s σ H Q I ⟨μ, σs, h, S, st, p⟩ => ?_⟩⟩
  unfold mLk at p
  split at p
  · rename_i n hn
    split at p
    · rename_i l hl
      have hnl : n < h.length := (List.getElem?_eq_some_iff.mp hl).1
      obtain ⟨kvs, ed, rl⟩ := S.obj _ _ hl
      have nz : ∀ o u, H (μ n) ≠ some (.frz o u) := by rw [ed]; simp
      obtain ⟨od, I1⟩ := I.lock ed trivial
      have fw := S.frW (o := .frz od (.dK kvs)) hnl nz
      have Sw := S.write (s := .lk (.dct l)) (o := .frz od (.dK kvs)) hnl nz ⟨kvs, od, rfl, rl.fr fw⟩
      have el : (h.set n (.lk (.dct l))).length = h.length := List.length_set
      refine thn ((he.run W0 tk0).run pins s σ _ (fun V H' => H' (μ n) = some (.frz od (.dK kvs)) ∧ Q V (upd H' (μ n) (.dK kvs))) I1 ⟨μ, σs, _, Sw, by rw [el]; exact st.fr fw, ?_⟩) fun v s1 ⟨x, H1, I2, r, e2, q⟩ => ?_
      · cases e5 : m σs (h.set n (.lk (.dct l))) with
        | bad => rw [e5] at p; exact p
        | exc C fs h' => rw [e5] at p; exact p.elim
        | val v h' =>
          simp only [e5] at p
          rw [el]
          intro μ' H' V f S' r'
          split at p
          · rename_i k hk
            have hf : H' (μ n) = some (.frz od (.dK kvs)) := f.frz _ _ _ upd_same
            have em : μ' n = μ n := f.mu _ hnl
            refine ⟨hf, ?_⟩
            rw [← em] at hf
            obtain ⟨S2, r2⟩ := unlock_sim S' hk hf
            rw [em] at S2 r2
            exact p μ' _ V (by rw [List.length_set]; exact unlock_fr hnl ed f) S2 (by rw [List.length_set]; exact r2 r')
          · exact p.elim
      · exact ⟨x, _, I2.unlock e2 (I.nofrz ed trivial), r, q⟩
    · exact (he.run W tk).run pins s σ H Q I ⟨μ, σs, h, S, st, p⟩
  · exact (he.run W tk).run pins s σ H Q I ⟨μ, σs, h, S, st, p⟩
end
end EV

/-! EV18: short rules for printed proofs. -/
namespace EV
open PySem PySem.Spec PyProof.Rows L2

/-- a def of the text, ready to be called by position -/
def Ok1 (P : Program) (w : World) (K : PySem.W.Frag) (mg : Str → Option Value) (base : Heap) (G : Nat → Addr) (k : Nat) (f : Addr) (ps : List Str) (sem : List SV → SHp → R) : Prop :=
  ∃ fd, FnS P w K mg base G k f fd ps sem ∧ Binds K fd ps [] ∧ PySem.W.keepIn K (.ref f) = true
section
variable {P : Program} {w : World} {K : PySem.W.Frag} {mg : Str → Option Value} {base : Heap} {G : Nat → Addr} {k : Nat} {x qual : Str} {params : Arguments} {body : List Stmt} {scope : Scope} {f : Addr} {fd : FuncData} {N ps : List Str} {b : MS} {n : Nat}
theorem FnS.ofM (F : FunD K x qual params body scope [] [] f fd) (S : FnScope N ps scope) (hn : N.length = n)
    (hb : ∀ (cdv : Value) (A : Around) (outer : List Env) (s : Shared) (H : Hp) (E : XK), Room k (A.deeper (envOfC qual scope s.heap.objs.size f cdv)) → PSL G (cxOf (L2.CX P w) P w K mg base N qual scope f cdv A outer s H E) body b) :
    FnS P w K mg base G (k + 1) f fd ps (fnM n b) := fn_body F S (fun vs h _ _ _ _ _ p => by rw [hn]; exact post_trunc p) hb
theorem cx_none {outer : List Env} (H : Hp) (s : Shared) (e : Value) (s2 : Shared) (z : L2.CX P w outer H s (fun _ _ _ => False) e s2) : False := by
  obtain ⟨_, _, _, _, _, _, _, _, _, _, _, _, z⟩ := z
  exact z.elim
/-- a def that lets nothing out -/
theorem FnS.calm {sem : List SV → SHp → R} (F : FnS P w K mg base G k f fd ps sem) : FnOk P w K mg base (fun _ _ _ _ _ _ => False) k f fd ps (fun vs H Q _ => spOf ⟨K, G⟩ ps.length sem vs H Q fun _ _ _ => False) where
  len := fun vs H Q E h => h.1
  run := fun A outer s H args gs vs Q E hr e0 hb r h => codeAny_mono (F.run A outer s H args gs vs Q (fun _ _ _ => False) hr e0 hb r h) fun r s' q => by
    cases r with
    | error e => exact cx_none _ _ _ _ q
    | ok fl => cases fl <;> exact q
theorem Ok1.ofM (F : FunD K x qual params body scope [] [] f fd) (S : FnScope N ps scope) (hn : N.length = n)
    (hbd : ∀ (kV doc pm : Value) (an : Option Addr) (cdv ct : Value) (us : List Value), us.length = ps.length → bindArgs (PySem.W.fnOf x qual params body scope .none kV doc pm an cdv ct) ⟨us, []⟩ = pure (ps.zip us))
    (hb : ∀ (cdv : Value) (A : Around) (outer : List Env) (s : Shared) (H : Hp) (E : XK), Room k (A.deeper (envOfC qual scope s.heap.objs.size f cdv)) → PSL G (cxOf (L2.CX P w) P w K mg base N qual scope f cdv A outer s H E) body b) :
    Ok1 P w K mg base G (k + 1) f ps (fnM n b) :=
  ⟨fd, fn_body F S (fun vs h _ _ _ _ _ p => by rw [hn]; exact post_trunc p) hb, F.bindsN hbd, F.kp⟩
theorem Ok1.ofK (F : FunD K x qual params body scope [] [] f fd) (S : FnScope N ps scope) (hn : N.length = n)
    (hbd : ∀ (kV doc pm : Value) (an : Option Addr) (cdv ct : Value) (us : List Value), us.length = ps.length → bindArgs (PySem.W.fnOf x qual params body scope .none kV doc pm an cdv ct) ⟨us, []⟩ = pure (ps.zip us))
    (hb : ∀ (cdv : Value) (A : Around) (outer : List Env) (s : Shared) (H : Hp) (E : XK), Room k (A.deeper (envOfC qual scope s.heap.objs.size f cdv)) → PSL G (cxOf (L2.CX P w) P w K mg base N qual scope f cdv A outer s H E) body b) :
    Ok1 P w K mg base G (k + 1) f ps (fnK n b) :=
  ⟨fd, fn_body F S (fun vs h _ _ _ _ _ p => by rw [hn]; exact p) hb, F.bindsN hbd, F.kp⟩
end
section
variable {X : Cx} {G : Nat → Addr} {k : Nat} {f : Addr} {C : Nat} {ps : List Str} {sem : List SV → SHp → R} {x : Str} {p pos : Pos} {e : Expr} {es : List Expr} {ms : List M}
theorem e_callK (O : Ok1 X.prog X.w X.K X.mg X.base G k f ps sem) (hr : Room k X.A) (hg : Gl X x) (hm : X.mg x = some (.ref f)) (hl : ms.length = ps.length) (ha : PAs G X (e :: es) ms) (hdb : (x == ("__debug__" : Str)) = false := by decide)
    (he : starEach (e :: es) X.env = (false, eval e X.env) :: starEach es X.env := by rfl) (hpl : (backTo pos (starEach es X.env)).any (·.1) = false := by rfl) : PEs G X (.Call (.Name x p) (e :: es) [] pos) (mCall sem [] ms) := by
  obtain ⟨fd, F, hb, hk⟩ := O
  exact e_call (dS := []) (dV := []) F hr hg hm hk hb .nil (fun _ _ => .nil) (by simpa using hl) ha hdb he hpl
theorem e_gint {i : Int} (h : ∃ t, X.mg x = some (.int i t)) (hg : Gl X x) (hd : (x == ("__debug__" : Str)) = false := by decide) : PEs G X (.Name x pos) (mC (.int i)) := by
  obtain ⟨t, h⟩ := h
  exact e_glob hg h (w := .int i) ⟨t, rfl⟩ (fun _ _ => .int i) hd
theorem e_gstr {c : Cs} {z : Str} (h : ∃ t, X.mg x = some (.str z t)) (ez : toS c = z) (hg : Gl X x) (hd : (x == ("__debug__" : Str)) = false := by decide) : PEs G X (.Name x pos) (mC (.str c)) := by
  obtain ⟨t, h⟩ := h
  subst ez
  exact e_glob hg h (w := .str (toS c)) ⟨t, rfl⟩ (fun _ _ => .str c) hd
theorem e_gcls {C : Nat} (h : X.mg x = some (.ref (G C))) (hg : Gl X x) (hd : (x == ("__debug__" : Str)) = false := by decide) : PEs G X (.Name x pos) (mC (.gl C)) :=
  e_glob hg h (w := .ref (G C)) rfl (fun _ _ => .gl C) hd
end
theorem un64 {A : Around} {k : Nat} (h : Room k A) : A.units + 64 < cLine := by have := h.un; omega
theorem un65 {A : Around} {k : Nat} (h : Room k A) : A.units + 65 < cLine := by have := h.un; omega
theorem un1 {A : Around} {k : Nat} (h : Room k A) : A.units + 1 < cLine := by have := h.un; omega
/-! ### bool of bools and ints -/
def fBoolI (_ : SHp) : List SV → Option SV
  | [.int i] => some (.bl (i != 0))
  | [.bl b] => some (.bl b)
  | _ => none
section
variable {X : Cx} {G : Nat → Addr}
theorem c_boolI : CallR X (.type "bool") (rvL ⟨X.K, G⟩ fBoolI) := by
  intro pins s σ H Vs us Q I r ⟨μ, h, xs, z, S, rs, e, q⟩
  unfold fBoolI at e
  split at e
  · rename_i i
    cases e
    obtain ⟨v, ev, r1⟩ := rss1 rs
    subst ev
    cases r1.int_
    exact call_bool1 pins s σ H _ us Q I r (.inl ⟨i, rfl, q μ H _ Fr.refl S (.of (.bl _))⟩)
  · rename_i b
    cases e
    obtain ⟨v, ev, r1⟩ := rss1 rs
    subst ev
    cases r1.bl_
    exact call_bool1 pins s σ H _ us Q I r (.inr ⟨b, rfl, q μ H _ Fr.refl S (.of (.bl _))⟩)
  · cases e
variable {k : Nat} {f : Addr} {C : Nat} {ps : List Str} {sem : List SV → SHp → R} {sw : List Nat} {nf cl xl : Nat → Bool} {isi : Nat → Nat → Option Bool}
theorem o_eqOK (O : IsiOk X.K G isi cl xl) (E : EqOk X.K G C f sw nf) (F : Ok1 X.prog X.w X.K X.mg X.base G k f ps sem) (hr : Room (k + 1) X.A) (hl : ps.length = 2) : OpR X (compareOp .Eq) (rO ⟨X.K, G⟩ (kEqO false C sem sw nf cl xl)) := by
  obtain ⟨fd, F, hb, _⟩ := F
  exact o_eqO O E F hr hb hl
theorem o_neOK (O : IsiOk X.K G isi cl xl) (E : EqOk X.K G C f sw nf) (F : Ok1 X.prog X.w X.K X.mg X.base G k f ps sem) (hr : Room (k + 1) X.A) (hl : ps.length = 2) : OpR X (compareOp .NotEq) (rO ⟨X.K, G⟩ (kEqO true C sem sw nf cl xl)) := by
  obtain ⟨fd, F, hb, _⟩ := F
  exact o_neO O E F hr hb hl
theorem c_boolK (h : PySem.W.findIn X.K (.ref (G C)) "__bool__" = some (some (.ref f)) ∧ PySem.W.isFn X.K (.ref f) = true) (F : Ok1 X.prog X.w X.K X.mg X.base G k f ps sem) (hr : Room (k + 2) X.A) (hl : ps.length = 1) : CallR X (.type "bool") (rOL ⟨X.K, G⟩ (kBool C sem)) := by
  obtain ⟨fd, F, hb, _⟩ := F
  exact c_bool h.1 h.2 F hr hb hl
end
/-! ### own exceptions -/
structure XcOk (K : PySem.W.Frag) (C fI : Addr) : Prop where
  o : OexC K C
  i : PySem.W.findIn K (.ref C) "__init__" = some (some (.ref fI))
  t : PySem.W.typeIn K (.ref fI) = some (.type "function")
def xcB (K : PySem.W.Frag) (C fI : Addr) : Bool := oexB K C && (decide (PySem.W.findIn K (.ref C) "__init__" = some (some (.ref fI))) && decide (PySem.W.typeIn K (.ref fI) = some (.type "function")))
theorem xcB_ok {K : PySem.W.Frag} {C fI : Addr} (h : xcB K C fI = true) : XcOk K C fI := by
  unfold xcB at h
  simp only [Bool.and_eq_true, decide_eq_true_eq] at h
  exact ⟨oexB_ok h.1, h.2.1, h.2.2⟩
def OkX (P : Program) (w : World) (K : PySem.W.Frag) (mg : Str → Option Value) (base : Heap) (C : Addr) (fI : Addr) (fs : List Str) : Prop :=
  XcOk K C fI ∧ ∃ (fd : FuncData) (ps : List Str), FnOk P w K mg base (L2.CX P w) 1 fI fd ps (spX C fs) ∧ Binds K fd ps []
theorem e_mkxK {X : Cx} {G : Nat → Addr} {C : Nat} {fI : Addr} {x : Str} {p pos : Pos} {e : Expr} {es : List Expr} {ms : List M} {fs : List Cs} (O : OkX X.prog X.w X.K X.mg X.base (G C) fI (fs.map toS)) (hr : Room 2 X.A) (hg : Gl X x) (hm : X.mg x = some (.ref (G C))) (ha : PAs G X (e :: es) ms)
    (hdb : (x == ("__debug__" : Str)) = false := by decide) (he : starEach (e :: es) X.env = (false, eval e X.env) :: starEach es X.env := by rfl) (hpl : (backTo pos (starEach es X.env)).any (·.1) = false := by rfl) :
    PEs G X (.Call (.Name x p) (e :: es) [] pos) (mMkX C fs ms) := by
  obtain ⟨T, fd, ps, F, hb⟩ := O
  exact e_mkx T.o T.i T.t F hr hb hg hm ha hdb he hpl
/-- the owner of what leaves a def's body -/
theorem owns_cx {P : Program} {w : World} {K : PySem.W.Frag} {mg : Str → Option Value} {base : Heap} {N : List Str} {qual : Str} {scope : Scope} {f : Addr} {cdv : Value} {A : Around} {outer : List Env} {s : Shared} {H : Hp} {E : XK} :
    PassesOwn (model P w) (cxOf (L2.CX P w) P w K mg base N qual scope f cdv A outer s H E).A (cxOf (L2.CX P w) P w K mg base N qual scope f cdv A outer s H E).env (cxOf (L2.CX P w) P w K mg base N qual scope f cdv A outer s H E).xe := passes_of rfl
/-! ### facts of classes by tests -/
theorem mkB_ok {K : PySem.W.Frag} {C f : Addr} (h : (PySem.W.makesIn K C && (decide (PySem.W.findIn K (.ref C) "__init__" = some (some (.ref f))) && (PySem.W.isFn K (.ref f) && PySem.W.keepIn K (.ref C)))) = true) : Mk K C f := by
  simp only [Bool.and_eq_true, decide_eq_true_eq] at h
  exact ⟨h.1, h.2.1, h.2.2.1, h.2.2.2⟩
def slB (o : Option Obj) (nm : Str) : Bool := match o with
  | some ⟨_, _, _, sl⟩ => (match sl[2]? with
    | some (some (Value.str n _)) => decide (n = nm)
    | _ => false)
  | none => false
def fcB (r : Option PySem.W.CFound) (C : Addr) : Bool := match r with
  | some (.get a b c d) => decide (a = .builtin "getset_descriptor.__get__") && (decide (b = .builtin "type.__name__") && (decide (c = .ref C) && decide (d = .type "type")))
  | _ => false
def cnB (K : PySem.W.Frag) (C : Addr) (nm : Str) : Bool := insB K C && (decide (PySem.W.typeIn K (.ref C) = some (.type "type")) && (slB (K.lookup C) nm && (decide (PySem.W.nsIn K cStatics "thirdparty.any" = some none) && fcB (PySem.W.findCls K (.ref C) (.type "type") "__name__") C)))
theorem cnB_ok {K : PySem.W.Frag} {C : Addr} {nm : Str} (h : cnB K C nm = true) : CnOk K C nm := by
  unfold cnB at h
  simp only [Bool.and_eq_true, decide_eq_true_eq] at h
  obtain ⟨h1, h2, h3, h4, h5⟩ := h
  refine ⟨insB_ok h1, h2, ?_, h4, ?_⟩
  · unfold slB at h3
    split at h3
    · rename_i oc od dt sl ho
      split at h3
      · rename_i n t hs
        have := of_decide_eq_true h3
        subst this
        exact ⟨_, t, ho, hs⟩
      · cases h3
    · cases h3
  · unfold fcB at h5
    split at h5
    · rename_i a b c d e
      simp only [Bool.and_eq_true, decide_eq_true_eq] at h5
      obtain ⟨rfl, rfl, rfl, rfl⟩ := h5
      exact e
    · cases h5
def eqB (K : PySem.W.Frag) (G : Nat → Addr) (C : Nat) (f : Addr) (sw nfL : List Nat) : Bool := decide (PySem.W.findIn K (.ref (G C)) "__eq__" = some (some (.ref f))) && (PySem.W.isFn K (.ref f) && ((sw.all fun D => decide (PySem.W.findIn K (.ref (G D)) "__eq__" = some (some (.ref f))) && (decide (PySem.W.subIn K (.ref (G D)) (.ref (G C)) = some true) && (decide (G D ≠ G C) &&
  (decide (PySem.W.findIn K (.ref (G D)) "__ne__" = some (some (.builtin "object.__ne__"))) && decide (PySem.W.subIn K (.ref (G D)) (.type "object") = some true))))) && ((nfL.all fun t => PySem.W.notFirst K (G C) (tagV G t)) &&
  (decide (PySem.W.findIn K (.ref (G C)) "__ne__" = some (some (.builtin "object.__ne__"))) && decide (PySem.W.subIn K (.ref (G C)) (.type "object") = some true)))))
theorem eqB_ok {K : PySem.W.Frag} {G : Nat → Addr} {C : Nat} {f : Addr} {sw nfL : List Nat} (h : eqB K G C f sw nfL = true) : EqOk K G C f sw (fun t => nfL.contains t) := by
  unfold eqB at h
  simp only [Bool.and_eq_true, decide_eq_true_eq, List.all_eq_true] at h
  obtain ⟨h1, h2, h3, h4, h5, h6⟩ := h
  exact ⟨h1, h2, fun D hD => let ⟨a, b, c, d, e⟩ := h3 D hD; ⟨a, b, c, d, e⟩, fun t ht => h4 t (by simpa using ht), h5, h6⟩
/-- isinstance's table, by the rows (tag, tag, answer) -/
def isiT (rows : List (Nat × Nat × Bool)) (a b : Nat) : Option Bool := match rows with
  | [] => none
  | (x, y, r) :: t => if Nat.beq x a && Nat.beq y b then some r else isiT t a b
theorem isiT_mem {rows : List (Nat × Nat × Bool)} {a b : Nat} {r : Bool} (h : isiT rows a b = some r) : (a, b, r) ∈ rows := by
  induction rows with
  | nil => cases h
  | cons q t ih =>
    obtain ⟨x, y, k⟩ := q
    unfold isiT at h
    split at h
    · rename_i c
      simp only [Bool.and_eq_true] at c
      have e1 := Nat.eq_of_beq_eq_true c.1
      have e2 := Nat.eq_of_beq_eq_true c.2
      subst e1 e2
      cases h
      exact List.mem_cons_self
    · exact List.mem_cons_of_mem _ (ih h)
theorem isi_all {K : PySem.W.Frag} {G : Nat → Addr} {isi : Nat → Nat → Option Bool} {cl xl : Nat → Bool} {as bs : List Nat} {cL xL : List Nat} (hi : ∀ a b r, isi a b = some r → a ∈ as ∧ b ∈ bs) (hc : ∀ C, cl C = true → C ∈ cL) (hx : ∀ C, xl C = true → C ∈ xL)
    (h : (as.all fun a => bs.all fun b => match isi a b with
      | some r => decide (PySem.W.kitOne K (tagV G a) (tagV G b) = some r)
      | none => true) = true) (h2 : (cL.all fun C => insB K (G C)) = true) (h3 : (xL.all fun C => excB K (G C)) = true) : IsiOk K G isi cl xl where
  k := fun a b r e => by
    obtain ⟨ha, hb⟩ := hi a b r e
    have := List.all_eq_true.mp (List.all_eq_true.mp h a ha) b hb
    rw [e] at this
    exact of_decide_eq_true this
  c := fun C e => insB_ok (List.all_eq_true.mp h2 C (hc C e))
  x := fun C e => excB_ok (List.all_eq_true.mp h3 C (hx C e))
end EV

/-! EVH: a head's Hook: facts by names, defs, one more Bool; the written part has the statics, too. -/
namespace EV
open PySem PySem.Spec PyProof.Rows L2 He
abbrev AlE : Type := AlD × Bool
def obsE (n : Nat) (fa : List Fa) (fn : List DefD) (ex : PySem.W.Frag → Bool) (g : Addr → Option Obj) : AlE := (obsD fa fn (frG g (cStatics :: asD g n)), ex (frG g (cStatics :: asD g n)))
def valE (fn : List DefD) : AlE := (valD fn, true)
def hookE (n : Nat) (fa : List Fa) (fn : List DefD) (ex : PySem.W.Frag → Bool) : PySem.W.Hook where
  α := AlE
  obs := fun s => obsE n fa fn ex s.heap.get?
  val := fun _ => valE fn
  says := fun _ h => ∃ K : PySem.W.Frag, K.In h ∧ SaysD fa fn K ∧ ex K = true
  of := fun _ _ e => ⟨_, frG_in, congrArg (fun z : AlE => z.1) e, congrArg (fun z : AlE => z.2) e⟩
  keeps := fun _ _ _ ⟨K, hK, c⟩ k => ⟨K, PySem.W.Frag.In.keeps hK k, c⟩
theorem obsE_eq {n : Nat} {fa : List Fa} {fn : List DefD} {ex : PySem.W.Frag → Bool} {g : Addr → Option Obj} {s : Shared} (h : ∀ a, g a = s.heap.get? a) : obsE n fa fn ex g = (hookE n fa fn ex).obs s := by
  have e : g = s.heap.get? := funext h
  rw [e] <;> rfl
theorem SaysD.fact_ {fa : List Fa} {fn : List DefD} {K : PySem.W.Frag} (c : SaysD fa fn K) {f : Fa} (h : f ∈ fa) : f.ok K = true := by
  obtain ⟨i, hi, e⟩ := List.mem_iff_getElem.mp h
  exact c.fact i (f := f) (by rw [List.getElem?_eq_getElem hi, e])
end EV

/-! The M-terms of lastcall_k14_errors_and_papers_and_what (printed by gen.py). -/
namespace L
open PySem PySem.Spec PyProof.Rows L2 EV
def insL : List Nat := [0, 1]
def clF (C : Nat) : Bool := insL.contains C
def xlL : List Nat := [3, 4, 5, 6, 7, 8, 9, 10, 11, 12, 13, 14, 15, 16, 17, 18, 19, 20, 21]
def xlF (C : Nat) : Bool := xlL.contains C
def nmF : Nat → Option Cs
  | 0 => some [80, 97, 112, 101, 114]
  | 1 => some [68, 101, 110, 105, 97, 108]
  | _ => none
def subsOf : Nat → List Nat
  | 0 => []
  | 1 => [1, 2]
  | 2 => [2]
  | 3 => [3]
  | 4 => [4]
  | 5 => [5]
  | 6 => [6]
  | 20 => [20]
  | 21 => [20, 21]
  | 23 => [7, 22, 23]
  | 24 => [7, 22, 24]
  | 25 => [7, 22, 25]
  | 26 => [7, 22, 26]
  | 27 => [7, 22, 27]
  | 28 => [7, 22, 28]
  | 29 => [7, 22, 29]
  | 30 => [7, 22, 30]
  | 31 => [7, 22, 31]
  | 32 => [7, 22, 32]
  | 33 => [7, 22, 33]
  | 34 => [7, 22, 34]
  | 35 => [7, 22, 35]
  | 36 => [7, 22, 36]
  | 37 => [7, 22, 37]
  | 38 => [7, 22, 38]
  | 39 => [7, 22, 39]
  | 40 => [7, 22, 40]
  | 41 => [7, 22, 41]
  | _ => []
def asL : List Nat := [0, 1, 2, 3, 4, 5, 6, 20, 21, 23, 24, 25, 26, 27, 28, 29, 30, 31, 32, 33, 34, 35, 36, 37, 38, 39, 40, 41]
def bsL : List Nat := [1, 2, 3, 4, 5, 6, 7, 20, 21, 22, 23, 24, 25, 26, 27, 28, 29, 30, 31, 32, 33, 34, 35, 36, 37, 38, 39, 40, 41]
def isiF (a b : Nat) : Option Bool := if asL.contains a && bsL.contains b then some ((subsOf a).contains b) else none
def nfL : List Nat := [0, 1, 2, 3, 4, 5, 6, 20]
def nfF (t : Nat) : Bool := nfL.contains t
def b_is_integer : MS := sRet (mIf (mB (fIsi isiF clF xlF) [mVar 0, mC (.ty "int")]) (mNot (mB (fIsi isiF clF xlF) [mVar 0, mC (.ty "bool")])) mFalse)
def m_is_integer : List SV → SHp → R := fnM 1 b_is_integer
def b_is_name : MS := sSeq (sIf (mIf (mNot (mTru (mB (fIsi isiF clF xlF) [mVar 0, mC (.ty "str")]))) mTrue (mNot (mChain (fOrd (fun i j => decide (i ≤ j)) fun a b => !ltC b a) (fOrd (fun i j => decide (i ≤ j)) fun a b => !ltC b a) (mC (.int 1)) (mB fLen [mVar 0]) (mC (.int 8))))) (sRet (mC (.bl false))) (sNil)) (sRet (mB fAll [mLc (mIts (mVar 0)) (.nm 1) (mTrue) (mV2 (fIn false) (mVar 1) (mC (.str [97, 98, 99, 100, 101, 102, 103, 104, 105, 106, 107, 108, 109, 110, 111, 112, 113, 114, 115, 116, 117, 118, 119, 120, 121, 122]))) [1]]))
def m_is_name : List SV → SHp → R := fnM 2 b_is_name
def b_is_ascending : MS := sRet (mB fAll [mLc (mZip (mVar 0) (mSlL (mVar 0) (mC (.int 1)))) (.tp [1, 2]) (mTrue) (mV2 (fOrd (fun i j => decide (i < j)) ltC) (mVar 1) (mVar 2)) [1, 2]])
def m_is_ascending : List SV → SHp → R := fnM 3 b_is_ascending
def b_is_stamp : MS := sSeq (sIf (mIf (mNot (mTru (mB (fIsi isiF clF xlF) [mVar 0, mC (.ty "tuple")]))) mTrue (mV2 (fEqX true) (mB fLen [mVar 0]) (mC (.int 2)))) (sRet (mC (.bl false))) (sNil)) (sRet (mIf (mCall m_is_integer [] [mV2 fIx (mVar 0) (mC (.int 0))]) (mIf (mV2 (fOrd (fun i j => decide (j ≤ i)) fun a b => !ltC a b) (mV2 fIx (mVar 0) (mC (.int 0))) (mC (.int 1))) (mCall m_is_name [] [mV2 fIx (mVar 0) (mC (.int 1))]) mFalse) mFalse))
def m_is_stamp : List SV → SHp → R := fnM 1 b_is_stamp
def b_is_part : MS := sSeq (sIf (mIf (mNot (mTru (mB (fIsi isiF clF xlF) [mVar 0, mC (.ty "tuple")]))) mTrue (mNot (mTru (mB fAll [mLc (mIts (mVar 0)) (.nm 1) (mTrue) (mIf (mB (fIsi isiF clF xlF) [mVar 1, mC (.ty "tuple")]) (mV2 (fEqX false) (mB fLen [mVar 1]) (mC (.int 2))) mFalse) [1]])))) (sRet (mC (.bl false))) (sNil)) (sSeq (sIf (mNot (mTru (mB fAll [mLc (mIts (mVar 0)) (.tp [2, 3]) (mTrue) (mIf (mCall m_is_name [] [mVar 2]) (mIf (mCall m_is_integer [] [mVar 3]) (mV2 (fOrd (fun i j => decide (j ≤ i)) fun a b => !ltC a b) (mVar 3) (mC (.int 1))) mFalse) mFalse) [2, 3]]))) (sRet (mC (.bl false))) (sNil)) (sRet (mCall m_is_ascending [] [mLc (mIts (mVar 0)) (.tp [2, 3]) (mTrue) (mVar 2) [2, 3]])))
def m_is_part : List SV → SHp → R := fnM 4 b_is_part
def b_fixed (rc : List SV → SHp → R) : MS := sSeq (sIf (mTru (mB (fIsi isiF clF xlF) [mVar 0, mTup [mC (.ty "list"), mC (.ty "tuple")]])) (sRet (mB fTupOf [mLc (mIts (mVar 0)) (.nm 1) (mTrue) (mCall rc [] [mVar 1]) [1]])) (sNil)) (sSeq (sIf (mTru (mB (fIsi isiF clF xlF) [mVar 0, mC (.ty "dict")])) (sRet (mFz (mLk 0 (mDcT (mIts (mVar 0)) (.nm 2) (mTrue) (mVar 2) (mCall rc [] [mV2 fIx (mVar 0) (mVar 2)]) [2])))) (sNil)) (sRet (mVar 0)))
def m_fixedF : Nat → List SV → SHp → R
  | 0 => fnM 3 sBad
  | n + 1 => fnM 3 (b_fixed (m_fixedF n))
def b_Paper_init : MS := sSeq (sFld insL [119, 111, 114, 100] (mVar 1) (mVar 0)) (sFld insL [112, 97, 114, 116, 115] (mCall (m_fixedF 7) [] [mVar 2]) (mVar 0))
def m_Paper_init : List SV → SHp → R := fnM 3 b_Paper_init
def b_Paper_bool : MS := sRet (mC (.bl true))
def m_Paper_bool : List SV → SHp → R := fnM 1 b_Paper_bool
def b_Paper_eq : MS := sSeq (sIf (mIf (mNot (mTru (mB (fIsi isiF clF xlF) [mVar 1, mC (.gl 0)]))) mTrue (mV2 (fEqX true) (mCn nmF (mVar 0)) (mCn nmF (mVar 1)))) (sRet (mC (.bl false))) (sNil)) (sRet (mB fBoolI [mIf (mV2 (fEqX false) (mFld insL [119, 111, 114, 100] (mVar 0)) (mFld insL [119, 111, 114, 100] (mVar 1))) (mV2 (fEqX false) (mFld insL [112, 97, 114, 116, 115] (mVar 0)) (mFld insL [112, 97, 114, 116, 115] (mVar 1))) mFalse]))
def m_Paper_eq : List SV → SHp → R := fnM 2 b_Paper_eq
def b_Denial_bool : MS := sRet (mC (.bl false))
def m_Denial_bool : List SV → SHp → R := fnM 1 b_Denial_bool
def b__law_pen : MS := sRet (mLstT [mB fLstOf [mSlH (mVar 0) (mC (.int 63))], mC (.int 0), mC (.int 0)])
def m__law_pen : List SV → SHp → R := fnK 1 b__law_pen
def b__law_draw : MS := sSeq (sIf (mV2 (fOrd (fun i j => decide (j < i)) fun a b => ltC b a) (mV2 fIx (mVar 0) (mC (.int 2))) (mC (.int 0))) (sSeq (sSet 2 (mV2 (fI2 bPos fun i j => i % j) (mB fInt [mV2 fIx (mVar 0) (mC (.int 2))]) (mVar 1))) (sSeq (sSubL (mV2 (fI2 bDiv fun i j => i / j) (mB fInt [mV2 fIx (mVar 0) (mC (.int 2))]) (mVar 1)) (mVar 0) (mC (.int 2))) (sRet (mVar 2)))) (sNil)) (sSeq (sSet 3 (mV2 fIx (mVar 0) (mC (.int 1)))) (sSeq (sSubL (mV2 fAdd (mVar 3) (mC (.int 1))) (mVar 0) (mC (.int 1))) (sSeq (sSet 4 (mV2 fAdd (mV2 fMulX (mC (.int 80833)) (mVar 3)) (mC (.int 4633)))) (sSeq (sIf (mV2 (fEqX true) (mV2 fIx (mVar 0) (mC (.int 0))) (mLst [])) (sSet 4 (mV2 fIx (mV2 fIx (mVar 0) (mC (.int 0))) (mV2 (fI2 bPos fun i j => i % j) (mB fInt [mVar 3]) (mB fLen [mV2 fIx (mVar 0) (mC (.int 0))])))) (sNil)) (sSeq (sIf (mIf (mV2 (fOrd (fun i j => decide (i < j)) ltC) (mVar 3) (mB fLen [mV2 fIx (mVar 0) (mC (.int 0))])) (mV2 (fOrd (fun i j => decide (j ≤ i)) fun a b => !ltC a b) (mB fAbs [mVar 4]) (mV2 (fI2 bPow fun i j => i ^ j.toNat) (mC (.int 10)) (mC (.int 18)))) mFalse) (sSeq (sSet 5 (mV2 fAdd (mV2 fMulX (mC (.int 2)) (mV2 (fI2 bT fun i j => i - j) (mB fAbs [mVar 4]) (mV2 (fI2 bPow fun i j => i ^ j.toNat) (mC (.int 10)) (mC (.int 18))))) (mB fInt [mV2 (fOrd (fun i j => decide (i < j)) ltC) (mVar 4) (mC (.int 0))]))) (sSeq (sSubL (mV2 (fI2 bDiv fun i j => i / j) (mB fInt [mVar 5]) (mVar 1)) (mVar 0) (mC (.int 2))) (sRet (mV2 (fI2 bPos fun i j => i % j) (mB fInt [mVar 5]) (mVar 1))))) (sNil)) (sSeq (sSet 6 (mV2 (fI2 bPos fun i j => i % j) (mB fInt [mV2 (fI2 bPow fun i j => i ^ j.toNat) (mV2 fAdd (mV2 fAdd (mV2 (fI2 bPos fun i j => i % j) (mB fInt [mVar 4]) (mC (.int 2147483587))) (mV2 fMulX (mC (.int 60545)) (mVar 3))) (mC (.int 2225))) (mC (.int 5))]) (mC (.int 2147483563)))) (sSeq (sSet 6 (mV2 (fI2 bPos fun i j => i % j) (mB fInt [mV2 (fI2 bPow fun i j => i ^ j.toNat) (mV2 fAdd (mV2 fAdd (mV2 fMulX (mVar 6) (mV2 fAdd (mV2 fMulX (mC (.int 2)) (mVar 3)) (mC (.int 5171)))) (mV2 fMulX (mV2 fMulX (mC (.int 90415)) (mVar 3)) (mVar 3))) (mC (.int 3095))) (mC (.int 3))]) (mC (.int 2147483549)))) (sRet (mV2 (fI2 bPos fun i j => i % j) (mB fInt [mV2 (fI2 bDiv fun i j => i / j) (mVar 6) (mC (.int 16))]) (mVar 1))))))))))
def m__law_draw : List SV → SHp → R := fnM 7 b__law_draw
def b__law_pick : MS := sRet (mV2 fIx (mVar 1) (mCall m__law_draw [] [mVar 0, mB fLen [mVar 1]]))
def m__law_pick : List SV → SHp → R := fnM 2 b__law_pick
def b_law : MS := sSeq (sSet 1 (mCall m__law_pen [] [mVar 0])) (sSeq (sSet 2 (mCall m__law_pick [] [mVar 1, mLst [mC .non, mC (.int 3), mC (.str [120]), mTup [mC (.int 1), mC (.str [97, 110, 110])], mLst [mC (.int 1)]]])) (sSeq (sSet 3 (mLst [mMkX 3 [[118, 97, 108, 117, 101]] [mVar 2], mMkX 8 [[118, 97, 108, 117, 101]] [mVar 2], mMkX 11 [[118, 97, 108, 117, 101]] [mVar 2]])) (sSeq (sSet 4 (mLst [mMkX 4 [[112, 97, 114, 116]] [mVar 2], mMkX 5 [[112, 97, 114, 116]] [mVar 2], mMkX 6 [[112, 97, 114, 116]] [mVar 2], mMkX 7 [[112, 97, 114, 116]] [mVar 2], mMkX 9 [[112, 97, 114, 116]] [mVar 2], mMkX 20 [[112, 97, 114, 116]] [mVar 2]])) (sSeq (sSet 5 (mLst [mMkX 10 [[115, 116, 97, 109, 112]] [mVar 2], mMkX 15 [[115, 116, 97, 109, 112]] [mVar 2], mMkX 16 [[115, 116, 97, 109, 112]] [mVar 2], mMkX 17 [[115, 116, 97, 109, 112]] [mVar 2], mMkX 19 [[115, 116, 97, 109, 112]] [mVar 2]])) (sSeq (sIf (mV2 (fEqX true) (mV2 fAdd (mV2 fAdd (mLc (mIts (mVar 3)) (.nm 6) (mV2 (fEqX true) (mXf [3, 8, 11] [118, 97, 108, 117, 101] (mVar 6)) (mVar 2)) (mVar 6) [6]) (mLc (mIts (mVar 4)) (.nm 6) (mV2 (fEqX true) (mXf [4, 5, 6, 7, 9, 20] [112, 97, 114, 116] (mVar 6)) (mVar 2)) (mVar 6) [6])) (mLc (mIts (mVar 5)) (.nm 6) (mV2 (fEqX true) (mXf [10, 15, 16, 17, 19] [115, 116, 97, 109, 112] (mVar 6)) (mVar 2)) (mVar 6) [6])) (mLst [])) (sRet (mC (.bl false))) (sNil)) (sSeq (sSet 7 (mLst [mMkX 13 [[110, 97, 109, 101]] [mVar 2], mMkX 14 [[104, 97, 110, 100]] [mVar 2], mMkX 18 [[104, 97, 110, 100], [109, 97, 110, 121]] [mVar 2, mC (.int 3)], mMkX 21 [[119, 104, 97, 116], [109, 111, 115, 116]] [mVar 2, mC (.int 7)], mMkX 12 [[108, 105, 110, 101], [119, 111, 114, 100]] [mC (.int 1), mC (.int 2)]])) (sSeq (sIf (mV2 (fEqX true) (mLst [mXf [13] [110, 97, 109, 101] (mV2 fIx (mVar 7) (mC (.int 0))), mXf [14, 18] [104, 97, 110, 100] (mV2 fIx (mVar 7) (mC (.int 1))), mXf [14, 18] [104, 97, 110, 100] (mV2 fIx (mVar 7) (mC (.int 2))), mXf [18] [109, 97, 110, 121] (mV2 fIx (mVar 7) (mC (.int 2))), mXf [21] [119, 104, 97, 116] (mV2 fIx (mVar 7) (mC (.int 3))), mXf [21] [109, 111, 115, 116] (mV2 fIx (mVar 7) (mC (.int 3))), mXf [12] [108, 105, 110, 101] (mV2 fIx (mVar 7) (mC (.int 4))), mXf [12] [119, 111, 114, 100] (mV2 fIx (mVar 7) (mC (.int 4)))]) (mLst [mVar 2, mVar 2, mVar 2, mC (.int 3), mVar 2, mC (.int 7), mC (.int 1), mC (.int 2)])) (sRet (mC (.bl false))) (sNil)) (sSeq (sSet 8 (mV2 fAdd (mV2 fAdd (mV2 fAdd (mVar 3) (mVar 4)) (mVar 5)) (mVar 7))) (sSeq (sIf (mV2 (fEqX true) (mLc (mIts (mVar 8)) (.nm 6) (mIf (mNot (mTru (mB (fIsi isiF clF xlF) [mVar 6, mC (.gl 2)]))) mTrue (mNot (mTru (mB (fIsi isiF clF xlF) [mVar 6, mC (.ty "ValueError")])))) (mVar 6) [6]) (mLst [])) (sRet (mC (.bl false))) (sNil)) (sSeq (sFor (mEnum (mVar 8)) (.tp [9, 6]) (sSeq (sSet 10 (mLst [mB (fIsi isiF clF xlF) [mVar 6, mC (.gl 3)], mB (fIsi isiF clF xlF) [mVar 6, mC (.gl 8)], mB (fIsi isiF clF xlF) [mVar 6, mC (.gl 11)], mB (fIsi isiF clF xlF) [mVar 6, mC (.gl 4)], mB (fIsi isiF clF xlF) [mVar 6, mC (.gl 5)]])) (sSeq (sSet 10 (mV2 fAdd (mVar 10) (mLst [mB (fIsi isiF clF xlF) [mVar 6, mC (.gl 6)], mB (fIsi isiF clF xlF) [mVar 6, mC (.gl 7)], mB (fIsi isiF clF xlF) [mVar 6, mC (.gl 9)], mB (fIsi isiF clF xlF) [mVar 6, mC (.gl 20)]]))) (sSeq (sSet 10 (mV2 fAdd (mVar 10) (mLst [mB (fIsi isiF clF xlF) [mVar 6, mC (.gl 10)], mB (fIsi isiF clF xlF) [mVar 6, mC (.gl 15)], mB (fIsi isiF clF xlF) [mVar 6, mC (.gl 16)], mB (fIsi isiF clF xlF) [mVar 6, mC (.gl 17)], mB (fIsi isiF clF xlF) [mVar 6, mC (.gl 19)]]))) (sSeq (sSet 10 (mV2 fAdd (mVar 10) (mLst [mB (fIsi isiF clF xlF) [mVar 6, mC (.gl 13)], mB (fIsi isiF clF xlF) [mVar 6, mC (.gl 14)], mB (fIsi isiF clF xlF) [mVar 6, mC (.gl 18)], mB (fIsi isiF clF xlF) [mVar 6, mC (.gl 21)], mB (fIsi isiF clF xlF) [mVar 6, mC (.gl 12)]]))) (sIf (mV2 (fEqX true) (mVar 10) (mLc (mRng1 (mB fLen [mVar 8])) (.nm 11) (mTrue) (mV2 (fEqX false) (mVar 11) (mVar 9)) [11])) (sRet (mC (.bl false))) (sNil))))))) (sSeq (sSet 12 (mDctT [(mC (.str [97]), mC (.int 1))])) (sSeq (sPar2 13 14 [mFz (mMake 0 (starM 2 m_Paper_init) [] [mC (.str [110, 111, 116, 101]), mLst [mC (.int 1), mLst [mVar 2]], mVar 12]), mFz (mMake 1 (starM 2 m_Paper_init) [] [mC (.str [110, 111, 116, 101]), mLst [mC (.int 1), mLst [mVar 2]], mFz (mDctT [(mC (.str [97]), mC (.int 1))])])]) (sSeq (sSubL (mC (.int 2)) (mVar 12) (mC (.str [97]))) (sSeq (sSet 15 (mIf (mTru (mB (fIsi isiF clF xlF) [mVar 2, mC (.ty "list")])) (mTup [mC (.int 1), mTup [mTup [mC (.int 1)]]]) (mTup [mC (.int 1), mTup [mVar 2]]))) (sSeq (sIf (mIf (mV2 (fEqX true) (mFld insL [112, 97, 114, 116, 115] (mVar 13)) (mTup [mVar 15, mFz (mDctT [(mC (.str [97]), mC (.int 1))])])) mTrue (mIf (mV2 (fEqX true) (mFld insL [119, 111, 114, 100] (mVar 13)) (mC (.str [110, 111, 116, 101]))) mTrue (mIf (mV2 (fIs true) (mOL (kBool 0 m_Paper_bool) [mVar 13]) (mC (.bl true))) mTrue (mIf (mV2 (fIs true) (mOL (kBool 1 m_Denial_bool) [mVar 14]) (mC (.bl false))) mTrue (mIf (mO (kEqO false 0 m_Paper_eq [1] nfF clF xlF) (mVar 13) (mVar 14)) mTrue (mO (kEqO true 0 m_Paper_eq [1] nfF clF xlF) (mVar 13) (mFz (mMake 0 (starM 2 m_Paper_init) [] [mC (.str [110, 111, 116, 101]), mTup [mC (.int 1), mTup [mVar 2]], mFz (mDctT [(mC (.str [97]), mC (.int 1))])])))))))) (sRet (mC (.bl false))) (sNil)) (sSeq (sIf (mIf (mO (kEqO false 0 m_Paper_eq [1] nfF clF xlF) (mVar 13) (mFz (mMake 0 (starM 2 m_Paper_init) [] [mC (.str [110, 111, 116]), mLst [mC (.int 1), mLst [mVar 2]], mFz (mDctT [(mC (.str [97]), mC (.int 1))])]))) mTrue (mIf (mO (kEqO false 0 m_Paper_eq [1] nfF clF xlF) (mVar 13) (mFld insL [112, 97, 114, 116, 115] (mVar 13))) mTrue (mIf (mNot (mTru (mB (fIsi isiF clF xlF) [mVar 14, mC (.gl 0)]))) mTrue (mTru (mB (fIsi isiF clF xlF) [mVar 13, mC (.gl 1)]))))) (sRet (mC (.bl false))) (sNil)) (sSeq (sSet 16 (mLst [mC .non, mC (.bl true), mC (.bl false), mC (.int 0), mV1 fNeg (mC (.int 3)), mV2 (fI2 bPow fun i j => i ^ j.toNat) (mC (.int 10)) (mC (.int 40)), mC (.str [97]), mC (.str [97, 98, 99, 100, 101, 102, 103, 104]), mC (.str [97, 98, 99, 100, 101, 102, 103, 104, 105]), mC (.str []), mC (.str [65]), mC (.str [97, 49]), mTup [mC (.int 1), mC (.str [97, 110, 110])], mTup [mC (.int 0), mC (.str [97, 110, 110])], mTup [mC (.bl true), mC (.str [97, 110, 110])], mLst [mC (.int 1), mC (.str [97, 110, 110])], mTup [mC (.int 1), mC (.str [97, 110, 110]), mC (.int 1)], mTup []])) (sSeq (sSet 16 (mV2 fAdd (mVar 16) (mLst [mTup [mTup [mC (.str [97, 110, 110]), mC (.int 1)]], mTup [mTup [mC (.str [97, 110, 110]), mC (.int 0)]], mTup [mTup [mC (.str [98, 101, 110]), mC (.int 1)], mTup [mC (.str [97, 110, 110]), mC (.int 1)]], mTup [mTup [mC (.str [97, 110, 110]), mC (.int 1)], mTup [mC (.str [98, 101, 110]), mC (.int 2)]], mLst [mTup [mC (.str [97, 110, 110]), mC (.int 1)]], mTup [mTup [mC (.str [97, 110, 110]), mC (.bl true)]], mTup [mTup [mC (.str [97, 110, 110]), mC (.int 1)], mTup [mC (.str [97, 110, 110]), mC (.int 2)]], mDctN]))) (sSeq (sIf (mIf (mV2 (fEqX true) (mLc (mIts (mVar 16)) (.nm 17) (mTrue) (mCall m_is_integer [] [mVar 17]) [17]) (mV2 fAdd (mLst [mC (.bl false), mC (.bl false), mC (.bl false), mC (.bl true), mC (.bl true), mC (.bl true)]) (mV2 fMulX (mLst [mC (.bl false)]) (mC (.int 20))))) mTrue (mV2 (fEqX true) (mLc (mIts (mVar 16)) (.nm 17) (mTrue) (mCall m_is_name [] [mVar 17]) [17]) (mV2 fAdd (mV2 fAdd (mV2 fMulX (mLst [mC (.bl false)]) (mC (.int 6))) (mLst [mC (.bl true), mC (.bl true)])) (mV2 fMulX (mLst [mC (.bl false)]) (mC (.int 18)))))) (sRet (mC (.bl false))) (sNil)) (sRet (mIf (mV2 (fEqX false) (mLc (mIts (mVar 16)) (.nm 17) (mTrue) (mCall m_is_stamp [] [mVar 17]) [17]) (mV2 fAdd (mV2 fAdd (mV2 fMulX (mLst [mC (.bl false)]) (mC (.int 12))) (mLst [mC (.bl true)])) (mV2 fMulX (mLst [mC (.bl false)]) (mC (.int 13))))) (mV2 (fEqX false) (mLc (mIts (mVar 16)) (.nm 17) (mTrue) (mCall m_is_part [] [mVar 17]) [17]) (mV2 fAdd (mV2 fMulX (mLst [mC (.bl false)]) (mC (.int 17))) (mLst [mC (.bl true), mC (.bl true), mC (.bl false), mC (.bl false), mC (.bl true), mC (.bl false), mC (.bl false), mC (.bl false), mC (.bl false)]))) mFalse)))))))))))))))))))))
def m_law : List SV → SHp → R := fnM 18 b_law
end L

namespace L
open PySem PySem.Spec PyProof.Rows L2 EV
def clsB : Stmt → List Stmt
  | .ClassDef (body := b) .. => b
  | _ => []
def top (i : Nat) : Stmt := PySem.Challenge.pw_lastcall_k14_errors_and_papers_and_what.main.body.getD i (.Pass ⟨0, 0, 0, 0⟩)
def mth (i j : Nat) : Stmt := (clsB (top i)).getD j (.Pass ⟨0, 0, 0, 0⟩)
def cN : Nat → Str
  | 0 => "Paper"
  | 1 => "Denial"
  | 2 => "CallError"
  | 3 => "BadName"
  | 4 => "BadNumber"
  | 5 => "BadValue"
  | 6 => "BadKind"
  | 7 => "BadBook"
  | 8 => "BadStamp"
  | 9 => "BadEntry"
  | 10 => "BadLog"
  | 11 => "BadPart"
  | 12 => "BadText"
  | 13 => "NoKind"
  | 14 => "NoHand"
  | 15 => "NoShape"
  | 16 => "NoEntry"
  | 17 => "NoCall"
  | 18 => "Gap"
  | 19 => "Clashing"
  | 20 => "Misfit"
  | 21 => "TooMany"
  | _ => "?"
def Gk (K : PySem.W.Frag) : Nat → Addr := fun i => He.ga K (cN i)
def gloL : List Str := ["is_integer", "is_name", "is_ascending", "is_stamp", "is_part", "fixed", "Paper", "Denial", "CallError", "BadName", "BadNumber", "BadValue", "BadKind", "BadBook", "BadStamp", "BadEntry", "BadLog", "BadPart", "BadText", "NoKind", "NoHand", "NoShape", "NoEntry", "NoCall", "Gap", "Clashing", "Misfit", "TooMany", "_law_pen", "_law_draw", "_law_pick", "law"]
def freeL : List Str := ["ValueError", "abs", "all", "bool", "dict", "enumerate", "int", "isinstance", "len", "list", "range", "str", "tuple", "zip"]
def intL : List (Str × Int) := [("MOST_SIGNS", 8)]
def strL : List (Str × Str) := [("LETTERS", "abcdefghijklmnopqrstuvwxyz")]
def fldL : List Str := ["parts", "word"]
def xfT : List (Str × List Nat) := [("hand", [14, 18]), ("line", [12]), ("many", [18]), ("most", [21]), ("name", [13]), ("part", [4, 5, 6, 7, 9, 20]), ("stamp", [10, 15, 16, 17, 19]), ("value", [3, 8, 11]), ("what", [21]), ("word", [12])]
def xnT : List (Nat × Str) := [(3, "value"), (4, "part"), (5, "part"), (6, "part"), (7, "part"), (8, "value"), (9, "part"), (10, "stamp"), (11, "value"), (12, "line"), (12, "word"), (13, "name"), (14, "hand"), (15, "stamp"), (16, "stamp"), (17, "stamp"), (18, "hand"), (18, "many"), (19, "stamp"), (20, "part"), (21, "what"), (21, "most")]
def dd_is_integer : He.DefD := ⟨("is_integer", none), "is_integer", "is_integer", defArgs (top 3), defBody (top 3), defScope (top 3), [], []⟩
def dd_is_name : He.DefD := ⟨("is_name", none), "is_name", "is_name", defArgs (top 4), defBody (top 4), defScope (top 4), [], []⟩
def dd_is_ascending : He.DefD := ⟨("is_ascending", none), "is_ascending", "is_ascending", defArgs (top 5), defBody (top 5), defScope (top 5), [], []⟩
def dd_is_stamp : He.DefD := ⟨("is_stamp", none), "is_stamp", "is_stamp", defArgs (top 6), defBody (top 6), defScope (top 6), [], []⟩
def dd_is_part : He.DefD := ⟨("is_part", none), "is_part", "is_part", defArgs (top 7), defBody (top 7), defScope (top 7), [], []⟩
def dd_fixed : He.DefD := ⟨("fixed", none), "fixed", "fixed", defArgs (top 8), defBody (top 8), defScope (top 8), [], []⟩
def dd_Paper_init : He.DefD := ⟨("Paper", some "__init__"), "__init__", "Paper.__init__", defArgs (mth 10 0), defBody (mth 10 0), defScope (mth 10 0), [], []⟩
def dd_Paper_bool : He.DefD := ⟨("Paper", some "__bool__"), "__bool__", "Paper.__bool__", defArgs (mth 10 1), defBody (mth 10 1), defScope (mth 10 1), [], []⟩
def dd_Paper_eq : He.DefD := ⟨("Paper", some "__eq__"), "__eq__", "Paper.__eq__", defArgs (mth 10 2), defBody (mth 10 2), defScope (mth 10 2), [], []⟩
def dd_Denial_bool : He.DefD := ⟨("Denial", some "__bool__"), "__bool__", "Denial.__bool__", defArgs (mth 11 0), defBody (mth 11 0), defScope (mth 11 0), [], []⟩
def dd_BadName_init : He.DefD := ⟨("BadName", some "__init__"), "__init__", "BadName.__init__", defArgs (mth 14 0), defBody (mth 14 0), defScope (mth 14 0), [], []⟩
def dd_BadNumber_init : He.DefD := ⟨("BadNumber", some "__init__"), "__init__", "BadNumber.__init__", defArgs (mth 15 0), defBody (mth 15 0), defScope (mth 15 0), [], []⟩
def dd_BadValue_init : He.DefD := ⟨("BadValue", some "__init__"), "__init__", "BadValue.__init__", defArgs (mth 16 0), defBody (mth 16 0), defScope (mth 16 0), [], []⟩
def dd_BadKind_init : He.DefD := ⟨("BadKind", some "__init__"), "__init__", "BadKind.__init__", defArgs (mth 17 0), defBody (mth 17 0), defScope (mth 17 0), [], []⟩
def dd_BadBook_init : He.DefD := ⟨("BadBook", some "__init__"), "__init__", "BadBook.__init__", defArgs (mth 18 0), defBody (mth 18 0), defScope (mth 18 0), [], []⟩
def dd_BadStamp_init : He.DefD := ⟨("BadStamp", some "__init__"), "__init__", "BadStamp.__init__", defArgs (mth 19 0), defBody (mth 19 0), defScope (mth 19 0), [], []⟩
def dd_BadEntry_init : He.DefD := ⟨("BadEntry", some "__init__"), "__init__", "BadEntry.__init__", defArgs (mth 20 0), defBody (mth 20 0), defScope (mth 20 0), [], []⟩
def dd_BadLog_init : He.DefD := ⟨("BadLog", some "__init__"), "__init__", "BadLog.__init__", defArgs (mth 21 0), defBody (mth 21 0), defScope (mth 21 0), [], []⟩
def dd_BadPart_init : He.DefD := ⟨("BadPart", some "__init__"), "__init__", "BadPart.__init__", defArgs (mth 22 0), defBody (mth 22 0), defScope (mth 22 0), [], []⟩
def dd_BadText_init : He.DefD := ⟨("BadText", some "__init__"), "__init__", "BadText.__init__", defArgs (mth 23 0), defBody (mth 23 0), defScope (mth 23 0), [], []⟩
def dd_NoKind_init : He.DefD := ⟨("NoKind", some "__init__"), "__init__", "NoKind.__init__", defArgs (mth 24 0), defBody (mth 24 0), defScope (mth 24 0), [], []⟩
def dd_NoHand_init : He.DefD := ⟨("NoHand", some "__init__"), "__init__", "NoHand.__init__", defArgs (mth 25 0), defBody (mth 25 0), defScope (mth 25 0), [], []⟩
def dd_NoShape_init : He.DefD := ⟨("NoShape", some "__init__"), "__init__", "NoShape.__init__", defArgs (mth 26 0), defBody (mth 26 0), defScope (mth 26 0), [], []⟩
def dd_NoEntry_init : He.DefD := ⟨("NoEntry", some "__init__"), "__init__", "NoEntry.__init__", defArgs (mth 27 0), defBody (mth 27 0), defScope (mth 27 0), [], []⟩
def dd_NoCall_init : He.DefD := ⟨("NoCall", some "__init__"), "__init__", "NoCall.__init__", defArgs (mth 28 0), defBody (mth 28 0), defScope (mth 28 0), [], []⟩
def dd_Gap_init : He.DefD := ⟨("Gap", some "__init__"), "__init__", "Gap.__init__", defArgs (mth 29 0), defBody (mth 29 0), defScope (mth 29 0), [], []⟩
def dd_Clashing_init : He.DefD := ⟨("Clashing", some "__init__"), "__init__", "Clashing.__init__", defArgs (mth 30 0), defBody (mth 30 0), defScope (mth 30 0), [], []⟩
def dd_Misfit_init : He.DefD := ⟨("Misfit", some "__init__"), "__init__", "Misfit.__init__", defArgs (mth 31 0), defBody (mth 31 0), defScope (mth 31 0), [], []⟩
def dd_TooMany_init : He.DefD := ⟨("TooMany", some "__init__"), "__init__", "TooMany.__init__", defArgs (mth 32 0), defBody (mth 32 0), defScope (mth 32 0), [], []⟩
def dd__law_pen : He.DefD := ⟨("_law_pen", none), "_law_pen", "_law_pen", defArgs (top 34), defBody (top 34), defScope (top 34), [], []⟩
def dd__law_draw : He.DefD := ⟨("_law_draw", none), "_law_draw", "_law_draw", defArgs (top 35), defBody (top 35), defScope (top 35), [], []⟩
def dd__law_pick : He.DefD := ⟨("_law_pick", none), "_law_pick", "_law_pick", defArgs (top 36), defBody (top 36), defScope (top 36), [], []⟩
def dd_law : He.DefD := ⟨("law", none), "law", "law", defArgs (top 37), defBody (top 37), defScope (top 37), [], []⟩
def fn : List He.DefD := [dd_is_integer, dd_is_name, dd_is_ascending, dd_is_stamp, dd_is_part, dd_fixed, dd_Paper_init, dd_Paper_bool, dd_Paper_eq, dd_Denial_bool, dd_BadName_init, dd_BadNumber_init, dd_BadValue_init, dd_BadKind_init, dd_BadBook_init, dd_BadStamp_init, dd_BadEntry_init, dd_BadLog_init, dd_BadPart_init, dd_BadText_init, dd_NoKind_init, dd_NoHand_init, dd_NoShape_init, dd_NoEntry_init, dd_NoCall_init, dd_Gap_init, dd_Clashing_init, dd_Misfit_init, dd_TooMany_init, dd__law_pen, dd__law_draw, dd__law_pick, dd_law]
def fa : List He.Fa := gloL.map .glo ++ (freeL.map .free ++ (intL.map (fun p => .int p.1 p.2) ++ strL.map (fun p => .str p.1 p.2)))
def ex0 (K : PySem.W.Frag) : Bool := asL.all fun a => bsL.all fun b => match isiF a b with | some r => decide (PySem.W.kitOne K (tagV (Gk K) a) (tagV (Gk K) b) = some r) | none => true
def ex1 (K : PySem.W.Frag) : Bool := insL.all fun C => insB K (Gk K C)
def ex2 (K : PySem.W.Frag) : Bool := xlL.all fun C => excB K (Gk K C)
def ex3 (K : PySem.W.Frag) : Bool := xlL.all fun C => xcB K (Gk K C) (He.fAd K (cN C, some "__init__"))
def ex4 (K : PySem.W.Frag) : Bool := xfT.all fun p => p.2.all fun C => decide (PySem.W.findIn K (.ref (Gk K C)) p.1 = some none)
def ex5 (K : PySem.W.Frag) : Bool := xnT.all fun p => decide (PySem.W.findIn K (.ref (Gk K p.1)) p.2 = some none)
def ex6 (K : PySem.W.Frag) : Bool := fldL.all fun f => insL.all fun C => decide (PySem.W.findIn K (.ref (Gk K C)) f = some none)
def ex7 (K : PySem.W.Frag) : Bool := (PySem.W.makesIn K (Gk K 0) && (decide (PySem.W.findIn K (.ref (Gk K 0)) "__init__" = some (some (.ref (He.fAd K ("Paper", some "__init__"))))) && (PySem.W.isFn K (.ref (He.fAd K ("Paper", some "__init__"))) && PySem.W.keepIn K (.ref (Gk K 0)))))
def ex8 (K : PySem.W.Frag) : Bool := (PySem.W.makesIn K (Gk K 1) && (decide (PySem.W.findIn K (.ref (Gk K 1)) "__init__" = some (some (.ref (He.fAd K ("Paper", some "__init__"))))) && (PySem.W.isFn K (.ref (He.fAd K ("Paper", some "__init__"))) && PySem.W.keepIn K (.ref (Gk K 1)))))
def ex9 (K : PySem.W.Frag) : Bool := eqB K (Gk K) 0 (He.fAd K ("Paper", some "__eq__")) [1] nfL
def ex10 (K : PySem.W.Frag) : Bool := (decide (PySem.W.findIn K (.ref (Gk K 0)) "__bool__" = some (some (.ref (He.fAd K ("Paper", some "__bool__"))))) && PySem.W.isFn K (.ref (He.fAd K ("Paper", some "__bool__"))))
def ex11 (K : PySem.W.Frag) : Bool := (decide (PySem.W.findIn K (.ref (Gk K 1)) "__bool__" = some (some (.ref (He.fAd K ("Denial", some "__bool__"))))) && PySem.W.isFn K (.ref (He.fAd K ("Denial", some "__bool__"))))
def ex12 (K : PySem.W.Frag) : Bool := cnB K (Gk K 0) (toS [80, 97, 112, 101, 114])
def ex13 (K : PySem.W.Frag) : Bool := cnB K (Gk K 1) (toS [68, 101, 110, 105, 97, 108])
def exB (K : PySem.W.Frag) : Bool := ex0 K && (ex1 K && (ex2 K && (ex3 K && (ex4 K && (ex5 K && (ex6 K && (ex7 K && (ex8 K && (ex9 K && (ex10 K && (ex11 K && (ex12 K && (ex13 K)))))))))))))
structure Fx (K : PySem.W.Frag) (mg : Str → Option Value) : Prop where
  glo : ∀ x, x ∈ gloL → mg x = some (.ref (He.ga K x))
  free : ∀ x, x ∈ freeL → mg x = none
  int_ : ∀ x i, (x, i) ∈ intL → ∃ t, mg x = some (.int i t)
  str_ : ∀ x z, (x, z) ∈ strL → ∃ t, mg x = some (.str z t)
  d_is_integer : ∃ fd, FunD K "is_integer" "is_integer" (defArgs (top 3)) (defBody (top 3)) (defScope (top 3)) [] [] (He.fAd K ("is_integer", none)) fd
  d_is_name : ∃ fd, FunD K "is_name" "is_name" (defArgs (top 4)) (defBody (top 4)) (defScope (top 4)) [] [] (He.fAd K ("is_name", none)) fd
  d_is_ascending : ∃ fd, FunD K "is_ascending" "is_ascending" (defArgs (top 5)) (defBody (top 5)) (defScope (top 5)) [] [] (He.fAd K ("is_ascending", none)) fd
  d_is_stamp : ∃ fd, FunD K "is_stamp" "is_stamp" (defArgs (top 6)) (defBody (top 6)) (defScope (top 6)) [] [] (He.fAd K ("is_stamp", none)) fd
  d_is_part : ∃ fd, FunD K "is_part" "is_part" (defArgs (top 7)) (defBody (top 7)) (defScope (top 7)) [] [] (He.fAd K ("is_part", none)) fd
  d_fixed : ∃ fd, FunD K "fixed" "fixed" (defArgs (top 8)) (defBody (top 8)) (defScope (top 8)) [] [] (He.fAd K ("fixed", none)) fd
  d_Paper_init : ∃ fd, FunD K "__init__" "Paper.__init__" (defArgs (mth 10 0)) (defBody (mth 10 0)) (defScope (mth 10 0)) [] [] (He.fAd K ("Paper", some "__init__")) fd
  d_Paper_bool : ∃ fd, FunD K "__bool__" "Paper.__bool__" (defArgs (mth 10 1)) (defBody (mth 10 1)) (defScope (mth 10 1)) [] [] (He.fAd K ("Paper", some "__bool__")) fd
  d_Paper_eq : ∃ fd, FunD K "__eq__" "Paper.__eq__" (defArgs (mth 10 2)) (defBody (mth 10 2)) (defScope (mth 10 2)) [] [] (He.fAd K ("Paper", some "__eq__")) fd
  d_Denial_bool : ∃ fd, FunD K "__bool__" "Denial.__bool__" (defArgs (mth 11 0)) (defBody (mth 11 0)) (defScope (mth 11 0)) [] [] (He.fAd K ("Denial", some "__bool__")) fd
  d_BadName_init : ∃ fd, FunD K "__init__" "BadName.__init__" (defArgs (mth 14 0)) (defBody (mth 14 0)) (defScope (mth 14 0)) [] [] (He.fAd K ("BadName", some "__init__")) fd
  d_BadNumber_init : ∃ fd, FunD K "__init__" "BadNumber.__init__" (defArgs (mth 15 0)) (defBody (mth 15 0)) (defScope (mth 15 0)) [] [] (He.fAd K ("BadNumber", some "__init__")) fd
  d_BadValue_init : ∃ fd, FunD K "__init__" "BadValue.__init__" (defArgs (mth 16 0)) (defBody (mth 16 0)) (defScope (mth 16 0)) [] [] (He.fAd K ("BadValue", some "__init__")) fd
  d_BadKind_init : ∃ fd, FunD K "__init__" "BadKind.__init__" (defArgs (mth 17 0)) (defBody (mth 17 0)) (defScope (mth 17 0)) [] [] (He.fAd K ("BadKind", some "__init__")) fd
  d_BadBook_init : ∃ fd, FunD K "__init__" "BadBook.__init__" (defArgs (mth 18 0)) (defBody (mth 18 0)) (defScope (mth 18 0)) [] [] (He.fAd K ("BadBook", some "__init__")) fd
  d_BadStamp_init : ∃ fd, FunD K "__init__" "BadStamp.__init__" (defArgs (mth 19 0)) (defBody (mth 19 0)) (defScope (mth 19 0)) [] [] (He.fAd K ("BadStamp", some "__init__")) fd
  d_BadEntry_init : ∃ fd, FunD K "__init__" "BadEntry.__init__" (defArgs (mth 20 0)) (defBody (mth 20 0)) (defScope (mth 20 0)) [] [] (He.fAd K ("BadEntry", some "__init__")) fd
  d_BadLog_init : ∃ fd, FunD K "__init__" "BadLog.__init__" (defArgs (mth 21 0)) (defBody (mth 21 0)) (defScope (mth 21 0)) [] [] (He.fAd K ("BadLog", some "__init__")) fd
  d_BadPart_init : ∃ fd, FunD K "__init__" "BadPart.__init__" (defArgs (mth 22 0)) (defBody (mth 22 0)) (defScope (mth 22 0)) [] [] (He.fAd K ("BadPart", some "__init__")) fd
  d_BadText_init : ∃ fd, FunD K "__init__" "BadText.__init__" (defArgs (mth 23 0)) (defBody (mth 23 0)) (defScope (mth 23 0)) [] [] (He.fAd K ("BadText", some "__init__")) fd
  d_NoKind_init : ∃ fd, FunD K "__init__" "NoKind.__init__" (defArgs (mth 24 0)) (defBody (mth 24 0)) (defScope (mth 24 0)) [] [] (He.fAd K ("NoKind", some "__init__")) fd
  d_NoHand_init : ∃ fd, FunD K "__init__" "NoHand.__init__" (defArgs (mth 25 0)) (defBody (mth 25 0)) (defScope (mth 25 0)) [] [] (He.fAd K ("NoHand", some "__init__")) fd
  d_NoShape_init : ∃ fd, FunD K "__init__" "NoShape.__init__" (defArgs (mth 26 0)) (defBody (mth 26 0)) (defScope (mth 26 0)) [] [] (He.fAd K ("NoShape", some "__init__")) fd
  d_NoEntry_init : ∃ fd, FunD K "__init__" "NoEntry.__init__" (defArgs (mth 27 0)) (defBody (mth 27 0)) (defScope (mth 27 0)) [] [] (He.fAd K ("NoEntry", some "__init__")) fd
  d_NoCall_init : ∃ fd, FunD K "__init__" "NoCall.__init__" (defArgs (mth 28 0)) (defBody (mth 28 0)) (defScope (mth 28 0)) [] [] (He.fAd K ("NoCall", some "__init__")) fd
  d_Gap_init : ∃ fd, FunD K "__init__" "Gap.__init__" (defArgs (mth 29 0)) (defBody (mth 29 0)) (defScope (mth 29 0)) [] [] (He.fAd K ("Gap", some "__init__")) fd
  d_Clashing_init : ∃ fd, FunD K "__init__" "Clashing.__init__" (defArgs (mth 30 0)) (defBody (mth 30 0)) (defScope (mth 30 0)) [] [] (He.fAd K ("Clashing", some "__init__")) fd
  d_Misfit_init : ∃ fd, FunD K "__init__" "Misfit.__init__" (defArgs (mth 31 0)) (defBody (mth 31 0)) (defScope (mth 31 0)) [] [] (He.fAd K ("Misfit", some "__init__")) fd
  d_TooMany_init : ∃ fd, FunD K "__init__" "TooMany.__init__" (defArgs (mth 32 0)) (defBody (mth 32 0)) (defScope (mth 32 0)) [] [] (He.fAd K ("TooMany", some "__init__")) fd
  d__law_pen : ∃ fd, FunD K "_law_pen" "_law_pen" (defArgs (top 34)) (defBody (top 34)) (defScope (top 34)) [] [] (He.fAd K ("_law_pen", none)) fd
  d__law_draw : ∃ fd, FunD K "_law_draw" "_law_draw" (defArgs (top 35)) (defBody (top 35)) (defScope (top 35)) [] [] (He.fAd K ("_law_draw", none)) fd
  d__law_pick : ∃ fd, FunD K "_law_pick" "_law_pick" (defArgs (top 36)) (defBody (top 36)) (defScope (top 36)) [] [] (He.fAd K ("_law_pick", none)) fd
  d_law : ∃ fd, FunD K "law" "law" (defArgs (top 37)) (defBody (top 37)) (defScope (top 37)) [] [] (He.fAd K ("law", none)) fd
  isi : IsiOk K (Gk K) isiF clF xlF
  xc : ∀ C, C ∈ xlL → XcOk K (Gk K C) (He.fAd K (cN C, some "__init__"))
  xf : ∀ p : Str × List Nat, p ∈ xfT → XfOk K (Gk K) p.2 p.1
  xn : ∀ p : Nat × Str, p ∈ xnT → PySem.W.findIn K (.ref (Gk K p.1)) p.2 = some none
  fld : ∀ f, f ∈ fldL → FldOk K (Gk K) insL f
  mk_Paper : Mk K (Gk K 0) (He.fAd K ("Paper", some "__init__"))
  mk_Denial : Mk K (Gk K 1) (He.fAd K ("Paper", some "__init__"))
  eqok : EqOk K (Gk K) 0 (He.fAd K ("Paper", some "__eq__")) [1] nfF
  boolF_Paper : PySem.W.findIn K (.ref (Gk K 0)) "__bool__" = some (some (.ref (He.fAd K ("Paper", some "__bool__")))) ∧ PySem.W.isFn K (.ref (He.fAd K ("Paper", some "__bool__"))) = true
  boolF_Denial : PySem.W.findIn K (.ref (Gk K 1)) "__bool__" = some (some (.ref (He.fAd K ("Denial", some "__bool__")))) ∧ PySem.W.isFn K (.ref (He.fAd K ("Denial", some "__bool__"))) = true
  cn : ∀ C n, nmF C = some n → CnOk K (Gk K C) (toS n)
section
variable {P : Program} {w : World} {K : PySem.W.Frag} {mg : Str → Option Value} {base : Heap}
theorem sc_is_integer : FnScope ["value"] ["value"] (defScope (top 3)) := ⟨rfl, rfl, rfl, by decide +kernel, rfl, by decide +kernel, by decide +kernel⟩
theorem ok_is_integer (D : Fx K mg) : Ok1 P w K mg base (Gk K) 1 (He.fAd K ("is_integer", none)) ["value"] m_is_integer := by
  obtain ⟨fd, F⟩ := D.d_is_integer
  exact Ok1.ofM F sc_is_integer rfl (fun _ _ _ _ _ _ us hl => match us, hl with | [_], _ => rfl) (fun cdv A outer s H E hr => show PSL _ _ (defBody (top 3)) b_is_integer from (l_one (s_ret (e_and (e_callB (c_isi D.isi) (by rfl) (D.free "isinstance" (by decide +kernel)) (by decide +kernel) (as_cons (e_var (i := 0) (by rfl) (by first | exact Or.inl rfl | exact Or.inr (Or.inl rfl) | exact Or.inr (Or.inr rfl))) (as_cons (e_bltn (n := "int") (by rfl) (D.free "int" (by decide +kernel)) (by decide +kernel)) as_nil))) (e_one (e_not (e_callB (c_isi D.isi) (by rfl) (D.free "isinstance" (by decide +kernel)) (by decide +kernel) (as_cons (e_var (i := 0) (by rfl) (by first | exact Or.inl rfl | exact Or.inr (Or.inl rfl) | exact Or.inr (Or.inr rfl))) (as_cons (e_bltn (n := "bool") (by rfl) (D.free "bool" (by decide +kernel)) (by decide +kernel)) as_nil)))))))))
theorem sc_is_name : FnScope ["value", "letter"] ["value"] (defScope (top 4)) := ⟨rfl, rfl, rfl, by decide +kernel, rfl, by decide +kernel, by decide +kernel⟩
theorem ok_is_name (D : Fx K mg) : Ok1 P w K mg base (Gk K) 1 (He.fAd K ("is_name", none)) ["value"] m_is_name := by
  obtain ⟨fd, F⟩ := D.d_is_name
  exact Ok1.ofM F sc_is_name rfl (fun _ _ _ _ _ _ us hl => match us, hl with | [_], _ => rfl) (fun cdv A outer s H E hr => show PSL _ _ (defBody (top 4)) b_is_name from (l_cons (s_if (PWs.pt (w_or (t_not (t_tru (e_callB (c_isi D.isi) (by rfl) (D.free "isinstance" (by decide +kernel)) (by decide +kernel) (as_cons (e_var (i := 0) (by rfl) (by first | exact Or.inl rfl | exact Or.inr (Or.inl rfl) | exact Or.inr (Or.inr rfl))) (as_cons (e_bltn (n := "str") (by rfl) (D.free "str" (by decide +kernel)) (by decide +kernel)) as_nil))) (fun _ => rfl))) (w_or1 (t_not (t_chain o_le o_le e_int (e_callB c_len (by rfl) (D.free "len" (by decide +kernel)) (by decide +kernel) (as_cons (e_var (i := 0) (by rfl) (by first | exact Or.inl rfl | exact Or.inr (Or.inl rfl) | exact Or.inr (Or.inr rfl))) as_nil)) (e_gint (i := 8) (D.int_ "MOST_SIGNS" 8 (by decide +kernel)) (by rfl)) (by rfl)))))) (l_one (s_ret e_bl)) l_nil) (l_one (s_ret (e_callB (c_all (by rfl)) (by rfl) (D.free "all" (by decide +kernel)) (by decide +kernel) (as_cons (e_lc (own := [("letter", 1)]) (by rfl) sc_is_name.nd (i_any (e_var (i := 0) (by rfl) (by first | exact Or.inl rfl | exact Or.inr (Or.inl rfl) | exact Or.inr (Or.inr rfl)))) (show BlkOk ["value", "letter"] (defScope (top 4)) _ _ from ⟨rfl, by decide +kernel, by decide +kernel, by decide +kernel, by decide +kernel⟩) (by decide) (fun s H C cl fp => (g_nm (i := 1) sc_is_name.nd (by rfl) (by first | exact Or.inl rfl | exact Or.inr rfl) (by first | exact Or.inl rfl | exact Or.inr rfl))) (fun s H C cl fp => cl_nil) (fun s H C cl fp => (e_cmp (o_in (un65 hr)) (e_var (i := 1) (by rfl) (by first | exact Or.inl rfl | exact Or.inr (Or.inl rfl) | exact Or.inr (Or.inr rfl))) (e_gstr (c := [97, 98, 99, 100, 101, 102, 103, 104, 105, 106, 107, 108, 109, 110, 111, 112, 113, 114, 115, 116, 117, 118, 119, 120, 121, 122]) (D.str_ "LETTERS" "abcdefghijklmnopqrstuvwxyz" (by decide +kernel)) (by rfl) (by rfl)) (by rfl)))) as_nil))))))
theorem sc_is_ascending : FnScope ["values", "one", "other"] ["values"] (defScope (top 5)) := ⟨rfl, rfl, rfl, by decide +kernel, rfl, by decide +kernel, by decide +kernel⟩
theorem ok_is_ascending (D : Fx K mg) : Ok1 P w K mg base (Gk K) 1 (He.fAd K ("is_ascending", none)) ["values"] m_is_ascending := by
  obtain ⟨fd, F⟩ := D.d_is_ascending
  exact Ok1.ofM F sc_is_ascending rfl (fun _ _ _ _ _ _ us hl => match us, hl with | [_], _ => rfl) (fun cdv A outer s H E hr => show PSL _ _ (defBody (top 5)) b_is_ascending from (l_one (s_ret (e_callB (c_all (by rfl)) (by rfl) (D.free "all" (by decide +kernel)) (by decide +kernel) (as_cons (e_lc (own := [("one", 1), ("other", 2)]) (by rfl) sc_is_ascending.nd (i_zip (by rfl) (D.free "zip" (by decide +kernel)) (as_cons (e_var (i := 0) (by rfl) (by first | exact Or.inl rfl | exact Or.inr (Or.inl rfl) | exact Or.inr (Or.inr rfl))) (as_cons (e_slL (e_var (i := 0) (by rfl) (by first | exact Or.inl rfl | exact Or.inr (Or.inl rfl) | exact Or.inr (Or.inr rfl))) e_int) as_nil))) (show BlkOk ["values", "one", "other"] (defScope (top 5)) _ _ from ⟨rfl, by decide +kernel, by decide +kernel, by decide +kernel, by decide +kernel⟩) (by decide) (fun s H C cl fp => (g_tp (by rfl) (gn_cons (pg_name (i := 1) sc_is_ascending.nd (by rfl) (by first | exact Or.inl rfl | exact Or.inr rfl) (by first | exact Or.inl rfl | exact Or.inr rfl)) (gn_cons (pg_name (i := 2) sc_is_ascending.nd (by rfl) (by first | exact Or.inl rfl | exact Or.inr rfl) (by first | exact Or.inl rfl | exact Or.inr rfl)) gn_nil)))) (fun s H C cl fp => cl_nil) (fun s H C cl fp => (e_cmp o_lt (e_var (i := 1) (by rfl) (by first | exact Or.inl rfl | exact Or.inr (Or.inl rfl) | exact Or.inr (Or.inr rfl))) (e_var (i := 2) (by rfl) (by first | exact Or.inl rfl | exact Or.inr (Or.inl rfl) | exact Or.inr (Or.inr rfl))) (by rfl)))) as_nil)))))
theorem sc_is_stamp : FnScope ["value"] ["value"] (defScope (top 6)) := ⟨rfl, rfl, rfl, by decide +kernel, rfl, by decide +kernel, by decide +kernel⟩
theorem ok_is_stamp (D : Fx K mg) : Ok1 P w K mg base (Gk K) 2 (He.fAd K ("is_stamp", none)) ["value"] m_is_stamp := by
  obtain ⟨fd, F⟩ := D.d_is_stamp
  exact Ok1.ofM F sc_is_stamp rfl (fun _ _ _ _ _ _ us hl => match us, hl with | [_], _ => rfl) (fun cdv A outer s H E hr => show PSL _ _ (defBody (top 6)) b_is_stamp from (l_cons (s_if (PWs.pt (w_or (t_not (t_tru (e_callB (c_isi D.isi) (by rfl) (D.free "isinstance" (by decide +kernel)) (by decide +kernel) (as_cons (e_var (i := 0) (by rfl) (by first | exact Or.inl rfl | exact Or.inr (Or.inl rfl) | exact Or.inr (Or.inr rfl))) (as_cons (e_bltn (n := "tuple") (by rfl) (D.free "tuple" (by decide +kernel)) (by decide +kernel)) as_nil))) (fun _ => rfl))) (w_or1 (t_cmp (o_neX (un64 hr)) (e_callB c_len (by rfl) (D.free "len" (by decide +kernel)) (by decide +kernel) (as_cons (e_var (i := 0) (by rfl) (by first | exact Or.inl rfl | exact Or.inr (Or.inl rfl) | exact Or.inr (Or.inr rfl))) as_nil)) e_int (by rfl))))) (l_one (s_ret e_bl)) l_nil) (l_one (s_ret (e_and (e_callK (ok_is_integer D) (hr.mono (by decide)) (by rfl) (D.glo "is_integer" (by decide +kernel)) (by rfl) (as_cons (e_ix (un1 hr) (e_var (i := 0) (by rfl) (by first | exact Or.inl rfl | exact Or.inr (Or.inl rfl) | exact Or.inr (Or.inr rfl))) e_int (fun _ _ => rfl)) as_nil)) (e_and (e_cmp o_ge (e_ix (un1 hr) (e_var (i := 0) (by rfl) (by first | exact Or.inl rfl | exact Or.inr (Or.inl rfl) | exact Or.inr (Or.inr rfl))) e_int (fun _ _ => rfl)) e_int (by rfl)) (e_one (e_callK (ok_is_name D) (hr.mono (by decide)) (by rfl) (D.glo "is_name" (by decide +kernel)) (by rfl) (as_cons (e_ix (un1 hr) (e_var (i := 0) (by rfl) (by first | exact Or.inl rfl | exact Or.inr (Or.inl rfl) | exact Or.inr (Or.inr rfl))) e_int (fun _ _ => rfl)) as_nil)))))))))
theorem sc_is_part : FnScope ["value", "pair", "hand", "many"] ["value"] (defScope (top 7)) := ⟨rfl, rfl, rfl, by decide +kernel, rfl, by decide +kernel, by decide +kernel⟩
theorem ok_is_part (D : Fx K mg) : Ok1 P w K mg base (Gk K) 2 (He.fAd K ("is_part", none)) ["value"] m_is_part := by
  obtain ⟨fd, F⟩ := D.d_is_part
  exact Ok1.ofM F sc_is_part rfl (fun _ _ _ _ _ _ us hl => match us, hl with | [_], _ => rfl) (fun cdv A outer s H E hr => show PSL _ _ (defBody (top 7)) b_is_part from (l_cons (s_if (PWs.pt (w_or (t_not (t_tru (e_callB (c_isi D.isi) (by rfl) (D.free "isinstance" (by decide +kernel)) (by decide +kernel) (as_cons (e_var (i := 0) (by rfl) (by first | exact Or.inl rfl | exact Or.inr (Or.inl rfl) | exact Or.inr (Or.inr rfl))) (as_cons (e_bltn (n := "tuple") (by rfl) (D.free "tuple" (by decide +kernel)) (by decide +kernel)) as_nil))) (fun _ => rfl))) (w_or1 (t_not (t_tru (e_callB (c_all (by rfl)) (by rfl) (D.free "all" (by decide +kernel)) (by decide +kernel) (as_cons (e_lc (own := [("pair", 1)]) (by rfl) sc_is_part.nd (i_any (e_var (i := 0) (by rfl) (by first | exact Or.inl rfl | exact Or.inr (Or.inl rfl) | exact Or.inr (Or.inr rfl)))) (show BlkOk ["value", "pair", "hand", "many"] (defScope (top 7)) _ _ from ⟨rfl, by decide +kernel, by decide +kernel, by decide +kernel, by decide +kernel⟩) (by decide) (fun s H C cl fp => (g_nm (i := 1) sc_is_part.nd (by rfl) (by first | exact Or.inl rfl | exact Or.inr rfl) (by first | exact Or.inl rfl | exact Or.inr rfl))) (fun s H C cl fp => cl_nil) (fun s H C cl fp => (e_and (e_callB (c_isi D.isi) (by rfl) (D.free "isinstance" (by decide +kernel)) (by decide +kernel) (as_cons (e_var (i := 1) (by rfl) (by first | exact Or.inl rfl | exact Or.inr (Or.inl rfl) | exact Or.inr (Or.inr rfl))) (as_cons (e_bltn (n := "tuple") (by rfl) (D.free "tuple" (by decide +kernel)) (by decide +kernel)) as_nil))) (e_one (e_cmp (o_eqX (un64 hr)) (e_callB c_len (by rfl) (D.free "len" (by decide +kernel)) (by decide +kernel) (as_cons (e_var (i := 1) (by rfl) (by first | exact Or.inl rfl | exact Or.inr (Or.inl rfl) | exact Or.inr (Or.inr rfl))) as_nil)) e_int (by rfl)))))) as_nil)) (fun _ => rfl)))))) (l_one (s_ret e_bl)) l_nil) (l_cons (s_if (t_not (t_tru (e_callB (c_all (by rfl)) (by rfl) (D.free "all" (by decide +kernel)) (by decide +kernel) (as_cons (e_lc (own := [("hand", 2), ("many", 3)]) (by rfl) sc_is_part.nd (i_any (e_var (i := 0) (by rfl) (by first | exact Or.inl rfl | exact Or.inr (Or.inl rfl) | exact Or.inr (Or.inr rfl)))) (show BlkOk ["value", "pair", "hand", "many"] (defScope (top 7)) _ _ from ⟨rfl, by decide +kernel, by decide +kernel, by decide +kernel, by decide +kernel⟩) (by decide) (fun s H C cl fp => (g_tp (by rfl) (gn_cons (pg_name (i := 2) sc_is_part.nd (by rfl) (by first | exact Or.inl rfl | exact Or.inr rfl) (by first | exact Or.inl rfl | exact Or.inr rfl)) (gn_cons (pg_name (i := 3) sc_is_part.nd (by rfl) (by first | exact Or.inl rfl | exact Or.inr rfl) (by first | exact Or.inl rfl | exact Or.inr rfl)) gn_nil)))) (fun s H C cl fp => cl_nil) (fun s H C cl fp => (e_and (e_callK (ok_is_name D) (hr.mono (by decide)) (by rfl) (D.glo "is_name" (by decide +kernel)) (by rfl) (as_cons (e_var (i := 2) (by rfl) (by first | exact Or.inl rfl | exact Or.inr (Or.inl rfl) | exact Or.inr (Or.inr rfl))) as_nil)) (e_and (e_callK (ok_is_integer D) (hr.mono (by decide)) (by rfl) (D.glo "is_integer" (by decide +kernel)) (by rfl) (as_cons (e_var (i := 3) (by rfl) (by first | exact Or.inl rfl | exact Or.inr (Or.inl rfl) | exact Or.inr (Or.inr rfl))) as_nil)) (e_one (e_cmp o_ge (e_var (i := 3) (by rfl) (by first | exact Or.inl rfl | exact Or.inr (Or.inl rfl) | exact Or.inr (Or.inr rfl))) e_int (by rfl))))))) as_nil)) (fun _ => rfl))) (l_one (s_ret e_bl)) l_nil) (l_one (s_ret (e_callK (ok_is_ascending D) (hr.mono (by decide)) (by rfl) (D.glo "is_ascending" (by decide +kernel)) (by rfl) (as_cons (e_lc (own := [("hand", 2), ("many", 3)]) (by rfl) sc_is_part.nd (i_any (e_var (i := 0) (by rfl) (by first | exact Or.inl rfl | exact Or.inr (Or.inl rfl) | exact Or.inr (Or.inr rfl)))) (show BlkOk ["value", "pair", "hand", "many"] (defScope (top 7)) _ _ from ⟨rfl, by decide +kernel, by decide +kernel, by decide +kernel, by decide +kernel⟩) (by decide) (fun s H C cl fp => (g_tp (by rfl) (gn_cons (pg_name (i := 2) sc_is_part.nd (by rfl) (by first | exact Or.inl rfl | exact Or.inr rfl) (by first | exact Or.inl rfl | exact Or.inr rfl)) (gn_cons (pg_name (i := 3) sc_is_part.nd (by rfl) (by first | exact Or.inl rfl | exact Or.inr rfl) (by first | exact Or.inl rfl | exact Or.inr rfl)) gn_nil)))) (fun s H C cl fp => cl_nil) (fun s H C cl fp => (e_var (i := 2) (by rfl) (by first | exact Or.inl rfl | exact Or.inr (Or.inl rfl) | exact Or.inr (Or.inr rfl))))) as_nil)))))))
theorem sc_fixed : FnScope ["value", "part", "key"] ["value"] (defScope (top 8)) := ⟨rfl, rfl, rfl, by decide +kernel, rfl, by decide +kernel, by decide +kernel⟩
theorem okF_fixed (D : Fx K mg) : ∀ n : Nat, Ok1 P w K mg base (Gk K) (n + 1) (He.fAd K ("fixed", none)) ["value"] (m_fixedF n)
  | 0 => by
    obtain ⟨fd, F⟩ := D.d_fixed
    exact Ok1.ofM F sc_fixed rfl (fun _ _ _ _ _ _ us hl => match us, hl with | [_], _ => rfl) (fun cdv A outer s H E hr => l_bad)
  | n + 1 => by
    obtain ⟨fd, F⟩ := D.d_fixed
    have O := okF_fixed D n
    exact Ok1.ofM F sc_fixed rfl (fun _ _ _ _ _ _ us hl => match us, hl with | [_], _ => rfl) (fun cdv A outer s H E hr => show PSL _ _ (defBody (top 8)) (b_fixed _) from (l_cons (s_if (t_tru (e_callB (c_isi D.isi) (by rfl) (D.free "isinstance" (by decide +kernel)) (by decide +kernel) (as_cons (e_var (i := 0) (by rfl) (by first | exact Or.inl rfl | exact Or.inr (Or.inl rfl) | exact Or.inr (Or.inr rfl))) (as_cons (e_tup (as_cons (e_bltn (n := "list") (by rfl) (D.free "list" (by decide +kernel)) (by decide +kernel)) (as_cons (e_bltn (n := "tuple") (by rfl) (D.free "tuple" (by decide +kernel)) (by decide +kernel)) as_nil))) as_nil))) (fun _ => rfl)) (l_one (s_ret (e_callTy c_tup (by rfl) (D.free "tuple" (by decide +kernel)) (by decide +kernel) (as_cons (e_lc (own := [("part", 1)]) (by rfl) sc_fixed.nd (i_any (e_var (i := 0) (by rfl) (by first | exact Or.inl rfl | exact Or.inr (Or.inl rfl) | exact Or.inr (Or.inr rfl)))) (show BlkOk ["value", "part", "key"] (defScope (top 8)) _ _ from ⟨rfl, by decide +kernel, by decide +kernel, by decide +kernel, by decide +kernel⟩) (by decide) (fun s H C cl fp => (g_nm (i := 1) sc_fixed.nd (by rfl) (by first | exact Or.inl rfl | exact Or.inr rfl) (by first | exact Or.inl rfl | exact Or.inr rfl))) (fun s H C cl fp => cl_nil) (fun s H C cl fp => (e_callK O (hr.mono (by omega)) (by rfl) (D.glo "fixed" (by decide +kernel)) (by rfl) (as_cons (e_var (i := 1) (by rfl) (by first | exact Or.inl rfl | exact Or.inr (Or.inl rfl) | exact Or.inr (Or.inr rfl))) as_nil)))) as_nil)))) l_nil) (l_cons (s_if (t_tru (e_callB (c_isi D.isi) (by rfl) (D.free "isinstance" (by decide +kernel)) (by decide +kernel) (as_cons (e_var (i := 0) (by rfl) (by first | exact Or.inl rfl | exact Or.inr (Or.inl rfl) | exact Or.inr (Or.inr rfl))) (as_cons (e_bltn (n := "dict") (by rfl) (D.free "dict" (by decide +kernel)) (by decide +kernel)) as_nil))) (fun _ => rfl)) (l_one (s_ret (e_fz (e_lk (i := 0) (e_dcT (own := [("key", 2)]) (by rfl) sc_fixed.nd (i_any (e_var (i := 0) (by rfl) (by first | exact Or.inl rfl | exact Or.inr (Or.inl rfl) | exact Or.inr (Or.inr rfl)))) (show BlkOk ["value", "part", "key"] (defScope (top 8)) _ _ from ⟨rfl, by decide +kernel, by decide +kernel, by decide +kernel, by decide +kernel⟩) (by decide) (fun s H C cl fp => (g_nm (i := 2) sc_fixed.nd (by rfl) (by first | exact Or.inl rfl | exact Or.inr rfl) (by first | exact Or.inl rfl | exact Or.inr rfl))) (fun s H C cl fp => cl_nil) (fun s H C cl fp => (e_var (i := 2) (by rfl) (by first | exact Or.inl rfl | exact Or.inr (Or.inl rfl) | exact Or.inr (Or.inr rfl)))) (fun s H C cl fp => (e_callK O (hr.mono (by omega)) (by rfl) (D.glo "fixed" (by decide +kernel)) (by rfl) (as_cons (e_ix (un1 hr) (e_var (i := 0) (by rfl) (by first | exact Or.inl rfl | exact Or.inr (Or.inl rfl) | exact Or.inr (Or.inr rfl))) (e_var (i := 2) (by rfl) (by first | exact Or.inl rfl | exact Or.inr (Or.inl rfl) | exact Or.inr (Or.inr rfl))) (fun _ _ => rfl)) as_nil)))))))) l_nil) (l_one (s_ret (e_var (i := 0) (by rfl) (by first | exact Or.inl rfl | exact Or.inr (Or.inl rfl) | exact Or.inr (Or.inr rfl))))))))
theorem ok_fixed (D : Fx K mg) : Ok1 P w K mg base (Gk K) 8 (He.fAd K ("fixed", none)) ["value"] (m_fixedF 7) := okF_fixed D 7
theorem sc_Paper_init : FnScope ["self", "word", "parts"] ["self", "word", "parts"] (defScope (mth 10 0)) := ⟨rfl, rfl, rfl, by decide +kernel, rfl, by decide +kernel, by decide +kernel⟩
theorem okR_Paper_init (D : Fx K mg) : FnSR P w K mg base (Gk K) 9 (He.fAd K ("Paper", some "__init__")) (starM 2 m_Paper_init) := by
  obtain ⟨fd, F⟩ := D.d_Paper_init
  exact fn_starS (ps := ["self", "word"]) (pv := "parts") F sc_Paper_init (fun vs h _ _ _ _ _ p => post_trunc p) (fun kV doc pm an cdv ct => StX.bind_star2 (B := fun us => bindArgs (PySem.W.fnOf "__init__" "Paper.__init__" (defArgs (mth 10 0)) (defBody (mth 10 0)) (defScope (mth 10 0)) .none kV doc pm an cdv ct) ⟨us, []⟩) (fun _ _ => rfl) (fun _ _ _ _ => rfl)) (fun cdv A outer s H E hr => show PSL _ _ (defBody (mth 10 0)) b_Paper_init from (l_cons (s_fld (fc := [119, 111, 114, 100]) (e_var (i := 0) (by rfl) (by first | exact Or.inl rfl | exact Or.inr (Or.inl rfl) | exact Or.inr (Or.inr rfl))) (e_var (i := 1) (by rfl) (by first | exact Or.inl rfl | exact Or.inr (Or.inl rfl) | exact Or.inr (Or.inr rfl))) (by rfl) (D.fld "word" (by decide +kernel)) (by rfl)) (l_one (s_fld (fc := [112, 97, 114, 116, 115]) (e_var (i := 0) (by rfl) (by first | exact Or.inl rfl | exact Or.inr (Or.inl rfl) | exact Or.inr (Or.inr rfl))) (e_callK (ok_fixed D) (hr.mono (by decide)) (by rfl) (D.glo "fixed" (by decide +kernel)) (by rfl) (as_cons (e_var (i := 2) (by rfl) (by first | exact Or.inl rfl | exact Or.inr (Or.inl rfl) | exact Or.inr (Or.inr rfl))) as_nil)) (by rfl) (D.fld "parts" (by decide +kernel)) (by rfl)))))
theorem sc_Paper_bool : FnScope ["self"] ["self"] (defScope (mth 10 1)) := ⟨rfl, rfl, rfl, by decide +kernel, rfl, by decide +kernel, by decide +kernel⟩
theorem ok_Paper_bool (D : Fx K mg) : Ok1 P w K mg base (Gk K) 1 (He.fAd K ("Paper", some "__bool__")) ["self"] m_Paper_bool := by
  obtain ⟨fd, F⟩ := D.d_Paper_bool
  exact Ok1.ofM F sc_Paper_bool rfl (fun _ _ _ _ _ _ us hl => match us, hl with | [_], _ => rfl) (fun cdv A outer s H E hr => show PSL _ _ (defBody (mth 10 1)) b_Paper_bool from (l_one (s_ret e_bl)))
theorem sc_Paper_eq : FnScope ["self", "other"] ["self", "other"] (defScope (mth 10 2)) := ⟨rfl, rfl, rfl, by decide +kernel, rfl, by decide +kernel, by decide +kernel⟩
theorem ok_Paper_eq (D : Fx K mg) : Ok1 P w K mg base (Gk K) 1 (He.fAd K ("Paper", some "__eq__")) ["self", "other"] m_Paper_eq := by
  obtain ⟨fd, F⟩ := D.d_Paper_eq
  exact Ok1.ofM F sc_Paper_eq rfl (fun _ _ _ _ _ _ us hl => match us, hl with | [_, _], _ => rfl) (fun cdv A outer s H E hr => show PSL _ _ (defBody (mth 10 2)) b_Paper_eq from (l_cons (s_if (PWs.pt (w_or (t_not (t_tru (e_callB (c_isi D.isi) (by rfl) (D.free "isinstance" (by decide +kernel)) (by decide +kernel) (as_cons (e_var (i := 1) (by rfl) (by first | exact Or.inl rfl | exact Or.inr (Or.inl rfl) | exact Or.inr (Or.inr rfl))) (as_cons (e_gcls (C := 0) (D.glo "Paper" (by decide +kernel)) (by rfl)) as_nil))) (fun _ => rfl))) (w_or1 (t_cmp (o_neX (un64 hr)) (e_cn (e_var (i := 0) (by rfl) (by first | exact Or.inl rfl | exact Or.inr (Or.inl rfl) | exact Or.inr (Or.inr rfl))) D.cn (by rfl) (by rfl)) (e_cn (e_var (i := 1) (by rfl) (by first | exact Or.inl rfl | exact Or.inr (Or.inl rfl) | exact Or.inr (Or.inr rfl))) D.cn (by rfl) (by rfl)) (by rfl))))) (l_one (s_ret e_bl)) l_nil) (l_one (s_ret (e_callTy c_boolI (by rfl) (D.free "bool" (by decide +kernel)) (by decide +kernel) (as_cons (e_and (e_cmp (o_eqX (un64 hr)) (e_fld (fc := [119, 111, 114, 100]) (e_var (i := 0) (by rfl) (by first | exact Or.inl rfl | exact Or.inr (Or.inl rfl) | exact Or.inr (Or.inr rfl))) (by rfl) (D.fld "word" (by decide +kernel)) (by rfl)) (e_fld (fc := [119, 111, 114, 100]) (e_var (i := 1) (by rfl) (by first | exact Or.inl rfl | exact Or.inr (Or.inl rfl) | exact Or.inr (Or.inr rfl))) (by rfl) (D.fld "word" (by decide +kernel)) (by rfl)) (by rfl)) (e_one (e_cmp (o_eqX (un64 hr)) (e_fld (fc := [112, 97, 114, 116, 115]) (e_var (i := 0) (by rfl) (by first | exact Or.inl rfl | exact Or.inr (Or.inl rfl) | exact Or.inr (Or.inr rfl))) (by rfl) (D.fld "parts" (by decide +kernel)) (by rfl)) (e_fld (fc := [112, 97, 114, 116, 115]) (e_var (i := 1) (by rfl) (by first | exact Or.inl rfl | exact Or.inr (Or.inl rfl) | exact Or.inr (Or.inr rfl))) (by rfl) (D.fld "parts" (by decide +kernel)) (by rfl)) (by rfl)))) as_nil))))))
theorem sc_Denial_bool : FnScope ["self"] ["self"] (defScope (mth 11 0)) := ⟨rfl, rfl, rfl, by decide +kernel, rfl, by decide +kernel, by decide +kernel⟩
theorem ok_Denial_bool (D : Fx K mg) : Ok1 P w K mg base (Gk K) 1 (He.fAd K ("Denial", some "__bool__")) ["self"] m_Denial_bool := by
  obtain ⟨fd, F⟩ := D.d_Denial_bool
  exact Ok1.ofM F sc_Denial_bool rfl (fun _ _ _ _ _ _ us hl => match us, hl with | [_], _ => rfl) (fun cdv A outer s H E hr => show PSL _ _ (defBody (mth 11 0)) b_Denial_bool from (l_one (s_ret e_bl)))
theorem sc_BadName_init : FnScope ["self", "value"] ["self", "value"] (defScope (mth 14 0)) := ⟨rfl, rfl, rfl, by decide +kernel, rfl, by decide +kernel, by decide +kernel⟩
theorem okx_BadName (D : Fx K mg) : OkX P w K mg base (Gk K 3) (He.fAd K ("BadName", some "__init__")) [toS [118, 97, 108, 117, 101]] := by
  have T := D.xc 3 (by decide +kernel)
  obtain ⟨fd, F⟩ := D.d_BadName_init
  exact ⟨T, fd, ["self", "value"], fnX1 F sc_BadName_init (by rfl) (by rfl) T.o (D.xn (3, "value") (by decide +kernel)) (fun _ _ _ _ _ _ => pv 0) (fun _ _ _ _ _ _ => pv 1) (fun _ => rfl), F.bindsN (fun _ _ _ _ _ _ us hl => match us, hl with | [_, _], _ => rfl)⟩
theorem sc_BadNumber_init : FnScope ["self", "part"] ["self", "part"] (defScope (mth 15 0)) := ⟨rfl, rfl, rfl, by decide +kernel, rfl, by decide +kernel, by decide +kernel⟩
theorem okx_BadNumber (D : Fx K mg) : OkX P w K mg base (Gk K 4) (He.fAd K ("BadNumber", some "__init__")) [toS [112, 97, 114, 116]] := by
  have T := D.xc 4 (by decide +kernel)
  obtain ⟨fd, F⟩ := D.d_BadNumber_init
  exact ⟨T, fd, ["self", "part"], fnX1 F sc_BadNumber_init (by rfl) (by rfl) T.o (D.xn (4, "part") (by decide +kernel)) (fun _ _ _ _ _ _ => pv 0) (fun _ _ _ _ _ _ => pv 1) (fun _ => rfl), F.bindsN (fun _ _ _ _ _ _ us hl => match us, hl with | [_, _], _ => rfl)⟩
theorem sc_BadValue_init : FnScope ["self", "part"] ["self", "part"] (defScope (mth 16 0)) := ⟨rfl, rfl, rfl, by decide +kernel, rfl, by decide +kernel, by decide +kernel⟩
theorem okx_BadValue (D : Fx K mg) : OkX P w K mg base (Gk K 5) (He.fAd K ("BadValue", some "__init__")) [toS [112, 97, 114, 116]] := by
  have T := D.xc 5 (by decide +kernel)
  obtain ⟨fd, F⟩ := D.d_BadValue_init
  exact ⟨T, fd, ["self", "part"], fnX1 F sc_BadValue_init (by rfl) (by rfl) T.o (D.xn (5, "part") (by decide +kernel)) (fun _ _ _ _ _ _ => pv 0) (fun _ _ _ _ _ _ => pv 1) (fun _ => rfl), F.bindsN (fun _ _ _ _ _ _ us hl => match us, hl with | [_, _], _ => rfl)⟩
theorem sc_BadKind_init : FnScope ["self", "part"] ["self", "part"] (defScope (mth 17 0)) := ⟨rfl, rfl, rfl, by decide +kernel, rfl, by decide +kernel, by decide +kernel⟩
theorem okx_BadKind (D : Fx K mg) : OkX P w K mg base (Gk K 6) (He.fAd K ("BadKind", some "__init__")) [toS [112, 97, 114, 116]] := by
  have T := D.xc 6 (by decide +kernel)
  obtain ⟨fd, F⟩ := D.d_BadKind_init
  exact ⟨T, fd, ["self", "part"], fnX1 F sc_BadKind_init (by rfl) (by rfl) T.o (D.xn (6, "part") (by decide +kernel)) (fun _ _ _ _ _ _ => pv 0) (fun _ _ _ _ _ _ => pv 1) (fun _ => rfl), F.bindsN (fun _ _ _ _ _ _ us hl => match us, hl with | [_, _], _ => rfl)⟩
theorem sc_BadBook_init : FnScope ["self", "part"] ["self", "part"] (defScope (mth 18 0)) := ⟨rfl, rfl, rfl, by decide +kernel, rfl, by decide +kernel, by decide +kernel⟩
theorem okx_BadBook (D : Fx K mg) : OkX P w K mg base (Gk K 7) (He.fAd K ("BadBook", some "__init__")) [toS [112, 97, 114, 116]] := by
  have T := D.xc 7 (by decide +kernel)
  obtain ⟨fd, F⟩ := D.d_BadBook_init
  exact ⟨T, fd, ["self", "part"], fnX1 F sc_BadBook_init (by rfl) (by rfl) T.o (D.xn (7, "part") (by decide +kernel)) (fun _ _ _ _ _ _ => pv 0) (fun _ _ _ _ _ _ => pv 1) (fun _ => rfl), F.bindsN (fun _ _ _ _ _ _ us hl => match us, hl with | [_, _], _ => rfl)⟩
theorem sc_BadStamp_init : FnScope ["self", "value"] ["self", "value"] (defScope (mth 19 0)) := ⟨rfl, rfl, rfl, by decide +kernel, rfl, by decide +kernel, by decide +kernel⟩
theorem okx_BadStamp (D : Fx K mg) : OkX P w K mg base (Gk K 8) (He.fAd K ("BadStamp", some "__init__")) [toS [118, 97, 108, 117, 101]] := by
  have T := D.xc 8 (by decide +kernel)
  obtain ⟨fd, F⟩ := D.d_BadStamp_init
  exact ⟨T, fd, ["self", "value"], fnX1 F sc_BadStamp_init (by rfl) (by rfl) T.o (D.xn (8, "value") (by decide +kernel)) (fun _ _ _ _ _ _ => pv 0) (fun _ _ _ _ _ _ => pv 1) (fun _ => rfl), F.bindsN (fun _ _ _ _ _ _ us hl => match us, hl with | [_, _], _ => rfl)⟩
theorem sc_BadEntry_init : FnScope ["self", "part"] ["self", "part"] (defScope (mth 20 0)) := ⟨rfl, rfl, rfl, by decide +kernel, rfl, by decide +kernel, by decide +kernel⟩
theorem okx_BadEntry (D : Fx K mg) : OkX P w K mg base (Gk K 9) (He.fAd K ("BadEntry", some "__init__")) [toS [112, 97, 114, 116]] := by
  have T := D.xc 9 (by decide +kernel)
  obtain ⟨fd, F⟩ := D.d_BadEntry_init
  exact ⟨T, fd, ["self", "part"], fnX1 F sc_BadEntry_init (by rfl) (by rfl) T.o (D.xn (9, "part") (by decide +kernel)) (fun _ _ _ _ _ _ => pv 0) (fun _ _ _ _ _ _ => pv 1) (fun _ => rfl), F.bindsN (fun _ _ _ _ _ _ us hl => match us, hl with | [_, _], _ => rfl)⟩
theorem sc_BadLog_init : FnScope ["self", "stamp"] ["self", "stamp"] (defScope (mth 21 0)) := ⟨rfl, rfl, rfl, by decide +kernel, rfl, by decide +kernel, by decide +kernel⟩
theorem okx_BadLog (D : Fx K mg) : OkX P w K mg base (Gk K 10) (He.fAd K ("BadLog", some "__init__")) [toS [115, 116, 97, 109, 112]] := by
  have T := D.xc 10 (by decide +kernel)
  obtain ⟨fd, F⟩ := D.d_BadLog_init
  exact ⟨T, fd, ["self", "stamp"], fnX1 F sc_BadLog_init (by rfl) (by rfl) T.o (D.xn (10, "stamp") (by decide +kernel)) (fun _ _ _ _ _ _ => pv 0) (fun _ _ _ _ _ _ => pv 1) (fun _ => rfl), F.bindsN (fun _ _ _ _ _ _ us hl => match us, hl with | [_, _], _ => rfl)⟩
theorem sc_BadPart_init : FnScope ["self", "value"] ["self", "value"] (defScope (mth 22 0)) := ⟨rfl, rfl, rfl, by decide +kernel, rfl, by decide +kernel, by decide +kernel⟩
theorem okx_BadPart (D : Fx K mg) : OkX P w K mg base (Gk K 11) (He.fAd K ("BadPart", some "__init__")) [toS [118, 97, 108, 117, 101]] := by
  have T := D.xc 11 (by decide +kernel)
  obtain ⟨fd, F⟩ := D.d_BadPart_init
  exact ⟨T, fd, ["self", "value"], fnX1 F sc_BadPart_init (by rfl) (by rfl) T.o (D.xn (11, "value") (by decide +kernel)) (fun _ _ _ _ _ _ => pv 0) (fun _ _ _ _ _ _ => pv 1) (fun _ => rfl), F.bindsN (fun _ _ _ _ _ _ us hl => match us, hl with | [_, _], _ => rfl)⟩
theorem sc_BadText_init : FnScope ["self", "line", "word"] ["self", "line", "word"] (defScope (mth 23 0)) := ⟨rfl, rfl, rfl, by decide +kernel, rfl, by decide +kernel, by decide +kernel⟩
theorem okx_BadText (D : Fx K mg) : OkX P w K mg base (Gk K 12) (He.fAd K ("BadText", some "__init__")) [toS [108, 105, 110, 101], toS [119, 111, 114, 100]] := by
  have T := D.xc 12 (by decide +kernel)
  obtain ⟨fd, F⟩ := D.d_BadText_init
  exact ⟨T, fd, ["self", "line", "word"], fnX2 F sc_BadText_init (by rfl) (by rfl) T.o (D.xn (12, "line") (by decide +kernel)) (D.xn (12, "word") (by decide +kernel)) (fun _ _ _ _ _ _ => pv 0) (fun _ _ _ _ _ _ => pv 1) (fun _ _ _ _ _ _ => pv 0) (fun _ _ _ _ _ _ => pv 2) (fun _ => rfl) (fun _ => rfl), F.bindsN (fun _ _ _ _ _ _ us hl => match us, hl with | [_, _, _], _ => rfl)⟩
theorem sc_NoKind_init : FnScope ["self", "name"] ["self", "name"] (defScope (mth 24 0)) := ⟨rfl, rfl, rfl, by decide +kernel, rfl, by decide +kernel, by decide +kernel⟩
theorem okx_NoKind (D : Fx K mg) : OkX P w K mg base (Gk K 13) (He.fAd K ("NoKind", some "__init__")) [toS [110, 97, 109, 101]] := by
  have T := D.xc 13 (by decide +kernel)
  obtain ⟨fd, F⟩ := D.d_NoKind_init
  exact ⟨T, fd, ["self", "name"], fnX1 F sc_NoKind_init (by rfl) (by rfl) T.o (D.xn (13, "name") (by decide +kernel)) (fun _ _ _ _ _ _ => pv 0) (fun _ _ _ _ _ _ => pv 1) (fun _ => rfl), F.bindsN (fun _ _ _ _ _ _ us hl => match us, hl with | [_, _], _ => rfl)⟩
theorem sc_NoHand_init : FnScope ["self", "hand"] ["self", "hand"] (defScope (mth 25 0)) := ⟨rfl, rfl, rfl, by decide +kernel, rfl, by decide +kernel, by decide +kernel⟩
theorem okx_NoHand (D : Fx K mg) : OkX P w K mg base (Gk K 14) (He.fAd K ("NoHand", some "__init__")) [toS [104, 97, 110, 100]] := by
  have T := D.xc 14 (by decide +kernel)
  obtain ⟨fd, F⟩ := D.d_NoHand_init
  exact ⟨T, fd, ["self", "hand"], fnX1 F sc_NoHand_init (by rfl) (by rfl) T.o (D.xn (14, "hand") (by decide +kernel)) (fun _ _ _ _ _ _ => pv 0) (fun _ _ _ _ _ _ => pv 1) (fun _ => rfl), F.bindsN (fun _ _ _ _ _ _ us hl => match us, hl with | [_, _], _ => rfl)⟩
theorem sc_NoShape_init : FnScope ["self", "stamp"] ["self", "stamp"] (defScope (mth 26 0)) := ⟨rfl, rfl, rfl, by decide +kernel, rfl, by decide +kernel, by decide +kernel⟩
theorem okx_NoShape (D : Fx K mg) : OkX P w K mg base (Gk K 15) (He.fAd K ("NoShape", some "__init__")) [toS [115, 116, 97, 109, 112]] := by
  have T := D.xc 15 (by decide +kernel)
  obtain ⟨fd, F⟩ := D.d_NoShape_init
  exact ⟨T, fd, ["self", "stamp"], fnX1 F sc_NoShape_init (by rfl) (by rfl) T.o (D.xn (15, "stamp") (by decide +kernel)) (fun _ _ _ _ _ _ => pv 0) (fun _ _ _ _ _ _ => pv 1) (fun _ => rfl), F.bindsN (fun _ _ _ _ _ _ us hl => match us, hl with | [_, _], _ => rfl)⟩
theorem sc_NoEntry_init : FnScope ["self", "stamp"] ["self", "stamp"] (defScope (mth 27 0)) := ⟨rfl, rfl, rfl, by decide +kernel, rfl, by decide +kernel, by decide +kernel⟩
theorem okx_NoEntry (D : Fx K mg) : OkX P w K mg base (Gk K 16) (He.fAd K ("NoEntry", some "__init__")) [toS [115, 116, 97, 109, 112]] := by
  have T := D.xc 16 (by decide +kernel)
  obtain ⟨fd, F⟩ := D.d_NoEntry_init
  exact ⟨T, fd, ["self", "stamp"], fnX1 F sc_NoEntry_init (by rfl) (by rfl) T.o (D.xn (16, "stamp") (by decide +kernel)) (fun _ _ _ _ _ _ => pv 0) (fun _ _ _ _ _ _ => pv 1) (fun _ => rfl), F.bindsN (fun _ _ _ _ _ _ us hl => match us, hl with | [_, _], _ => rfl)⟩
theorem sc_NoCall_init : FnScope ["self", "stamp"] ["self", "stamp"] (defScope (mth 28 0)) := ⟨rfl, rfl, rfl, by decide +kernel, rfl, by decide +kernel, by decide +kernel⟩
theorem okx_NoCall (D : Fx K mg) : OkX P w K mg base (Gk K 17) (He.fAd K ("NoCall", some "__init__")) [toS [115, 116, 97, 109, 112]] := by
  have T := D.xc 17 (by decide +kernel)
  obtain ⟨fd, F⟩ := D.d_NoCall_init
  exact ⟨T, fd, ["self", "stamp"], fnX1 F sc_NoCall_init (by rfl) (by rfl) T.o (D.xn (17, "stamp") (by decide +kernel)) (fun _ _ _ _ _ _ => pv 0) (fun _ _ _ _ _ _ => pv 1) (fun _ => rfl), F.bindsN (fun _ _ _ _ _ _ us hl => match us, hl with | [_, _], _ => rfl)⟩
theorem sc_Gap_init : FnScope ["self", "hand", "many"] ["self", "hand", "many"] (defScope (mth 29 0)) := ⟨rfl, rfl, rfl, by decide +kernel, rfl, by decide +kernel, by decide +kernel⟩
theorem okx_Gap (D : Fx K mg) : OkX P w K mg base (Gk K 18) (He.fAd K ("Gap", some "__init__")) [toS [104, 97, 110, 100], toS [109, 97, 110, 121]] := by
  have T := D.xc 18 (by decide +kernel)
  obtain ⟨fd, F⟩ := D.d_Gap_init
  exact ⟨T, fd, ["self", "hand", "many"], fnX2 F sc_Gap_init (by rfl) (by rfl) T.o (D.xn (18, "hand") (by decide +kernel)) (D.xn (18, "many") (by decide +kernel)) (fun _ _ _ _ _ _ => pv 0) (fun _ _ _ _ _ _ => pv 1) (fun _ _ _ _ _ _ => pv 0) (fun _ _ _ _ _ _ => pv 2) (fun _ => rfl) (fun _ => rfl), F.bindsN (fun _ _ _ _ _ _ us hl => match us, hl with | [_, _, _], _ => rfl)⟩
theorem sc_Clashing_init : FnScope ["self", "stamp"] ["self", "stamp"] (defScope (mth 30 0)) := ⟨rfl, rfl, rfl, by decide +kernel, rfl, by decide +kernel, by decide +kernel⟩
theorem okx_Clashing (D : Fx K mg) : OkX P w K mg base (Gk K 19) (He.fAd K ("Clashing", some "__init__")) [toS [115, 116, 97, 109, 112]] := by
  have T := D.xc 19 (by decide +kernel)
  obtain ⟨fd, F⟩ := D.d_Clashing_init
  exact ⟨T, fd, ["self", "stamp"], fnX1 F sc_Clashing_init (by rfl) (by rfl) T.o (D.xn (19, "stamp") (by decide +kernel)) (fun _ _ _ _ _ _ => pv 0) (fun _ _ _ _ _ _ => pv 1) (fun _ => rfl), F.bindsN (fun _ _ _ _ _ _ us hl => match us, hl with | [_, _], _ => rfl)⟩
theorem sc_Misfit_init : FnScope ["self", "part"] ["self", "part"] (defScope (mth 31 0)) := ⟨rfl, rfl, rfl, by decide +kernel, rfl, by decide +kernel, by decide +kernel⟩
theorem okx_Misfit (D : Fx K mg) : OkX P w K mg base (Gk K 20) (He.fAd K ("Misfit", some "__init__")) [toS [112, 97, 114, 116]] := by
  have T := D.xc 20 (by decide +kernel)
  obtain ⟨fd, F⟩ := D.d_Misfit_init
  exact ⟨T, fd, ["self", "part"], fnX1 F sc_Misfit_init (by rfl) (by rfl) T.o (D.xn (20, "part") (by decide +kernel)) (fun _ _ _ _ _ _ => pv 0) (fun _ _ _ _ _ _ => pv 1) (fun _ => rfl), F.bindsN (fun _ _ _ _ _ _ us hl => match us, hl with | [_, _], _ => rfl)⟩
theorem sc_TooMany_init : FnScope ["self", "what", "most"] ["self", "what", "most"] (defScope (mth 32 0)) := ⟨rfl, rfl, rfl, by decide +kernel, rfl, by decide +kernel, by decide +kernel⟩
theorem okx_TooMany (D : Fx K mg) : OkX P w K mg base (Gk K 21) (He.fAd K ("TooMany", some "__init__")) [toS [119, 104, 97, 116], toS [109, 111, 115, 116]] := by
  have T := D.xc 21 (by decide +kernel)
  obtain ⟨fd, F⟩ := D.d_TooMany_init
  exact ⟨T, fd, ["self", "what", "most"], fnX2 F sc_TooMany_init (by rfl) (by rfl) T.o (D.xn (21, "what") (by decide +kernel)) (D.xn (21, "most") (by decide +kernel)) (fun _ _ _ _ _ _ => pv 0) (fun _ _ _ _ _ _ => pv 1) (fun _ _ _ _ _ _ => pv 0) (fun _ _ _ _ _ _ => pv 2) (fun _ => rfl) (fun _ => rfl), F.bindsN (fun _ _ _ _ _ _ us hl => match us, hl with | [_, _, _], _ => rfl)⟩
theorem sc__law_pen : FnScope ["script"] ["script"] (defScope (top 34)) := ⟨rfl, rfl, rfl, by decide +kernel, rfl, by decide +kernel, by decide +kernel⟩
theorem ok__law_pen (D : Fx K mg) : Ok1 P w K mg base (Gk K) 1 (He.fAd K ("_law_pen", none)) ["script"] m__law_pen := by
  obtain ⟨fd, F⟩ := D.d__law_pen
  exact Ok1.ofK F sc__law_pen rfl (fun _ _ _ _ _ _ us hl => match us, hl with | [_], _ => rfl) (fun cdv A outer s H E hr => show PSL _ _ (defBody (top 34)) b__law_pen from (l_one (s_ret (e_lstT (as_cons (e_callTy c_lst (by rfl) (D.free "list" (by decide +kernel)) (by decide +kernel) (as_cons (e_slH (e_var (i := 0) (by rfl) (by first | exact Or.inl rfl | exact Or.inr (Or.inl rfl) | exact Or.inr (Or.inr rfl))) e_int) as_nil)) (as_cons e_int (as_cons e_int as_nil)))))))
theorem sc__law_draw : FnScope ["pen", "many", "digit", "lap", "cell", "great", "mixed"] ["pen", "many"] (defScope (top 35)) := ⟨rfl, rfl, rfl, by decide +kernel, rfl, by decide +kernel, by decide +kernel⟩
theorem ok__law_draw (D : Fx K mg) : Ok1 P w K mg base (Gk K) 1 (He.fAd K ("_law_draw", none)) ["pen", "many"] m__law_draw := by
  obtain ⟨fd, F⟩ := D.d__law_draw
  exact Ok1.ofM F sc__law_draw rfl (fun _ _ _ _ _ _ us hl => match us, hl with | [_, _], _ => rfl) (fun cdv A outer s H E hr => show PSL _ _ (defBody (top 35)) b__law_draw from (l_cons (s_if (t_cmp o_gt (e_ix (un1 hr) (e_var (i := 0) (by rfl) (by first | exact Or.inl rfl | exact Or.inr (Or.inl rfl) | exact Or.inr (Or.inr rfl))) e_int (fun _ _ => rfl)) e_int (by rfl)) (l_cons (s_set (i := 2) sc__law_draw.nd (by rfl) (by first | exact Or.inl rfl | exact Or.inr rfl) (e_op o_mod (e_callTy c_int (by rfl) (D.free "int" (by decide +kernel)) (by decide +kernel) (as_cons (e_ix (un1 hr) (e_var (i := 0) (by rfl) (by first | exact Or.inl rfl | exact Or.inr (Or.inl rfl) | exact Or.inr (Or.inr rfl))) e_int (fun _ _ => rfl)) as_nil)) (e_var (i := 1) (by rfl) (by first | exact Or.inl rfl | exact Or.inr (Or.inl rfl) | exact Or.inr (Or.inr rfl)))) (by rfl) (by first | exact Or.inl rfl | exact Or.inr rfl)) (l_cons (s_subL (e_var (i := 0) (by rfl) (by first | exact Or.inl rfl | exact Or.inr (Or.inl rfl) | exact Or.inr (Or.inr rfl))) e_int (e_op o_fdiv (e_callTy c_int (by rfl) (D.free "int" (by decide +kernel)) (by decide +kernel) (as_cons (e_ix (un1 hr) (e_var (i := 0) (by rfl) (by first | exact Or.inl rfl | exact Or.inr (Or.inl rfl) | exact Or.inr (Or.inr rfl))) e_int (fun _ _ => rfl)) as_nil)) (e_var (i := 1) (by rfl) (by first | exact Or.inl rfl | exact Or.inr (Or.inl rfl) | exact Or.inr (Or.inr rfl)))) (un1 hr) (by rfl)) (l_one (s_ret (e_var (i := 2) (by rfl) (by first | exact Or.inl rfl | exact Or.inr (Or.inl rfl) | exact Or.inr (Or.inr rfl))))))) l_nil) (l_cons (s_set (i := 3) sc__law_draw.nd (by rfl) (by first | exact Or.inl rfl | exact Or.inr rfl) (e_ix (un1 hr) (e_var (i := 0) (by rfl) (by first | exact Or.inl rfl | exact Or.inr (Or.inl rfl) | exact Or.inr (Or.inr rfl))) e_int (fun _ _ => rfl)) (by rfl) (by first | exact Or.inl rfl | exact Or.inr rfl)) (l_cons (s_subL (e_var (i := 0) (by rfl) (by first | exact Or.inl rfl | exact Or.inr (Or.inl rfl) | exact Or.inr (Or.inr rfl))) e_int (e_op o_add (e_var (i := 3) (by rfl) (by first | exact Or.inl rfl | exact Or.inr (Or.inl rfl) | exact Or.inr (Or.inr rfl))) e_int) (un1 hr) (by rfl)) (l_cons (s_set (i := 4) sc__law_draw.nd (by rfl) (by first | exact Or.inl rfl | exact Or.inr rfl) (e_op o_add (e_op o_mulX e_int (e_var (i := 3) (by rfl) (by first | exact Or.inl rfl | exact Or.inr (Or.inl rfl) | exact Or.inr (Or.inr rfl)))) e_int) (by rfl) (by first | exact Or.inl rfl | exact Or.inr rfl)) (l_cons (s_if (t_cmp (o_neX (un64 hr)) (e_ix (un1 hr) (e_var (i := 0) (by rfl) (by first | exact Or.inl rfl | exact Or.inr (Or.inl rfl) | exact Or.inr (Or.inr rfl))) e_int (fun _ _ => rfl)) (e_lst as_nil) (by rfl)) (l_one (s_set (i := 4) sc__law_draw.nd (by rfl) (by first | exact Or.inl rfl | exact Or.inr rfl) (e_ix (un1 hr) (e_ix (un1 hr) (e_var (i := 0) (by rfl) (by first | exact Or.inl rfl | exact Or.inr (Or.inl rfl) | exact Or.inr (Or.inr rfl))) e_int (fun _ _ => rfl)) (e_op o_mod (e_callTy c_int (by rfl) (D.free "int" (by decide +kernel)) (by decide +kernel) (as_cons (e_var (i := 3) (by rfl) (by first | exact Or.inl rfl | exact Or.inr (Or.inl rfl) | exact Or.inr (Or.inr rfl))) as_nil)) (e_callB c_len (by rfl) (D.free "len" (by decide +kernel)) (by decide +kernel) (as_cons (e_ix (un1 hr) (e_var (i := 0) (by rfl) (by first | exact Or.inl rfl | exact Or.inr (Or.inl rfl) | exact Or.inr (Or.inr rfl))) e_int (fun _ _ => rfl)) as_nil))) (fun _ _ => rfl)) (by rfl) (by first | exact Or.inl rfl | exact Or.inr rfl))) l_nil) (l_cons (s_if (PWs.pt (w_and (t_cmp o_lt (e_var (i := 3) (by rfl) (by first | exact Or.inl rfl | exact Or.inr (Or.inl rfl) | exact Or.inr (Or.inr rfl))) (e_callB c_len (by rfl) (D.free "len" (by decide +kernel)) (by decide +kernel) (as_cons (e_ix (un1 hr) (e_var (i := 0) (by rfl) (by first | exact Or.inl rfl | exact Or.inr (Or.inl rfl) | exact Or.inr (Or.inr rfl))) e_int (fun _ _ => rfl)) as_nil)) (by rfl)) (w_and1 (t_cmp o_ge (e_callB c_abs (by rfl) (D.free "abs" (by decide +kernel)) (by decide +kernel) (as_cons (e_var (i := 4) (by rfl) (by first | exact Or.inl rfl | exact Or.inr (Or.inl rfl) | exact Or.inr (Or.inr rfl))) as_nil)) (e_op o_pow e_int e_int) (by rfl))))) (l_cons (s_set (i := 5) sc__law_draw.nd (by rfl) (by first | exact Or.inl rfl | exact Or.inr rfl) (e_op o_add (e_op o_mulX e_int (e_op o_sub (e_callB c_abs (by rfl) (D.free "abs" (by decide +kernel)) (by decide +kernel) (as_cons (e_var (i := 4) (by rfl) (by first | exact Or.inl rfl | exact Or.inr (Or.inl rfl) | exact Or.inr (Or.inr rfl))) as_nil)) (e_op o_pow e_int e_int))) (e_callTy c_int (by rfl) (D.free "int" (by decide +kernel)) (by decide +kernel) (as_cons (e_cmp o_lt (e_var (i := 4) (by rfl) (by first | exact Or.inl rfl | exact Or.inr (Or.inl rfl) | exact Or.inr (Or.inr rfl))) e_int (by rfl)) as_nil))) (by rfl) (by first | exact Or.inl rfl | exact Or.inr rfl)) (l_cons (s_subL (e_var (i := 0) (by rfl) (by first | exact Or.inl rfl | exact Or.inr (Or.inl rfl) | exact Or.inr (Or.inr rfl))) e_int (e_op o_fdiv (e_callTy c_int (by rfl) (D.free "int" (by decide +kernel)) (by decide +kernel) (as_cons (e_var (i := 5) (by rfl) (by first | exact Or.inl rfl | exact Or.inr (Or.inl rfl) | exact Or.inr (Or.inr rfl))) as_nil)) (e_var (i := 1) (by rfl) (by first | exact Or.inl rfl | exact Or.inr (Or.inl rfl) | exact Or.inr (Or.inr rfl)))) (un1 hr) (by rfl)) (l_one (s_ret (e_op o_mod (e_callTy c_int (by rfl) (D.free "int" (by decide +kernel)) (by decide +kernel) (as_cons (e_var (i := 5) (by rfl) (by first | exact Or.inl rfl | exact Or.inr (Or.inl rfl) | exact Or.inr (Or.inr rfl))) as_nil)) (e_var (i := 1) (by rfl) (by first | exact Or.inl rfl | exact Or.inr (Or.inl rfl) | exact Or.inr (Or.inr rfl)))))))) l_nil) (l_cons (s_set (i := 6) sc__law_draw.nd (by rfl) (by first | exact Or.inl rfl | exact Or.inr rfl) (e_op o_mod (e_callTy c_int (by rfl) (D.free "int" (by decide +kernel)) (by decide +kernel) (as_cons (e_op o_pow (e_op o_add (e_op o_add (e_op o_mod (e_callTy c_int (by rfl) (D.free "int" (by decide +kernel)) (by decide +kernel) (as_cons (e_var (i := 4) (by rfl) (by first | exact Or.inl rfl | exact Or.inr (Or.inl rfl) | exact Or.inr (Or.inr rfl))) as_nil)) e_int) (e_op o_mulX e_int (e_var (i := 3) (by rfl) (by first | exact Or.inl rfl | exact Or.inr (Or.inl rfl) | exact Or.inr (Or.inr rfl))))) e_int) e_int) as_nil)) e_int) (by rfl) (by first | exact Or.inl rfl | exact Or.inr rfl)) (l_cons (s_set (i := 6) sc__law_draw.nd (by rfl) (by first | exact Or.inl rfl | exact Or.inr rfl) (e_op o_mod (e_callTy c_int (by rfl) (D.free "int" (by decide +kernel)) (by decide +kernel) (as_cons (e_op o_pow (e_op o_add (e_op o_add (e_op o_mulX (e_var (i := 6) (by rfl) (by first | exact Or.inl rfl | exact Or.inr (Or.inl rfl) | exact Or.inr (Or.inr rfl))) (e_op o_add (e_op o_mulX e_int (e_var (i := 3) (by rfl) (by first | exact Or.inl rfl | exact Or.inr (Or.inl rfl) | exact Or.inr (Or.inr rfl)))) e_int)) (e_op o_mulX (e_op o_mulX e_int (e_var (i := 3) (by rfl) (by first | exact Or.inl rfl | exact Or.inr (Or.inl rfl) | exact Or.inr (Or.inr rfl)))) (e_var (i := 3) (by rfl) (by first | exact Or.inl rfl | exact Or.inr (Or.inl rfl) | exact Or.inr (Or.inr rfl))))) e_int) e_int) as_nil)) e_int) (by rfl) (by first | exact Or.inl rfl | exact Or.inr rfl)) (l_one (s_ret (e_op o_mod (e_callTy c_int (by rfl) (D.free "int" (by decide +kernel)) (by decide +kernel) (as_cons (e_op o_fdiv (e_var (i := 6) (by rfl) (by first | exact Or.inl rfl | exact Or.inr (Or.inl rfl) | exact Or.inr (Or.inr rfl))) e_int) as_nil)) (e_var (i := 1) (by rfl) (by first | exact Or.inl rfl | exact Or.inr (Or.inl rfl) | exact Or.inr (Or.inr rfl)))))))))))))))
theorem sc__law_pick : FnScope ["pen", "some"] ["pen", "some"] (defScope (top 36)) := ⟨rfl, rfl, rfl, by decide +kernel, rfl, by decide +kernel, by decide +kernel⟩
theorem ok__law_pick (D : Fx K mg) : Ok1 P w K mg base (Gk K) 2 (He.fAd K ("_law_pick", none)) ["pen", "some"] m__law_pick := by
  obtain ⟨fd, F⟩ := D.d__law_pick
  exact Ok1.ofM F sc__law_pick rfl (fun _ _ _ _ _ _ us hl => match us, hl with | [_, _], _ => rfl) (fun cdv A outer s H E hr => show PSL _ _ (defBody (top 36)) b__law_pick from (l_one (s_ret (e_ix (un1 hr) (e_var (i := 1) (by rfl) (by first | exact Or.inl rfl | exact Or.inr (Or.inl rfl) | exact Or.inr (Or.inr rfl))) (e_callK (ok__law_draw D) (hr.mono (by decide)) (by rfl) (D.glo "_law_draw" (by decide +kernel)) (by rfl) (as_cons (e_var (i := 0) (by rfl) (by first | exact Or.inl rfl | exact Or.inr (Or.inl rfl) | exact Or.inr (Or.inr rfl))) (as_cons (e_callB c_len (by rfl) (D.free "len" (by decide +kernel)) (by decide +kernel) (as_cons (e_var (i := 1) (by rfl) (by first | exact Or.inl rfl | exact Or.inr (Or.inl rfl) | exact Or.inr (Or.inr rfl))) as_nil)) as_nil))) (fun _ _ => rfl)))))
theorem sc_law : FnScope ["script", "pen", "value", "one", "parts", "stamps", "error", "others", "every", "at", "sorts", "spot", "passed", "paper", "denial", "due", "some", "each"] ["script"] (defScope (top 37)) := ⟨rfl, rfl, rfl, by decide +kernel, rfl, by decide +kernel, by decide +kernel⟩
theorem fs_law (D : Fx K mg) {fd : FuncData} (F : FunD K "law" "law" (defArgs (top 37)) (defBody (top 37)) (defScope (top 37)) [] [] (He.fAd K ("law", none)) fd) : FnS P w K mg base (Gk K) 11 (He.fAd K ("law", none)) fd ["script"] m_law := FnS.ofM F sc_law rfl (fun cdv A outer s H E hr => show PSL _ _ (defBody (top 37)) b_law from (l_cons (s_set (i := 1) sc_law.nd (by rfl) (by first | exact Or.inl rfl | exact Or.inr rfl) (e_callK (ok__law_pen D) (hr.mono (by decide)) (by rfl) (D.glo "_law_pen" (by decide +kernel)) (by rfl) (as_cons (e_var (i := 0) (by rfl) (by first | exact Or.inl rfl | exact Or.inr (Or.inl rfl) | exact Or.inr (Or.inr rfl))) as_nil)) (by rfl) (by first | exact Or.inl rfl | exact Or.inr rfl)) (l_cons (s_set (i := 2) sc_law.nd (by rfl) (by first | exact Or.inl rfl | exact Or.inr rfl) (e_callK (ok__law_pick D) (hr.mono (by decide)) (by rfl) (D.glo "_law_pick" (by decide +kernel)) (by rfl) (as_cons (e_var (i := 1) (by rfl) (by first | exact Or.inl rfl | exact Or.inr (Or.inl rfl) | exact Or.inr (Or.inr rfl))) (as_cons (e_lst (as_cons e_non (as_cons e_int (as_cons (e_str (c := [120]) (by rfl)) (as_cons (e_tup (as_cons e_int (as_cons (e_str (c := [97, 110, 110]) (by rfl)) as_nil))) (as_cons (e_lst (as_cons e_int as_nil)) as_nil)))))) as_nil))) (by rfl) (by first | exact Or.inl rfl | exact Or.inr rfl)) (l_cons (s_set (i := 3) sc_law.nd (by rfl) (by first | exact Or.inl rfl | exact Or.inr rfl) (e_lst (as_cons (e_mkxK (okx_BadName D) (hr.mono (by decide)) (by rfl) (D.glo "BadName" (by decide +kernel)) (as_cons (e_var (i := 2) (by rfl) (by first | exact Or.inl rfl | exact Or.inr (Or.inl rfl) | exact Or.inr (Or.inr rfl))) as_nil)) (as_cons (e_mkxK (okx_BadStamp D) (hr.mono (by decide)) (by rfl) (D.glo "BadStamp" (by decide +kernel)) (as_cons (e_var (i := 2) (by rfl) (by first | exact Or.inl rfl | exact Or.inr (Or.inl rfl) | exact Or.inr (Or.inr rfl))) as_nil)) (as_cons (e_mkxK (okx_BadPart D) (hr.mono (by decide)) (by rfl) (D.glo "BadPart" (by decide +kernel)) (as_cons (e_var (i := 2) (by rfl) (by first | exact Or.inl rfl | exact Or.inr (Or.inl rfl) | exact Or.inr (Or.inr rfl))) as_nil)) as_nil)))) (by rfl) (by first | exact Or.inl rfl | exact Or.inr rfl)) (l_cons (s_set (i := 4) sc_law.nd (by rfl) (by first | exact Or.inl rfl | exact Or.inr rfl) (e_lst (as_cons (e_mkxK (okx_BadNumber D) (hr.mono (by decide)) (by rfl) (D.glo "BadNumber" (by decide +kernel)) (as_cons (e_var (i := 2) (by rfl) (by first | exact Or.inl rfl | exact Or.inr (Or.inl rfl) | exact Or.inr (Or.inr rfl))) as_nil)) (as_cons (e_mkxK (okx_BadValue D) (hr.mono (by decide)) (by rfl) (D.glo "BadValue" (by decide +kernel)) (as_cons (e_var (i := 2) (by rfl) (by first | exact Or.inl rfl | exact Or.inr (Or.inl rfl) | exact Or.inr (Or.inr rfl))) as_nil)) (as_cons (e_mkxK (okx_BadKind D) (hr.mono (by decide)) (by rfl) (D.glo "BadKind" (by decide +kernel)) (as_cons (e_var (i := 2) (by rfl) (by first | exact Or.inl rfl | exact Or.inr (Or.inl rfl) | exact Or.inr (Or.inr rfl))) as_nil)) (as_cons (e_mkxK (okx_BadBook D) (hr.mono (by decide)) (by rfl) (D.glo "BadBook" (by decide +kernel)) (as_cons (e_var (i := 2) (by rfl) (by first | exact Or.inl rfl | exact Or.inr (Or.inl rfl) | exact Or.inr (Or.inr rfl))) as_nil)) (as_cons (e_mkxK (okx_BadEntry D) (hr.mono (by decide)) (by rfl) (D.glo "BadEntry" (by decide +kernel)) (as_cons (e_var (i := 2) (by rfl) (by first | exact Or.inl rfl | exact Or.inr (Or.inl rfl) | exact Or.inr (Or.inr rfl))) as_nil)) (as_cons (e_mkxK (okx_Misfit D) (hr.mono (by decide)) (by rfl) (D.glo "Misfit" (by decide +kernel)) (as_cons (e_var (i := 2) (by rfl) (by first | exact Or.inl rfl | exact Or.inr (Or.inl rfl) | exact Or.inr (Or.inr rfl))) as_nil)) as_nil))))))) (by rfl) (by first | exact Or.inl rfl | exact Or.inr rfl)) (l_cons (s_set (i := 5) sc_law.nd (by rfl) (by first | exact Or.inl rfl | exact Or.inr rfl) (e_lst (as_cons (e_mkxK (okx_BadLog D) (hr.mono (by decide)) (by rfl) (D.glo "BadLog" (by decide +kernel)) (as_cons (e_var (i := 2) (by rfl) (by first | exact Or.inl rfl | exact Or.inr (Or.inl rfl) | exact Or.inr (Or.inr rfl))) as_nil)) (as_cons (e_mkxK (okx_NoShape D) (hr.mono (by decide)) (by rfl) (D.glo "NoShape" (by decide +kernel)) (as_cons (e_var (i := 2) (by rfl) (by first | exact Or.inl rfl | exact Or.inr (Or.inl rfl) | exact Or.inr (Or.inr rfl))) as_nil)) (as_cons (e_mkxK (okx_NoEntry D) (hr.mono (by decide)) (by rfl) (D.glo "NoEntry" (by decide +kernel)) (as_cons (e_var (i := 2) (by rfl) (by first | exact Or.inl rfl | exact Or.inr (Or.inl rfl) | exact Or.inr (Or.inr rfl))) as_nil)) (as_cons (e_mkxK (okx_NoCall D) (hr.mono (by decide)) (by rfl) (D.glo "NoCall" (by decide +kernel)) (as_cons (e_var (i := 2) (by rfl) (by first | exact Or.inl rfl | exact Or.inr (Or.inl rfl) | exact Or.inr (Or.inr rfl))) as_nil)) (as_cons (e_mkxK (okx_Clashing D) (hr.mono (by decide)) (by rfl) (D.glo "Clashing" (by decide +kernel)) (as_cons (e_var (i := 2) (by rfl) (by first | exact Or.inl rfl | exact Or.inr (Or.inl rfl) | exact Or.inr (Or.inr rfl))) as_nil)) as_nil)))))) (by rfl) (by first | exact Or.inl rfl | exact Or.inr rfl)) (l_cons (s_if (t_cmp (o_neX (un64 hr)) (e_op o_add (e_op o_add (e_lc (own := [("error", 6)]) (by rfl) sc_law.nd (i_any (e_var (i := 3) (by rfl) (by first | exact Or.inl rfl | exact Or.inr (Or.inl rfl) | exact Or.inr (Or.inr rfl)))) (show BlkOk ["script", "pen", "value", "one", "parts", "stamps", "error", "others", "every", "at", "sorts", "spot", "passed", "paper", "denial", "due", "some", "each"] (defScope (top 37)) _ _ from ⟨rfl, by decide +kernel, by decide +kernel, by decide +kernel, by decide +kernel⟩) (by decide) (fun s H C cl fp => (g_nm (i := 6) sc_law.nd (by rfl) (by first | exact Or.inl rfl | exact Or.inr rfl) (by first | exact Or.inl rfl | exact Or.inr rfl))) (fun s H C cl fp => cl_one (t_cmp (o_neX (un64 hr)) (e_xf (fc := [118, 97, 108, 117, 101]) (e_var (i := 6) (by rfl) (by first | exact Or.inl rfl | exact Or.inr (Or.inl rfl) | exact Or.inr (Or.inr rfl))) (by rfl) (D.xf ("value", [3, 8, 11]) (by decide +kernel)) (by rfl)) (e_var (i := 2) (by rfl) (by first | exact Or.inl rfl | exact Or.inr (Or.inl rfl) | exact Or.inr (Or.inr rfl))) (by rfl))) (fun s H C cl fp => (e_var (i := 6) (by rfl) (by first | exact Or.inl rfl | exact Or.inr (Or.inl rfl) | exact Or.inr (Or.inr rfl))))) (e_lc (own := [("error", 6)]) (by rfl) sc_law.nd (i_any (e_var (i := 4) (by rfl) (by first | exact Or.inl rfl | exact Or.inr (Or.inl rfl) | exact Or.inr (Or.inr rfl)))) (show BlkOk ["script", "pen", "value", "one", "parts", "stamps", "error", "others", "every", "at", "sorts", "spot", "passed", "paper", "denial", "due", "some", "each"] (defScope (top 37)) _ _ from ⟨rfl, by decide +kernel, by decide +kernel, by decide +kernel, by decide +kernel⟩) (by decide) (fun s H C cl fp => (g_nm (i := 6) sc_law.nd (by rfl) (by first | exact Or.inl rfl | exact Or.inr rfl) (by first | exact Or.inl rfl | exact Or.inr rfl))) (fun s H C cl fp => cl_one (t_cmp (o_neX (un64 hr)) (e_xf (fc := [112, 97, 114, 116]) (e_var (i := 6) (by rfl) (by first | exact Or.inl rfl | exact Or.inr (Or.inl rfl) | exact Or.inr (Or.inr rfl))) (by rfl) (D.xf ("part", [4, 5, 6, 7, 9, 20]) (by decide +kernel)) (by rfl)) (e_var (i := 2) (by rfl) (by first | exact Or.inl rfl | exact Or.inr (Or.inl rfl) | exact Or.inr (Or.inr rfl))) (by rfl))) (fun s H C cl fp => (e_var (i := 6) (by rfl) (by first | exact Or.inl rfl | exact Or.inr (Or.inl rfl) | exact Or.inr (Or.inr rfl)))))) (e_lc (own := [("error", 6)]) (by rfl) sc_law.nd (i_any (e_var (i := 5) (by rfl) (by first | exact Or.inl rfl | exact Or.inr (Or.inl rfl) | exact Or.inr (Or.inr rfl)))) (show BlkOk ["script", "pen", "value", "one", "parts", "stamps", "error", "others", "every", "at", "sorts", "spot", "passed", "paper", "denial", "due", "some", "each"] (defScope (top 37)) _ _ from ⟨rfl, by decide +kernel, by decide +kernel, by decide +kernel, by decide +kernel⟩) (by decide) (fun s H C cl fp => (g_nm (i := 6) sc_law.nd (by rfl) (by first | exact Or.inl rfl | exact Or.inr rfl) (by first | exact Or.inl rfl | exact Or.inr rfl))) (fun s H C cl fp => cl_one (t_cmp (o_neX (un64 hr)) (e_xf (fc := [115, 116, 97, 109, 112]) (e_var (i := 6) (by rfl) (by first | exact Or.inl rfl | exact Or.inr (Or.inl rfl) | exact Or.inr (Or.inr rfl))) (by rfl) (D.xf ("stamp", [10, 15, 16, 17, 19]) (by decide +kernel)) (by rfl)) (e_var (i := 2) (by rfl) (by first | exact Or.inl rfl | exact Or.inr (Or.inl rfl) | exact Or.inr (Or.inr rfl))) (by rfl))) (fun s H C cl fp => (e_var (i := 6) (by rfl) (by first | exact Or.inl rfl | exact Or.inr (Or.inl rfl) | exact Or.inr (Or.inr rfl)))))) (e_lst as_nil) (by rfl)) (l_one (s_ret e_bl)) l_nil) (l_cons (s_set (i := 7) sc_law.nd (by rfl) (by first | exact Or.inl rfl | exact Or.inr rfl) (e_lst (as_cons (e_mkxK (okx_NoKind D) (hr.mono (by decide)) (by rfl) (D.glo "NoKind" (by decide +kernel)) (as_cons (e_var (i := 2) (by rfl) (by first | exact Or.inl rfl | exact Or.inr (Or.inl rfl) | exact Or.inr (Or.inr rfl))) as_nil)) (as_cons (e_mkxK (okx_NoHand D) (hr.mono (by decide)) (by rfl) (D.glo "NoHand" (by decide +kernel)) (as_cons (e_var (i := 2) (by rfl) (by first | exact Or.inl rfl | exact Or.inr (Or.inl rfl) | exact Or.inr (Or.inr rfl))) as_nil)) (as_cons (e_mkxK (okx_Gap D) (hr.mono (by decide)) (by rfl) (D.glo "Gap" (by decide +kernel)) (as_cons (e_var (i := 2) (by rfl) (by first | exact Or.inl rfl | exact Or.inr (Or.inl rfl) | exact Or.inr (Or.inr rfl))) (as_cons e_int as_nil))) (as_cons (e_mkxK (okx_TooMany D) (hr.mono (by decide)) (by rfl) (D.glo "TooMany" (by decide +kernel)) (as_cons (e_var (i := 2) (by rfl) (by first | exact Or.inl rfl | exact Or.inr (Or.inl rfl) | exact Or.inr (Or.inr rfl))) (as_cons e_int as_nil))) (as_cons (e_mkxK (okx_BadText D) (hr.mono (by decide)) (by rfl) (D.glo "BadText" (by decide +kernel)) (as_cons e_int (as_cons e_int as_nil))) as_nil)))))) (by rfl) (by first | exact Or.inl rfl | exact Or.inr rfl)) (l_cons (s_if (t_cmp (o_neX (un64 hr)) (e_lst (as_cons (e_xf (fc := [110, 97, 109, 101]) (e_ix (un1 hr) (e_var (i := 7) (by rfl) (by first | exact Or.inl rfl | exact Or.inr (Or.inl rfl) | exact Or.inr (Or.inr rfl))) e_int (fun _ _ => rfl)) (by rfl) (D.xf ("name", [13]) (by decide +kernel)) (by rfl)) (as_cons (e_xf (fc := [104, 97, 110, 100]) (e_ix (un1 hr) (e_var (i := 7) (by rfl) (by first | exact Or.inl rfl | exact Or.inr (Or.inl rfl) | exact Or.inr (Or.inr rfl))) e_int (fun _ _ => rfl)) (by rfl) (D.xf ("hand", [14, 18]) (by decide +kernel)) (by rfl)) (as_cons (e_xf (fc := [104, 97, 110, 100]) (e_ix (un1 hr) (e_var (i := 7) (by rfl) (by first | exact Or.inl rfl | exact Or.inr (Or.inl rfl) | exact Or.inr (Or.inr rfl))) e_int (fun _ _ => rfl)) (by rfl) (D.xf ("hand", [14, 18]) (by decide +kernel)) (by rfl)) (as_cons (e_xf (fc := [109, 97, 110, 121]) (e_ix (un1 hr) (e_var (i := 7) (by rfl) (by first | exact Or.inl rfl | exact Or.inr (Or.inl rfl) | exact Or.inr (Or.inr rfl))) e_int (fun _ _ => rfl)) (by rfl) (D.xf ("many", [18]) (by decide +kernel)) (by rfl)) (as_cons (e_xf (fc := [119, 104, 97, 116]) (e_ix (un1 hr) (e_var (i := 7) (by rfl) (by first | exact Or.inl rfl | exact Or.inr (Or.inl rfl) | exact Or.inr (Or.inr rfl))) e_int (fun _ _ => rfl)) (by rfl) (D.xf ("what", [21]) (by decide +kernel)) (by rfl)) (as_cons (e_xf (fc := [109, 111, 115, 116]) (e_ix (un1 hr) (e_var (i := 7) (by rfl) (by first | exact Or.inl rfl | exact Or.inr (Or.inl rfl) | exact Or.inr (Or.inr rfl))) e_int (fun _ _ => rfl)) (by rfl) (D.xf ("most", [21]) (by decide +kernel)) (by rfl)) (as_cons (e_xf (fc := [108, 105, 110, 101]) (e_ix (un1 hr) (e_var (i := 7) (by rfl) (by first | exact Or.inl rfl | exact Or.inr (Or.inl rfl) | exact Or.inr (Or.inr rfl))) e_int (fun _ _ => rfl)) (by rfl) (D.xf ("line", [12]) (by decide +kernel)) (by rfl)) (as_cons (e_xf (fc := [119, 111, 114, 100]) (e_ix (un1 hr) (e_var (i := 7) (by rfl) (by first | exact Or.inl rfl | exact Or.inr (Or.inl rfl) | exact Or.inr (Or.inr rfl))) e_int (fun _ _ => rfl)) (by rfl) (D.xf ("word", [12]) (by decide +kernel)) (by rfl)) as_nil))))))))) (e_lst (as_cons (e_var (i := 2) (by rfl) (by first | exact Or.inl rfl | exact Or.inr (Or.inl rfl) | exact Or.inr (Or.inr rfl))) (as_cons (e_var (i := 2) (by rfl) (by first | exact Or.inl rfl | exact Or.inr (Or.inl rfl) | exact Or.inr (Or.inr rfl))) (as_cons (e_var (i := 2) (by rfl) (by first | exact Or.inl rfl | exact Or.inr (Or.inl rfl) | exact Or.inr (Or.inr rfl))) (as_cons e_int (as_cons (e_var (i := 2) (by rfl) (by first | exact Or.inl rfl | exact Or.inr (Or.inl rfl) | exact Or.inr (Or.inr rfl))) (as_cons e_int (as_cons e_int (as_cons e_int as_nil))))))))) (by rfl)) (l_one (s_ret e_bl)) l_nil) (l_cons (s_set (i := 8) sc_law.nd (by rfl) (by first | exact Or.inl rfl | exact Or.inr rfl) (e_op o_add (e_op o_add (e_op o_add (e_var (i := 3) (by rfl) (by first | exact Or.inl rfl | exact Or.inr (Or.inl rfl) | exact Or.inr (Or.inr rfl))) (e_var (i := 4) (by rfl) (by first | exact Or.inl rfl | exact Or.inr (Or.inl rfl) | exact Or.inr (Or.inr rfl)))) (e_var (i := 5) (by rfl) (by first | exact Or.inl rfl | exact Or.inr (Or.inl rfl) | exact Or.inr (Or.inr rfl)))) (e_var (i := 7) (by rfl) (by first | exact Or.inl rfl | exact Or.inr (Or.inl rfl) | exact Or.inr (Or.inr rfl)))) (by rfl) (by first | exact Or.inl rfl | exact Or.inr rfl)) (l_cons (s_if (t_cmp (o_neX (un64 hr)) (e_lc (own := [("error", 6)]) (by rfl) sc_law.nd (i_any (e_var (i := 8) (by rfl) (by first | exact Or.inl rfl | exact Or.inr (Or.inl rfl) | exact Or.inr (Or.inr rfl)))) (show BlkOk ["script", "pen", "value", "one", "parts", "stamps", "error", "others", "every", "at", "sorts", "spot", "passed", "paper", "denial", "due", "some", "each"] (defScope (top 37)) _ _ from ⟨rfl, by decide +kernel, by decide +kernel, by decide +kernel, by decide +kernel⟩) (by decide) (fun s H C cl fp => (g_nm (i := 6) sc_law.nd (by rfl) (by first | exact Or.inl rfl | exact Or.inr rfl) (by first | exact Or.inl rfl | exact Or.inr rfl))) (fun s H C cl fp => cl_one (PWs.pt (w_or (t_not (t_tru (e_callB (c_isi D.isi) (by rfl) (D.free "isinstance" (by decide +kernel)) (by decide +kernel) (as_cons (e_var (i := 6) (by rfl) (by first | exact Or.inl rfl | exact Or.inr (Or.inl rfl) | exact Or.inr (Or.inr rfl))) (as_cons (e_gcls (C := 2) (D.glo "CallError" (by decide +kernel)) (by rfl)) as_nil))) (fun _ => rfl))) (w_or1 (t_not (t_tru (e_callB (c_isi D.isi) (by rfl) (D.free "isinstance" (by decide +kernel)) (by decide +kernel) (as_cons (e_var (i := 6) (by rfl) (by first | exact Or.inl rfl | exact Or.inr (Or.inl rfl) | exact Or.inr (Or.inr rfl))) (as_cons (e_bltn (n := "ValueError") (by rfl) (D.free "ValueError" (by decide +kernel)) (by decide +kernel)) as_nil))) (fun _ => rfl))))))) (fun s H C cl fp => (e_var (i := 6) (by rfl) (by first | exact Or.inl rfl | exact Or.inr (Or.inl rfl) | exact Or.inr (Or.inr rfl))))) (e_lst as_nil) (by rfl)) (l_one (s_ret e_bl)) l_nil) (l_cons (s_for (owns_cx) (by rfl) (i_enum (by rfl) (D.free "enumerate" (by decide +kernel)) (as_cons (e_var (i := 8) (by rfl) (by first | exact Or.inl rfl | exact Or.inr (Or.inl rfl) | exact Or.inr (Or.inr rfl))) as_nil)) (g_tp (by rfl) (gn_cons (pg_name (i := 9) sc_law.nd (by rfl) (by first | exact Or.inl rfl | exact Or.inr rfl) (by first | exact Or.inl rfl | exact Or.inr rfl)) (gn_cons (pg_name (i := 6) sc_law.nd (by rfl) (by first | exact Or.inl rfl | exact Or.inr rfl) (by first | exact Or.inl rfl | exact Or.inr rfl)) gn_nil))) (l_cons (s_set (i := 10) sc_law.nd (by rfl) (by first | exact Or.inl rfl | exact Or.inr rfl) (e_lst (as_cons (e_callB (c_isi D.isi) (by rfl) (D.free "isinstance" (by decide +kernel)) (by decide +kernel) (as_cons (e_var (i := 6) (by rfl) (by first | exact Or.inl rfl | exact Or.inr (Or.inl rfl) | exact Or.inr (Or.inr rfl))) (as_cons (e_gcls (C := 3) (D.glo "BadName" (by decide +kernel)) (by rfl)) as_nil))) (as_cons (e_callB (c_isi D.isi) (by rfl) (D.free "isinstance" (by decide +kernel)) (by decide +kernel) (as_cons (e_var (i := 6) (by rfl) (by first | exact Or.inl rfl | exact Or.inr (Or.inl rfl) | exact Or.inr (Or.inr rfl))) (as_cons (e_gcls (C := 8) (D.glo "BadStamp" (by decide +kernel)) (by rfl)) as_nil))) (as_cons (e_callB (c_isi D.isi) (by rfl) (D.free "isinstance" (by decide +kernel)) (by decide +kernel) (as_cons (e_var (i := 6) (by rfl) (by first | exact Or.inl rfl | exact Or.inr (Or.inl rfl) | exact Or.inr (Or.inr rfl))) (as_cons (e_gcls (C := 11) (D.glo "BadPart" (by decide +kernel)) (by rfl)) as_nil))) (as_cons (e_callB (c_isi D.isi) (by rfl) (D.free "isinstance" (by decide +kernel)) (by decide +kernel) (as_cons (e_var (i := 6) (by rfl) (by first | exact Or.inl rfl | exact Or.inr (Or.inl rfl) | exact Or.inr (Or.inr rfl))) (as_cons (e_gcls (C := 4) (D.glo "BadNumber" (by decide +kernel)) (by rfl)) as_nil))) (as_cons (e_callB (c_isi D.isi) (by rfl) (D.free "isinstance" (by decide +kernel)) (by decide +kernel) (as_cons (e_var (i := 6) (by rfl) (by first | exact Or.inl rfl | exact Or.inr (Or.inl rfl) | exact Or.inr (Or.inr rfl))) (as_cons (e_gcls (C := 5) (D.glo "BadValue" (by decide +kernel)) (by rfl)) as_nil))) as_nil)))))) (by rfl) (by first | exact Or.inl rfl | exact Or.inr rfl)) (l_cons (s_set (i := 10) sc_law.nd (by rfl) (by first | exact Or.inl rfl | exact Or.inr rfl) (e_op o_add (e_var (i := 10) (by rfl) (by first | exact Or.inl rfl | exact Or.inr (Or.inl rfl) | exact Or.inr (Or.inr rfl))) (e_lst (as_cons (e_callB (c_isi D.isi) (by rfl) (D.free "isinstance" (by decide +kernel)) (by decide +kernel) (as_cons (e_var (i := 6) (by rfl) (by first | exact Or.inl rfl | exact Or.inr (Or.inl rfl) | exact Or.inr (Or.inr rfl))) (as_cons (e_gcls (C := 6) (D.glo "BadKind" (by decide +kernel)) (by rfl)) as_nil))) (as_cons (e_callB (c_isi D.isi) (by rfl) (D.free "isinstance" (by decide +kernel)) (by decide +kernel) (as_cons (e_var (i := 6) (by rfl) (by first | exact Or.inl rfl | exact Or.inr (Or.inl rfl) | exact Or.inr (Or.inr rfl))) (as_cons (e_gcls (C := 7) (D.glo "BadBook" (by decide +kernel)) (by rfl)) as_nil))) (as_cons (e_callB (c_isi D.isi) (by rfl) (D.free "isinstance" (by decide +kernel)) (by decide +kernel) (as_cons (e_var (i := 6) (by rfl) (by first | exact Or.inl rfl | exact Or.inr (Or.inl rfl) | exact Or.inr (Or.inr rfl))) (as_cons (e_gcls (C := 9) (D.glo "BadEntry" (by decide +kernel)) (by rfl)) as_nil))) (as_cons (e_callB (c_isi D.isi) (by rfl) (D.free "isinstance" (by decide +kernel)) (by decide +kernel) (as_cons (e_var (i := 6) (by rfl) (by first | exact Or.inl rfl | exact Or.inr (Or.inl rfl) | exact Or.inr (Or.inr rfl))) (as_cons (e_gcls (C := 20) (D.glo "Misfit" (by decide +kernel)) (by rfl)) as_nil))) as_nil)))))) (by rfl) (by first | exact Or.inl rfl | exact Or.inr rfl)) (l_cons (s_set (i := 10) sc_law.nd (by rfl) (by first | exact Or.inl rfl | exact Or.inr rfl) (e_op o_add (e_var (i := 10) (by rfl) (by first | exact Or.inl rfl | exact Or.inr (Or.inl rfl) | exact Or.inr (Or.inr rfl))) (e_lst (as_cons (e_callB (c_isi D.isi) (by rfl) (D.free "isinstance" (by decide +kernel)) (by decide +kernel) (as_cons (e_var (i := 6) (by rfl) (by first | exact Or.inl rfl | exact Or.inr (Or.inl rfl) | exact Or.inr (Or.inr rfl))) (as_cons (e_gcls (C := 10) (D.glo "BadLog" (by decide +kernel)) (by rfl)) as_nil))) (as_cons (e_callB (c_isi D.isi) (by rfl) (D.free "isinstance" (by decide +kernel)) (by decide +kernel) (as_cons (e_var (i := 6) (by rfl) (by first | exact Or.inl rfl | exact Or.inr (Or.inl rfl) | exact Or.inr (Or.inr rfl))) (as_cons (e_gcls (C := 15) (D.glo "NoShape" (by decide +kernel)) (by rfl)) as_nil))) (as_cons (e_callB (c_isi D.isi) (by rfl) (D.free "isinstance" (by decide +kernel)) (by decide +kernel) (as_cons (e_var (i := 6) (by rfl) (by first | exact Or.inl rfl | exact Or.inr (Or.inl rfl) | exact Or.inr (Or.inr rfl))) (as_cons (e_gcls (C := 16) (D.glo "NoEntry" (by decide +kernel)) (by rfl)) as_nil))) (as_cons (e_callB (c_isi D.isi) (by rfl) (D.free "isinstance" (by decide +kernel)) (by decide +kernel) (as_cons (e_var (i := 6) (by rfl) (by first | exact Or.inl rfl | exact Or.inr (Or.inl rfl) | exact Or.inr (Or.inr rfl))) (as_cons (e_gcls (C := 17) (D.glo "NoCall" (by decide +kernel)) (by rfl)) as_nil))) (as_cons (e_callB (c_isi D.isi) (by rfl) (D.free "isinstance" (by decide +kernel)) (by decide +kernel) (as_cons (e_var (i := 6) (by rfl) (by first | exact Or.inl rfl | exact Or.inr (Or.inl rfl) | exact Or.inr (Or.inr rfl))) (as_cons (e_gcls (C := 19) (D.glo "Clashing" (by decide +kernel)) (by rfl)) as_nil))) as_nil))))))) (by rfl) (by first | exact Or.inl rfl | exact Or.inr rfl)) (l_cons (s_set (i := 10) sc_law.nd (by rfl) (by first | exact Or.inl rfl | exact Or.inr rfl) (e_op o_add (e_var (i := 10) (by rfl) (by first | exact Or.inl rfl | exact Or.inr (Or.inl rfl) | exact Or.inr (Or.inr rfl))) (e_lst (as_cons (e_callB (c_isi D.isi) (by rfl) (D.free "isinstance" (by decide +kernel)) (by decide +kernel) (as_cons (e_var (i := 6) (by rfl) (by first | exact Or.inl rfl | exact Or.inr (Or.inl rfl) | exact Or.inr (Or.inr rfl))) (as_cons (e_gcls (C := 13) (D.glo "NoKind" (by decide +kernel)) (by rfl)) as_nil))) (as_cons (e_callB (c_isi D.isi) (by rfl) (D.free "isinstance" (by decide +kernel)) (by decide +kernel) (as_cons (e_var (i := 6) (by rfl) (by first | exact Or.inl rfl | exact Or.inr (Or.inl rfl) | exact Or.inr (Or.inr rfl))) (as_cons (e_gcls (C := 14) (D.glo "NoHand" (by decide +kernel)) (by rfl)) as_nil))) (as_cons (e_callB (c_isi D.isi) (by rfl) (D.free "isinstance" (by decide +kernel)) (by decide +kernel) (as_cons (e_var (i := 6) (by rfl) (by first | exact Or.inl rfl | exact Or.inr (Or.inl rfl) | exact Or.inr (Or.inr rfl))) (as_cons (e_gcls (C := 18) (D.glo "Gap" (by decide +kernel)) (by rfl)) as_nil))) (as_cons (e_callB (c_isi D.isi) (by rfl) (D.free "isinstance" (by decide +kernel)) (by decide +kernel) (as_cons (e_var (i := 6) (by rfl) (by first | exact Or.inl rfl | exact Or.inr (Or.inl rfl) | exact Or.inr (Or.inr rfl))) (as_cons (e_gcls (C := 21) (D.glo "TooMany" (by decide +kernel)) (by rfl)) as_nil))) (as_cons (e_callB (c_isi D.isi) (by rfl) (D.free "isinstance" (by decide +kernel)) (by decide +kernel) (as_cons (e_var (i := 6) (by rfl) (by first | exact Or.inl rfl | exact Or.inr (Or.inl rfl) | exact Or.inr (Or.inr rfl))) (as_cons (e_gcls (C := 12) (D.glo "BadText" (by decide +kernel)) (by rfl)) as_nil))) as_nil))))))) (by rfl) (by first | exact Or.inl rfl | exact Or.inr rfl)) (l_one (s_if (t_cmp (o_neX (un64 hr)) (e_var (i := 10) (by rfl) (by first | exact Or.inl rfl | exact Or.inr (Or.inl rfl) | exact Or.inr (Or.inr rfl))) (e_lc (own := [("spot", 11)]) (by rfl) sc_law.nd (i_rng1 (by rfl) (D.free "range" (by decide +kernel)) (as_cons (e_callB c_len (by rfl) (D.free "len" (by decide +kernel)) (by decide +kernel) (as_cons (e_var (i := 8) (by rfl) (by first | exact Or.inl rfl | exact Or.inr (Or.inl rfl) | exact Or.inr (Or.inr rfl))) as_nil)) as_nil)) (show BlkOk ["script", "pen", "value", "one", "parts", "stamps", "error", "others", "every", "at", "sorts", "spot", "passed", "paper", "denial", "due", "some", "each"] (defScope (top 37)) _ _ from ⟨rfl, by decide +kernel, by decide +kernel, by decide +kernel, by decide +kernel⟩) (by decide) (fun s H C cl fp => (g_nm (i := 11) sc_law.nd (by rfl) (by first | exact Or.inl rfl | exact Or.inr rfl) (by first | exact Or.inl rfl | exact Or.inr rfl))) (fun s H C cl fp => cl_nil) (fun s H C cl fp => (e_cmp (o_eqX (un64 hr)) (e_var (i := 11) (by rfl) (by first | exact Or.inl rfl | exact Or.inr (Or.inl rfl) | exact Or.inr (Or.inr rfl))) (e_var (i := 9) (by rfl) (by first | exact Or.inl rfl | exact Or.inr (Or.inl rfl) | exact Or.inr (Or.inr rfl))) (by rfl)))) (by rfl)) (l_one (s_ret e_bl)) l_nil))))))) (l_cons (s_set (i := 12) sc_law.nd (by rfl) (by first | exact Or.inl rfl | exact Or.inr rfl) (e_dctT (pp_cons (e_str (c := [97]) (by rfl)) e_int pp_nil) (by rfl) (by rfl) (by simp) (by decide)) (by rfl) (by first | exact Or.inl rfl | exact Or.inr rfl)) (l_cons (s_par2 (i := 13) (j := 14) (by rfl) sc_law.nd (by rfl) (by rfl) (by decide) (by rfl) (by rfl) (as_cons (e_fz (e_makeR (C := 0) D.mk_Paper (okR_Paper_init D) (hr.mono (by decide)) (by rfl) (D.glo "Paper" (by decide +kernel)) (as_cons (e_str (c := [110, 111, 116, 101]) (by rfl)) (as_cons (e_lst (as_cons e_int (as_cons (e_lst (as_cons (e_var (i := 2) (by rfl) (by first | exact Or.inl rfl | exact Or.inr (Or.inl rfl) | exact Or.inr (Or.inr rfl))) as_nil)) as_nil))) (as_cons (e_var (i := 12) (by rfl) (by first | exact Or.inl rfl | exact Or.inr (Or.inl rfl) | exact Or.inr (Or.inr rfl))) as_nil))))) (as_cons (e_fz (e_makeR (C := 1) D.mk_Denial (okR_Paper_init D) (hr.mono (by decide)) (by rfl) (D.glo "Denial" (by decide +kernel)) (as_cons (e_str (c := [110, 111, 116, 101]) (by rfl)) (as_cons (e_lst (as_cons e_int (as_cons (e_lst (as_cons (e_var (i := 2) (by rfl) (by first | exact Or.inl rfl | exact Or.inr (Or.inl rfl) | exact Or.inr (Or.inr rfl))) as_nil)) as_nil))) (as_cons (e_fz (e_dctT (pp_cons (e_str (c := [97]) (by rfl)) e_int pp_nil) (by rfl) (by rfl) (by simp) (by decide))) as_nil))))) as_nil)) (by rfl) (by rfl)) (l_cons (s_subL (e_var (i := 12) (by rfl) (by first | exact Or.inl rfl | exact Or.inr (Or.inl rfl) | exact Or.inr (Or.inr rfl))) (e_str (c := [97]) (by rfl)) e_int (un1 hr) (by rfl)) (l_cons (s_set (i := 15) sc_law.nd (by rfl) (by first | exact Or.inl rfl | exact Or.inr rfl) (e_if (t_tru (e_callB (c_isi D.isi) (by rfl) (D.free "isinstance" (by decide +kernel)) (by decide +kernel) (as_cons (e_var (i := 2) (by rfl) (by first | exact Or.inl rfl | exact Or.inr (Or.inl rfl) | exact Or.inr (Or.inr rfl))) (as_cons (e_bltn (n := "list") (by rfl) (D.free "list" (by decide +kernel)) (by decide +kernel)) as_nil))) (fun _ => rfl)) (e_tup (as_cons e_int (as_cons (e_tup (as_cons (e_tup (as_cons e_int as_nil)) as_nil)) as_nil))) (e_tup (as_cons e_int (as_cons (e_tup (as_cons (e_var (i := 2) (by rfl) (by first | exact Or.inl rfl | exact Or.inr (Or.inl rfl) | exact Or.inr (Or.inr rfl))) as_nil)) as_nil)))) (by rfl) (by first | exact Or.inl rfl | exact Or.inr rfl)) (l_cons (s_if (PWs.pt (w_or (t_cmp (o_neX (un64 hr)) (e_fld (fc := [112, 97, 114, 116, 115]) (e_var (i := 13) (by rfl) (by first | exact Or.inl rfl | exact Or.inr (Or.inl rfl) | exact Or.inr (Or.inr rfl))) (by rfl) (D.fld "parts" (by decide +kernel)) (by rfl)) (e_tup (as_cons (e_var (i := 15) (by rfl) (by first | exact Or.inl rfl | exact Or.inr (Or.inl rfl) | exact Or.inr (Or.inr rfl))) (as_cons (e_fz (e_dctT (pp_cons (e_str (c := [97]) (by rfl)) e_int pp_nil) (by rfl) (by rfl) (by simp) (by decide))) as_nil))) (by rfl)) (w_or (t_cmp (o_neX (un64 hr)) (e_fld (fc := [119, 111, 114, 100]) (e_var (i := 13) (by rfl) (by first | exact Or.inl rfl | exact Or.inr (Or.inl rfl) | exact Or.inr (Or.inr rfl))) (by rfl) (D.fld "word" (by decide +kernel)) (by rfl)) (e_str (c := [110, 111, 116, 101]) (by rfl)) (by rfl)) (w_or (t_cmp o_isNot (e_callTyO (c_boolK (C := 0) (D.boolF_Paper) (ok_Paper_bool D) (hr.mono (by decide)) (by rfl)) (by rfl) (D.free "bool" (by decide +kernel)) (by decide +kernel) (as_cons (e_var (i := 13) (by rfl) (by first | exact Or.inl rfl | exact Or.inr (Or.inl rfl) | exact Or.inr (Or.inr rfl))) as_nil)) e_bl (by rfl)) (w_or (t_cmp o_isNot (e_callTyO (c_boolK (C := 1) (D.boolF_Denial) (ok_Denial_bool D) (hr.mono (by decide)) (by rfl)) (by rfl) (D.free "bool" (by decide +kernel)) (by decide +kernel) (as_cons (e_var (i := 14) (by rfl) (by first | exact Or.inl rfl | exact Or.inr (Or.inl rfl) | exact Or.inr (Or.inr rfl))) as_nil)) e_bl (by rfl)) (w_or (t_cmpO (o_eqOK D.isi D.eqok (ok_Paper_eq D) (hr.mono (by decide)) (by rfl)) (e_var (i := 13) (by rfl) (by first | exact Or.inl rfl | exact Or.inr (Or.inl rfl) | exact Or.inr (Or.inr rfl))) (e_var (i := 14) (by rfl) (by first | exact Or.inl rfl | exact Or.inr (Or.inl rfl) | exact Or.inr (Or.inr rfl))) (by rfl) kEqO_bl) (w_or1 (t_cmpO (o_neOK D.isi D.eqok (ok_Paper_eq D) (hr.mono (by decide)) (by rfl)) (e_var (i := 13) (by rfl) (by first | exact Or.inl rfl | exact Or.inr (Or.inl rfl) | exact Or.inr (Or.inr rfl))) (e_fz (e_makeR (C := 0) D.mk_Paper (okR_Paper_init D) (hr.mono (by decide)) (by rfl) (D.glo "Paper" (by decide +kernel)) (as_cons (e_str (c := [110, 111, 116, 101]) (by rfl)) (as_cons (e_tup (as_cons e_int (as_cons (e_tup (as_cons (e_var (i := 2) (by rfl) (by first | exact Or.inl rfl | exact Or.inr (Or.inl rfl) | exact Or.inr (Or.inr rfl))) as_nil)) as_nil))) (as_cons (e_fz (e_dctT (pp_cons (e_str (c := [97]) (by rfl)) e_int pp_nil) (by rfl) (by rfl) (by simp) (by decide))) as_nil))))) (by rfl) kEqO_bl)))))))) (l_one (s_ret e_bl)) l_nil) (l_cons (s_if (PWs.pt (w_or (t_cmpO (o_eqOK D.isi D.eqok (ok_Paper_eq D) (hr.mono (by decide)) (by rfl)) (e_var (i := 13) (by rfl) (by first | exact Or.inl rfl | exact Or.inr (Or.inl rfl) | exact Or.inr (Or.inr rfl))) (e_fz (e_makeR (C := 0) D.mk_Paper (okR_Paper_init D) (hr.mono (by decide)) (by rfl) (D.glo "Paper" (by decide +kernel)) (as_cons (e_str (c := [110, 111, 116]) (by rfl)) (as_cons (e_lst (as_cons e_int (as_cons (e_lst (as_cons (e_var (i := 2) (by rfl) (by first | exact Or.inl rfl | exact Or.inr (Or.inl rfl) | exact Or.inr (Or.inr rfl))) as_nil)) as_nil))) (as_cons (e_fz (e_dctT (pp_cons (e_str (c := [97]) (by rfl)) e_int pp_nil) (by rfl) (by rfl) (by simp) (by decide))) as_nil))))) (by rfl) kEqO_bl) (w_or (t_cmpO (o_eqOK D.isi D.eqok (ok_Paper_eq D) (hr.mono (by decide)) (by rfl)) (e_var (i := 13) (by rfl) (by first | exact Or.inl rfl | exact Or.inr (Or.inl rfl) | exact Or.inr (Or.inr rfl))) (e_fld (fc := [112, 97, 114, 116, 115]) (e_var (i := 13) (by rfl) (by first | exact Or.inl rfl | exact Or.inr (Or.inl rfl) | exact Or.inr (Or.inr rfl))) (by rfl) (D.fld "parts" (by decide +kernel)) (by rfl)) (by rfl) kEqO_bl) (w_or (t_not (t_tru (e_callB (c_isi D.isi) (by rfl) (D.free "isinstance" (by decide +kernel)) (by decide +kernel) (as_cons (e_var (i := 14) (by rfl) (by first | exact Or.inl rfl | exact Or.inr (Or.inl rfl) | exact Or.inr (Or.inr rfl))) (as_cons (e_gcls (C := 0) (D.glo "Paper" (by decide +kernel)) (by rfl)) as_nil))) (fun _ => rfl))) (w_or1 (t_tru (e_callB (c_isi D.isi) (by rfl) (D.free "isinstance" (by decide +kernel)) (by decide +kernel) (as_cons (e_var (i := 13) (by rfl) (by first | exact Or.inl rfl | exact Or.inr (Or.inl rfl) | exact Or.inr (Or.inr rfl))) (as_cons (e_gcls (C := 1) (D.glo "Denial" (by decide +kernel)) (by rfl)) as_nil))) (fun _ => rfl))))))) (l_one (s_ret e_bl)) l_nil) (l_cons (s_set (i := 16) sc_law.nd (by rfl) (by first | exact Or.inl rfl | exact Or.inr rfl) (e_lst (as_cons e_non (as_cons e_bl (as_cons e_bl (as_cons e_int (as_cons (e_un o_neg e_int) (as_cons (e_op o_pow e_int e_int) (as_cons (e_str (c := [97]) (by rfl)) (as_cons (e_str (c := [97, 98, 99, 100, 101, 102, 103, 104]) (by rfl)) (as_cons (e_str (c := [97, 98, 99, 100, 101, 102, 103, 104, 105]) (by rfl)) (as_cons (e_str (c := []) (by rfl)) (as_cons (e_str (c := [65]) (by rfl)) (as_cons (e_str (c := [97, 49]) (by rfl)) (as_cons (e_tup (as_cons e_int (as_cons (e_str (c := [97, 110, 110]) (by rfl)) as_nil))) (as_cons (e_tup (as_cons e_int (as_cons (e_str (c := [97, 110, 110]) (by rfl)) as_nil))) (as_cons (e_tup (as_cons e_bl (as_cons (e_str (c := [97, 110, 110]) (by rfl)) as_nil))) (as_cons (e_lst (as_cons e_int (as_cons (e_str (c := [97, 110, 110]) (by rfl)) as_nil))) (as_cons (e_tup (as_cons e_int (as_cons (e_str (c := [97, 110, 110]) (by rfl)) (as_cons e_int as_nil)))) (as_cons (e_tup as_nil) as_nil))))))))))))))))))) (by rfl) (by first | exact Or.inl rfl | exact Or.inr rfl)) (l_cons (s_set (i := 16) sc_law.nd (by rfl) (by first | exact Or.inl rfl | exact Or.inr rfl) (e_op o_add (e_var (i := 16) (by rfl) (by first | exact Or.inl rfl | exact Or.inr (Or.inl rfl) | exact Or.inr (Or.inr rfl))) (e_lst (as_cons (e_tup (as_cons (e_tup (as_cons (e_str (c := [97, 110, 110]) (by rfl)) (as_cons e_int as_nil))) as_nil)) (as_cons (e_tup (as_cons (e_tup (as_cons (e_str (c := [97, 110, 110]) (by rfl)) (as_cons e_int as_nil))) as_nil)) (as_cons (e_tup (as_cons (e_tup (as_cons (e_str (c := [98, 101, 110]) (by rfl)) (as_cons e_int as_nil))) (as_cons (e_tup (as_cons (e_str (c := [97, 110, 110]) (by rfl)) (as_cons e_int as_nil))) as_nil))) (as_cons (e_tup (as_cons (e_tup (as_cons (e_str (c := [97, 110, 110]) (by rfl)) (as_cons e_int as_nil))) (as_cons (e_tup (as_cons (e_str (c := [98, 101, 110]) (by rfl)) (as_cons e_int as_nil))) as_nil))) (as_cons (e_lst (as_cons (e_tup (as_cons (e_str (c := [97, 110, 110]) (by rfl)) (as_cons e_int as_nil))) as_nil)) (as_cons (e_tup (as_cons (e_tup (as_cons (e_str (c := [97, 110, 110]) (by rfl)) (as_cons e_bl as_nil))) as_nil)) (as_cons (e_tup (as_cons (e_tup (as_cons (e_str (c := [97, 110, 110]) (by rfl)) (as_cons e_int as_nil))) (as_cons (e_tup (as_cons (e_str (c := [97, 110, 110]) (by rfl)) (as_cons e_int as_nil))) as_nil))) (as_cons e_dctN as_nil)))))))))) (by rfl) (by first | exact Or.inl rfl | exact Or.inr rfl)) (l_cons (s_if (PWs.pt (w_or (t_cmp (o_neX (un64 hr)) (e_lc (own := [("each", 17)]) (by rfl) sc_law.nd (i_any (e_var (i := 16) (by rfl) (by first | exact Or.inl rfl | exact Or.inr (Or.inl rfl) | exact Or.inr (Or.inr rfl)))) (show BlkOk ["script", "pen", "value", "one", "parts", "stamps", "error", "others", "every", "at", "sorts", "spot", "passed", "paper", "denial", "due", "some", "each"] (defScope (top 37)) _ _ from ⟨rfl, by decide +kernel, by decide +kernel, by decide +kernel, by decide +kernel⟩) (by decide) (fun s H C cl fp => (g_nm (i := 17) sc_law.nd (by rfl) (by first | exact Or.inl rfl | exact Or.inr rfl) (by first | exact Or.inl rfl | exact Or.inr rfl))) (fun s H C cl fp => cl_nil) (fun s H C cl fp => (e_callK (ok_is_integer D) (hr.mono (by decide)) (by rfl) (D.glo "is_integer" (by decide +kernel)) (by rfl) (as_cons (e_var (i := 17) (by rfl) (by first | exact Or.inl rfl | exact Or.inr (Or.inl rfl) | exact Or.inr (Or.inr rfl))) as_nil)))) (e_op o_add (e_lst (as_cons e_bl (as_cons e_bl (as_cons e_bl (as_cons e_bl (as_cons e_bl (as_cons e_bl as_nil))))))) (e_op o_mulX (e_lst (as_cons e_bl as_nil)) e_int)) (by rfl)) (w_or1 (t_cmp (o_neX (un64 hr)) (e_lc (own := [("each", 17)]) (by rfl) sc_law.nd (i_any (e_var (i := 16) (by rfl) (by first | exact Or.inl rfl | exact Or.inr (Or.inl rfl) | exact Or.inr (Or.inr rfl)))) (show BlkOk ["script", "pen", "value", "one", "parts", "stamps", "error", "others", "every", "at", "sorts", "spot", "passed", "paper", "denial", "due", "some", "each"] (defScope (top 37)) _ _ from ⟨rfl, by decide +kernel, by decide +kernel, by decide +kernel, by decide +kernel⟩) (by decide) (fun s H C cl fp => (g_nm (i := 17) sc_law.nd (by rfl) (by first | exact Or.inl rfl | exact Or.inr rfl) (by first | exact Or.inl rfl | exact Or.inr rfl))) (fun s H C cl fp => cl_nil) (fun s H C cl fp => (e_callK (ok_is_name D) (hr.mono (by decide)) (by rfl) (D.glo "is_name" (by decide +kernel)) (by rfl) (as_cons (e_var (i := 17) (by rfl) (by first | exact Or.inl rfl | exact Or.inr (Or.inl rfl) | exact Or.inr (Or.inr rfl))) as_nil)))) (e_op o_add (e_op o_add (e_op o_mulX (e_lst (as_cons e_bl as_nil)) e_int) (e_lst (as_cons e_bl (as_cons e_bl as_nil)))) (e_op o_mulX (e_lst (as_cons e_bl as_nil)) e_int)) (by rfl))))) (l_one (s_ret e_bl)) l_nil) (l_one (s_ret (e_and (e_cmp (o_eqX (un64 hr)) (e_lc (own := [("each", 17)]) (by rfl) sc_law.nd (i_any (e_var (i := 16) (by rfl) (by first | exact Or.inl rfl | exact Or.inr (Or.inl rfl) | exact Or.inr (Or.inr rfl)))) (show BlkOk ["script", "pen", "value", "one", "parts", "stamps", "error", "others", "every", "at", "sorts", "spot", "passed", "paper", "denial", "due", "some", "each"] (defScope (top 37)) _ _ from ⟨rfl, by decide +kernel, by decide +kernel, by decide +kernel, by decide +kernel⟩) (by decide) (fun s H C cl fp => (g_nm (i := 17) sc_law.nd (by rfl) (by first | exact Or.inl rfl | exact Or.inr rfl) (by first | exact Or.inl rfl | exact Or.inr rfl))) (fun s H C cl fp => cl_nil) (fun s H C cl fp => (e_callK (ok_is_stamp D) (hr.mono (by decide)) (by rfl) (D.glo "is_stamp" (by decide +kernel)) (by rfl) (as_cons (e_var (i := 17) (by rfl) (by first | exact Or.inl rfl | exact Or.inr (Or.inl rfl) | exact Or.inr (Or.inr rfl))) as_nil)))) (e_op o_add (e_op o_add (e_op o_mulX (e_lst (as_cons e_bl as_nil)) e_int) (e_lst (as_cons e_bl as_nil))) (e_op o_mulX (e_lst (as_cons e_bl as_nil)) e_int)) (by rfl)) (e_one (e_cmp (o_eqX (un64 hr)) (e_lc (own := [("each", 17)]) (by rfl) sc_law.nd (i_any (e_var (i := 16) (by rfl) (by first | exact Or.inl rfl | exact Or.inr (Or.inl rfl) | exact Or.inr (Or.inr rfl)))) (show BlkOk ["script", "pen", "value", "one", "parts", "stamps", "error", "others", "every", "at", "sorts", "spot", "passed", "paper", "denial", "due", "some", "each"] (defScope (top 37)) _ _ from ⟨rfl, by decide +kernel, by decide +kernel, by decide +kernel, by decide +kernel⟩) (by decide) (fun s H C cl fp => (g_nm (i := 17) sc_law.nd (by rfl) (by first | exact Or.inl rfl | exact Or.inr rfl) (by first | exact Or.inl rfl | exact Or.inr rfl))) (fun s H C cl fp => cl_nil) (fun s H C cl fp => (e_callK (ok_is_part D) (hr.mono (by decide)) (by rfl) (D.glo "is_part" (by decide +kernel)) (by rfl) (as_cons (e_var (i := 17) (by rfl) (by first | exact Or.inl rfl | exact Or.inr (Or.inl rfl) | exact Or.inr (Or.inr rfl))) as_nil)))) (e_op o_add (e_op o_mulX (e_lst (as_cons e_bl as_nil)) e_int) (e_lst (as_cons e_bl (as_cons e_bl (as_cons e_bl (as_cons e_bl (as_cons e_bl (as_cons e_bl (as_cons e_bl (as_cons e_bl (as_cons e_bl as_nil))))))))))) (by rfl)))))))))))))))))))))))))))
end
end L

namespace L
open PySem PySem.Spec PyProof.Rows L2 EV
def bn0 : List PySem.Str := ["LETTERS", "MOST_SIGNS", "is_integer", "is_name", "is_ascending", "is_stamp", "is_part", "fixed", "Paper", "Denial", "CallError", "BadName", "BadNumber", "BadValue", "BadKind", "BadBook", "BadStamp", "BadEntry", "BadLog", "BadPart", "BadText", "NoKind", "NoHand", "NoShape", "NoEntry", "NoCall", "Gap", "Clashing", "Misfit", "TooMany"]
def bn1 : List PySem.Str := ["_law_pen", "_law_draw", "_law_pick"]
def bn : List PySem.Str := bn0 ++ bn1
abbrev Rw : PySem.W.OpenRow := PySem.W.OpenLaw.row PySem.Challenge.rw_lastcall_k14_errors_and_papers_and_what
abbrev hk : PySem.W.Hook := EV.hookE 4 fa fn exB
def ob (s : PySem.W.SharedT) : EV.AlE := EV.obsE 4 fa fn exB (HandSHeadRun.getT s)
theorem ob_eq (s : PySem.W.SharedT) : ob s = hk.obs s.abs := EV.obsE_eq (HandSHeadRun.getT_eq s)
theorem run (w : World) : HandSHeadRun.RunEq Rw (PySem.W.view Rw.prog [37]) hk ob 8000 bn w := by
  intro os
  kernel_rfl
end L

namespace L
open PySem PySem.Spec PyProof.Rows L2 EV
theorem datL_ints (cs : List Int) : datL (cs.map SV.int) = some (cs.map PyData.int) := by
  induction cs with
  | nil => rfl
  | cons c cs ih => simp only [List.map_cons, datL, dat, ih]
theorem lay_ints (cs : List Int) : PyData.canLayAll0 (cs.map PyData.int) = true := by
  induction cs with
  | nil => rfl
  | cons c cs ih => simp only [List.map_cons, PyData.canLayAll0, PyData.canLay0, ih, Bool.and_true]
theorem dep_ints (cs : List Int) : PyData.depthAll (cs.map PyData.int) = 0 := by
  induction cs with
  | nil => rfl
  | cons c cs ih => simp only [List.map_cons, PyData.depthAll, PyData.depth, ih]; rfl
theorem shp_ints (cs : List Int) : SeqAt.shaped (.list (cs.map PyData.int)) = true := by
  unfold SeqAt.shaped
  simp only [PyData.canLay0, lay_ints, PyData.depth, dep_ints]
  rfl
theorem fEq_cons (h : SHp) (c : Int) (cs : List Int) : fEqX true h (.lst ((c :: cs).map SV.int)) (.lst []) = some (.bl true) := by
  have e1 : dat (drf h (.lst ((c :: cs).map SV.int))) = some (.list ((c :: cs).map PyData.int)) := by
    show (datL ((c :: cs).map SV.int)).map PyData.list = _
    rw [datL_ints]; rfl
  unfold fEqX
  rw [e1]
  show (if (SeqAt.shaped (.list ((c :: cs).map PyData.int)) && SeqAt.shaped (.list [])) = true then _ else _) = _
  rw [shp_ints]
  rfl
theorem sSeq_nx {a b : MS} {σ σ' : SSt} {h h' : SHp} (e : a σ h = .nx σ' h') : sSeq a b σ h = b σ' h' := by simp [sSeq, e]
theorem sIf_t {c : M} {a b : MS} {σ : SSt} {h h' : SHp} (e : c σ h = .val (.bl true) h') : sIf c a b σ h = a σ h' := by simp [sIf, e]
theorem sIf_f {c : M} {a b : MS} {σ : SSt} {h h' : SHp} (e : c σ h = .val (.bl false) h') : sIf c a b σ h = b σ h' := by simp [sIf, e]
theorem sSet_v {i : Nat} {m : M} {σ : SSt} {h h' : SHp} {v : SV} (e : m σ h = .val v h') : sSet i m σ h = .nx (setn v i σ) h' := by simp [sSet, bndS, e]
theorem sRet_v {m : M} {σ : SSt} {h h' : SHp} {v : SV} (e : m σ h = .val v h') : sRet m σ h = .rt v h' := by simp [sRet, bndS, e]
theorem mV2_v {f : SHp → SV → SV → Option SV} {a b : M} {σ : SSt} {h h1 h2 : SHp} {x y z : SV} (ea : a σ h = .val x h1) (eb : b σ h1 = .val y h2) (e : f h2 x y = some z) : mV2 f a b σ h = .val z h2 := by simp [mV2, bnd, ofO, ea, eb, e]
theorem mIf_t {c a b : M} {σ : SSt} {h h' : SHp} (e : c σ h = .val (.bl true) h') : mIf c a b σ h = a σ h' := by simp [mIf, e]
theorem mB1_v {F : SHp → List SV → Option SV} {a : M} {σ : SSt} {h h1 : SHp} {x z : SV} (ea : a σ h = .val x h1) (e : F h1 [x] = some z) : mB F [a] σ h = .val z h1 := by simp [mB, argsM, bnd, ofO, ea, e]
theorem fI2_v {C : Int → Int → Bool} {g : Int → Int → Int} {h : SHp} {i j : Int} (e : C i j = true) : fI2 C g h (.int i) (.int j) = some (.int (g i j)) := by simp [fI2, e]
theorem mulX_v {h : SHp} {i j : Int} (e : bMul i j = true) : fMulX h (.int i) (.int j) = some (.int (i * j)) := by simp [fMulX, e]
/-- a drawn digit: what is asked is only its range -/
theorem draw_nil : ∃ d a b, m__law_draw [.ref 0, .int 5] [.lst [.lst [], .int 0, .int 0]] = .val (.int d) [.lst [.lst [], .int a, .int b]] ∧ 0 ≤ d ∧ d < 5 := ⟨_, _, _, rfl, by decide, by decide⟩
theorem mod5 (x : Int) : 0 ≤ x % 5 ∧ x % 5 < 5 := ⟨Int.emod_nonneg _ (by decide), Int.emod_lt_of_pos _ (by decide)⟩
theorem pow5_ok {x : Int} (h0 : 0 ≤ x) (h1 : x < 2 ^ 63) (n : Int) (hn : 0 ≤ n) (hn2 : n ≤ 1000000) : bPow x n = true := by
  unfold bPow
  simp only [Bool.and_eq_true, decide_eq_true_eq]
  exact ⟨⟨hn, hn2⟩, by omega⟩
theorem draw_cons (c : Int) (cs : List Int) : ∃ d a b, m__law_draw [.ref 0, .int 5] [.lst [.lst ((c :: cs).map SV.int), .int 0, .int 0]] = .val (.int d) [.lst [.lst ((c :: cs).map SV.int), .int a, .int b]] ∧ 0 ≤ d ∧ d < 5 := by
  generalize hL : (c :: cs).map SV.int = l
  have hlen : l.length = cs.length + 1 := by rw [← hL]; simp
  have hl0 : l[0]? = some (.int c) := by rw [← hL]; rfl
  have hne : ∀ h, fEqX true h (.lst l) (.lst []) = some (.bl true) := fun h => by rw [← hL]; exact fEq_cons h c cs
  have hat : atI l ((0 : Int) % (l.length : Int)) = some (.int c) := by
    unfold atI ixN
    rw [Int.zero_emod, if_pos (by omega), if_pos (by omega)]
    exact hl0
  have hpos : bPos 0 (l.length : Int) = true := by unfold bPos; rw [decide_eq_true_eq, hlen]; omega
  have hlt : decide ((0 : Int) < (l.length : Int)) = true := by rw [decide_eq_true_eq, hlen]; omega
  have nthu : True := trivial
  show ∃ d a b, trunc 1 (retOf (b__law_draw [.ref 0, .int 5, .un, .un, .un, .un, .un] [.lst [.lst l, .int 0, .int 0]])) = _ ∧ _
  unfold b__law_draw
  rw [sSeq_nx (σ' := [.ref 0, .int 5, .un, .un, .un, .un, .un]) (h' := [.lst [.lst l, .int 0, .int 0]]) (by rfl)]
  rw [sSeq_nx (σ' := [.ref 0, .int 5, .un, .int 0, .un, .un, .un]) (h' := [.lst [.lst l, .int 0, .int 0]]) (by rfl)]
  rw [sSeq_nx (σ' := [.ref 0, .int 5, .un, .int 0, .un, .un, .un]) (h' := [.lst [.lst l, .int 1, .int 0]]) (by rfl)]
  rw [sSeq_nx (σ' := [.ref 0, .int 5, .un, .int 0, .int 4633, .un, .un]) (h' := [.lst [.lst l, .int 1, .int 0]]) (by rfl)]
  have p0 : ∀ σ, (mV2 fIx (mVar 0) (mC (.int 0))) (.ref 0 :: σ) [.lst [.lst l, .int 1, .int 0]] = .val (.lst l) [.lst [.lst l, .int 1, .int 0]] := fun σ => rfl
  have pl : ∀ σ, (mB fLen [mV2 fIx (mVar 0) (mC (.int 0))]) (.ref 0 :: σ) [.lst [.lst l, .int 1, .int 0]] = .val (.int l.length) [.lst [.lst l, .int 1, .int 0]] := fun σ => mB1_v (p0 σ) rfl
  rw [sSeq_nx (σ' := [.ref 0, .int 5, .un, .int 0, .int c, .un, .un]) (h' := [.lst [.lst l, .int 1, .int 0]]) (by
    rw [sIf_t (h' := [.lst [.lst l, .int 1, .int 0]]) (mV2_v (p0 _) rfl (hne _))]
    refine sSet_v ?_
    refine mV2_v (p0 _) (mV2_v (mB1_v rfl rfl) (pl _) (fI2_v hpos)) ?_
    show atI l _ = _
    exact hat)]
  have habs : ∀ (x : Int) (h : SHp), (mB fAbs [mVar 4]) [.ref 0, .int 5, .un, .int 0, .int x, .un, .un] h = .val (.int (if x < 0 then -x else x)) h := fun x h => mB1_v rfl rfl
  have hcond : (mIf (mV2 (fOrd (fun i j => decide (i < j)) ltC) (mVar 3) (mB fLen [mV2 fIx (mVar 0) (mC (.int 0))])) (mV2 (fOrd (fun i j => decide (j ≤ i)) fun a b => !ltC a b) (mB fAbs [mVar 4]) (mV2 (fI2 bPow fun i j => i ^ j.toNat) (mC (.int 10)) (mC (.int 18)))) mFalse) [.ref 0, .int 5, .un, .int 0, .int c, .un, .un] [.lst [.lst l, .int 1, .int 0]] = .val (.bl (decide ((10 : Int) ^ 18 ≤ if c < 0 then -c else c))) [.lst [.lst l, .int 1, .int 0]] := by
    rw [mIf_t (h' := [.lst [.lst l, .int 1, .int 0]]) (mV2_v rfl (pl _) (by show some (SV.bl (decide ((0 : Int) < l.length))) = _; rw [hlt]))]
    exact mV2_v (habs c _) rfl rfl
  by_cases hg : (10 : Int) ^ 18 ≤ if c < 0 then -c else c
  · rw [decide_eq_true hg] at hcond
    have hgv : ∃ g, (mV2 fAdd (mV2 fMulX (mC (.int 2)) (mV2 (fI2 bT fun i j => i - j) (mB fAbs [mVar 4]) (mV2 (fI2 bPow fun i j => i ^ j.toNat) (mC (.int 10)) (mC (.int 18))))) (mB fInt [mV2 (fOrd (fun i j => decide (i < j)) ltC) (mVar 4) (mC (.int 0))])) [.ref 0, .int 5, .un, .int 0, .int c, .un, .un] [.lst [.lst l, .int 1, .int 0]] = .val (.int g) [.lst [.lst l, .int 1, .int 0]] :=
      ⟨2 * ((if c < 0 then -c else c) - (10 : Int) ^ (18 : Int).toNat) + (if decide (c < 0) then 1 else 0), mV2_v (mV2_v rfl (mV2_v (habs c _) rfl (fI2_v rfl)) (mulX_v rfl)) (mB1_v (mV2_v rfl rfl rfl) rfl) rfl⟩
    obtain ⟨g, hgv⟩ := hgv
    have hbr := sSeq_nx (b := sSeq (sSubL (mV2 (fI2 bDiv fun i j => i / j) (mB fInt [mVar 5]) (mVar 1)) (mVar 0) (mC (.int 2))) (sRet (mV2 (fI2 bPos fun i j => i % j) (mB fInt [mVar 5]) (mVar 1)))) (sSet_v (i := 5) hgv)
    refine ⟨g % 5, 1, g / 5, ?_, (mod5 g).1, (mod5 g).2⟩
    have e : ∀ b, sSeq (sIf (mIf (mV2 (fOrd (fun i j => decide (i < j)) ltC) (mVar 3) (mB fLen [mV2 fIx (mVar 0) (mC (.int 0))])) (mV2 (fOrd (fun i j => decide (j ≤ i)) fun a b => !ltC a b) (mB fAbs [mVar 4]) (mV2 (fI2 bPow fun i j => i ^ j.toNat) (mC (.int 10)) (mC (.int 18)))) mFalse) (sSeq (sSet 5 (mV2 fAdd (mV2 fMulX (mC (.int 2)) (mV2 (fI2 bT fun i j => i - j) (mB fAbs [mVar 4]) (mV2 (fI2 bPow fun i j => i ^ j.toNat) (mC (.int 10)) (mC (.int 18))))) (mB fInt [mV2 (fOrd (fun i j => decide (i < j)) ltC) (mVar 4) (mC (.int 0))]))) (sSeq (sSubL (mV2 (fI2 bDiv fun i j => i / j) (mB fInt [mVar 5]) (mVar 1)) (mVar 0) (mC (.int 2))) (sRet (mV2 (fI2 bPos fun i j => i % j) (mB fInt [mVar 5]) (mVar 1))))) (sNil)) b [.ref 0, .int 5, .un, .int 0, .int c, .un, .un] [.lst [.lst l, .int 1, .int 0]] = .rt (.int (g % 5)) [.lst [.lst l, .int 1, .int (g / 5)]] := by
      intro b
      have z : sIf (mIf (mV2 (fOrd (fun i j => decide (i < j)) ltC) (mVar 3) (mB fLen [mV2 fIx (mVar 0) (mC (.int 0))])) (mV2 (fOrd (fun i j => decide (j ≤ i)) fun a b => !ltC a b) (mB fAbs [mVar 4]) (mV2 (fI2 bPow fun i j => i ^ j.toNat) (mC (.int 10)) (mC (.int 18)))) mFalse) (sSeq (sSet 5 (mV2 fAdd (mV2 fMulX (mC (.int 2)) (mV2 (fI2 bT fun i j => i - j) (mB fAbs [mVar 4]) (mV2 (fI2 bPow fun i j => i ^ j.toNat) (mC (.int 10)) (mC (.int 18))))) (mB fInt [mV2 (fOrd (fun i j => decide (i < j)) ltC) (mVar 4) (mC (.int 0))]))) (sSeq (sSubL (mV2 (fI2 bDiv fun i j => i / j) (mB fInt [mVar 5]) (mVar 1)) (mVar 0) (mC (.int 2))) (sRet (mV2 (fI2 bPos fun i j => i % j) (mB fInt [mVar 5]) (mVar 1))))) (sNil) [.ref 0, .int 5, .un, .int 0, .int c, .un, .un] [.lst [.lst l, .int 1, .int 0]] = .rt (.int (g % 5)) [.lst [.lst l, .int 1, .int (g / 5)]] := by
        rw [sIf_t hcond, hbr]
        rfl
      unfold sSeq at z ⊢
      rw [z]
    rw [e]
    rfl
  · rw [decide_eq_false hg] at hcond
    rw [sSeq_nx (σ' := [.ref 0, .int 5, .un, .int 0, .int c, .un, .un]) (h' := [.lst [.lst l, .int 1, .int 0]]) (by rw [sIf_f hcond]; rfl)]
    have hm1 := Int.emod_nonneg c (show (2147483587 : Int) ≠ 0 by decide)
    have hm2 := Int.emod_lt_of_pos c (show (0 : Int) < 2147483587 by decide)
    have v1 : ∃ y : Int, (0 ≤ y ∧ y < 2147483563) ∧ (mV2 (fI2 bPos fun i j => i % j) (mB fInt [mV2 (fI2 bPow fun i j => i ^ j.toNat) (mV2 fAdd (mV2 fAdd (mV2 (fI2 bPos fun i j => i % j) (mB fInt [mVar 4]) (mC (.int 2147483587))) (mV2 fMulX (mC (.int 60545)) (mVar 3))) (mC (.int 2225))) (mC (.int 5))]) (mC (.int 2147483563))) [.ref 0, .int 5, .un, .int 0, .int c, .un, .un] [.lst [.lst l, .int 1, .int 0]] = .val (.int y) [.lst [.lst l, .int 1, .int 0]] := by
      refine ⟨((c % 2147483587 + 60545 * 0 + 2225) ^ (5 : Int).toNat) % 2147483563, ⟨Int.emod_nonneg _ (by decide), Int.emod_lt_of_pos _ (by decide)⟩, ?_⟩
      exact mV2_v (mB1_v (mV2_v (mV2_v (mV2_v (mV2_v (mB1_v rfl rfl) rfl (fI2_v rfl)) rfl rfl) rfl rfl) rfl (fI2_v (pow5_ok (by omega) (by omega) 5 (by decide) (by decide)))) rfl) rfl (fI2_v rfl)
    obtain ⟨y, ⟨hy0, hy1⟩, v1⟩ := v1
    rw [sSeq_nx (sSet_v (i := 6) v1), show setn (SV.int y) 6 [SV.ref 0, SV.int 5, SV.un, SV.int 0, SV.int c, SV.un, SV.un] = [SV.ref 0, SV.int 5, SV.un, SV.int 0, SV.int c, SV.un, SV.int y] from rfl]
    have v2 : ∃ z : Int, (mV2 (fI2 bPos fun i j => i % j) (mB fInt [mV2 (fI2 bPow fun i j => i ^ j.toNat) (mV2 fAdd (mV2 fAdd (mV2 fMulX (mVar 6) (mV2 fAdd (mV2 fMulX (mC (.int 2)) (mVar 3)) (mC (.int 5171)))) (mV2 fMulX (mV2 fMulX (mC (.int 90415)) (mVar 3)) (mVar 3))) (mC (.int 3095))) (mC (.int 3))]) (mC (.int 2147483549))) [.ref 0, .int 5, .un, .int 0, .int c, .un, .int y] [.lst [.lst l, .int 1, .int 0]] = .val (.int z) [.lst [.lst l, .int 1, .int 0]] := by
      refine ⟨((y * (2 * 0 + 5171) + 90415 * 0 * 0 + 3095) ^ (3 : Int).toNat) % 2147483549, ?_⟩
      exact mV2_v (mB1_v (mV2_v (mV2_v (mV2_v (mV2_v rfl rfl (mulX_v (by unfold bMul; rw [Bool.or_eq_true]; right; rfl))) rfl rfl) rfl rfl) rfl (fI2_v (pow5_ok (by omega) (by omega) 3 (by decide) (by decide)))) rfl) rfl (fI2_v rfl)
    obtain ⟨z, v2⟩ := v2
    rw [sSeq_nx (sSet_v (i := 6) v2)]
    refine ⟨(z / 16) % 5, 1, 0, ?_, (mod5 _).1, (mod5 _).2⟩
    rfl
theorem draw (cs : List Int) : ∃ d a b, m__law_draw [.ref 0, .int 5] [.lst [.lst (cs.map SV.int), .int 0, .int 0]] = .val (.int d) [.lst [.lst (cs.map SV.int), .int a, .int b]] ∧ 0 ≤ d ∧ d < 5 := by
  cases cs with
  | nil => exact draw_nil
  | cons c cs => exact draw_cons c cs
theorem pure_ints (cs : List Int) : (cs.map SV.int).all isP = true := by
  rw [List.all_eq_true]
  intro x hx
  obtain ⟨i, _, rfl⟩ := List.mem_map.mp hx
  rfl
theorem cut_ints (cs : List Int) (lo hi : Option Int) : cutL (cs.map SV.int) lo hi = (cutL cs lo hi).map SV.int := by
  unfold cutL
  rw [List.length_map, ← List.map_drop, ← List.map_take]
theorem sl_ints (x : SV) (ns : List Int) (hx : x = .lst (ns.map SV.int) ∨ x = .arg (ns.map SV.int)) (h : SHp) : fSl h x none (some 63) = some (.lst ((cutL ns none (some 63)).map SV.int)) := by
  rcases hx with rfl | rfl
  · show (if ((ns.map SV.int).all isP) = true then some (SV.lst (cutL (ns.map SV.int) none (some 63))) else none) = _
    rw [if_pos (pure_ints ns), cut_ints]
  · show some (SV.lst (cutL (ns.map SV.int) none (some 63))) = _
    rw [cut_ints]
theorem pen (x : SV) (ns : List Int) (hx : x = .lst (ns.map SV.int) ∨ x = .arg (ns.map SV.int)) : m__law_pen [x] [] = .val (.ref 0) [.lst [.lst ((cutL ns none (some 63)).map SV.int), .int 0, .int 0]] := by
  have hv : mVar 0 [x] [] = .val x [] := by rcases hx with rfl | rfl <;> rfl
  have h1 : mSlH (mVar 0) (mC (.int 63)) [x] [] = .val (.lst ((cutL ns none (some 63)).map SV.int)) [] := by
    unfold mSlH bnd
    rw [hv]
    show ofO [] (fSl [] x none (some 63)) = _
    rw [sl_ints x ns hx]
    rfl
  have h2 : mB fLstOf [mSlH (mVar 0) (mC (.int 63))] [x] [] = .val (.lst ((cutL ns none (some 63)).map SV.int)) [] := mB1_v h1 (by
    show (if ((cutL ns none (some 63)).map SV.int).all isP = true then some (SV.lst ((cutL ns none (some 63)).map SV.int)) else none) = _
    rw [if_pos (pure_ints _)])
  show retOf (b__law_pen [x] []) = _
  unfold b__law_pen
  rw [sRet_v (v := .ref 0) (h' := [.lst [.lst ((cutL ns none (some 63)).map SV.int), .int 0, .int 0]])]
  · rfl
  · unfold mLstT argsM bnd
    rw [h2]
    rfl
theorem law_true (x : SV) (ns : List Int) (hx : x = .lst (ns.map SV.int) ∨ x = .arg (ns.map SV.int)) : m_law [x] [] = .val (.bl true) [] := by
  have hv : ∀ σ h, mVar 0 (x :: σ) h = .val x h := by rcases hx with rfl | rfl <;> exact fun _ _ => rfl
  have hp := pen x ns hx
  obtain ⟨d, a, b, hd, h0, h5⟩ := draw (cutL ns none (some 63))
  generalize (cutL ns none (some 63)).map SV.int = l at hp hd
  show trunc 0 (retOf (b_law [x, .un, .un, .un, .un, .un, .un, .un, .un, .un, .un, .un, .un, .un, .un, .un, .un, .un] [])) = _
  unfold b_law
  rw [sSeq_nx (σ' := [x, .ref 0, .un, .un, .un, .un, .un, .un, .un, .un, .un, .un, .un, .un, .un, .un, .un, .un]) (h' := [.lst [.lst l, .int 0, .int 0]]) (by
    refine sSet_v (v := .ref 0) ?_
    unfold mCall argsM bnd
    rw [hv]
    exact hp)]
  have pick : ∀ v : SV, atI [SV.non, .int 3, .str [120], .tup [.int 1, .str [97, 110, 110]], .lst [.int 1]] d = some v → m__law_pick [.ref 0, .lst [SV.non, .int 3, .str [120], .tup [.int 1, .str [97, 110, 110]], .lst [.int 1]]] [.lst [.lst l, .int 0, .int 0]] = trunc 1 (.val v [.lst [.lst l, .int a, .int b]]) := by
    intro v e
    show trunc 1 (retOf (b__law_pick [.ref 0, .lst [SV.non, .int 3, .str [120], .tup [.int 1, .str [97, 110, 110]], .lst [.int 1]]] [.lst [.lst l, .int 0, .int 0]])) = _
    unfold b__law_pick
    rw [sRet_v (v := v) (h' := [.lst [.lst l, .int a, .int b]])]
    · rfl
    · exact mV2_v (x := .lst [SV.non, .int 3, .str [120], .tup [.int 1, .str [97, 110, 110]], .lst [.int 1]]) (y := .int d) rfl (show m__law_draw [.ref 0, .int 5] _ = _ from hd) e
  have pickM : ∀ v : SV, atI [SV.non, .int 3, .str [120], .tup [.int 1, .str [97, 110, 110]], .lst [.int 1]] d = some v → mCall m__law_pick [] [mVar 1, mLst [mC .non, mC (.int 3), mC (.str [120]), mTup [mC (.int 1), mC (.str [97, 110, 110])], mLst [mC (.int 1)]]] [x, .ref 0, .un, .un, .un, .un, .un, .un, .un, .un, .un, .un, .un, .un, .un, .un, .un, .un] [.lst [.lst l, .int 0, .int 0]] = .val v [.lst [.lst l, .int a, .int b]] := by
    intro v e
    show m__law_pick [.ref 0, .lst [SV.non, .int 3, .str [120], .tup [.int 1, .str [97, 110, 110]], .lst [.int 1]]] [.lst [.lst l, .int 0, .int 0]] = _
    rw [pick v e]
    rfl
  have hd5 : d = 0 ∨ d = 1 ∨ d = 2 ∨ d = 3 ∨ d = 4 := by omega
  rcases hd5 with rfl | rfl | rfl | rfl | rfl
  · rw [sSeq_nx (sSet_v (i := 2) (v := .non) (h' := [.lst [.lst l, .int a, .int b]]) (pickM _ rfl))]
    kernel_rfl
  · rw [sSeq_nx (sSet_v (i := 2) (v := .int 3) (h' := [.lst [.lst l, .int a, .int b]]) (pickM _ rfl))]
    kernel_rfl
  · rw [sSeq_nx (sSet_v (i := 2) (v := .str [120]) (h' := [.lst [.lst l, .int a, .int b]]) (pickM _ rfl))]
    kernel_rfl
  · rw [sSeq_nx (sSet_v (i := 2) (v := .tup [.int 1, .str [97, 110, 110]]) (h' := [.lst [.lst l, .int a, .int b]]) (pickM _ rfl))]
    kernel_rfl
  · rw [sSeq_nx (sSet_v (i := 2) (v := .lst [.int 1]) (h' := [.lst [.lst l, .int a, .int b]]) (pickM _ rfl))]
    kernel_rfl
end L

namespace L
open PySem PySem.Spec PyProof.Rows L2 EV
theorem fx {K : PySem.W.Frag} {h : Heap} {mg : Str → Option Value} (X : K.In h) (G : h.Ns mainGlobals mg) (c : He.SaysD fa fn K) (e : exB K = true) : Fx K mg := by
  unfold exB at e
  simp only [Bool.and_eq_true] at e
  obtain ⟨x0, x1, x2, x3, x4, x5, x6, x7, x8, x9, x10, x11, x12, x13⟩ := e
  have mem : ∀ {f : He.Fa}, f ∈ fa → f.ok K = true := fun h => EV.SaysD.fact_ c h
  exact {
    glo := fun x hx => He.glo_ok X G (mem (List.mem_append_left _ (List.mem_map_of_mem hx)))
    free := fun x hx => He.free_ok X G (mem (List.mem_append_right _ (List.mem_append_left _ (List.mem_map_of_mem hx))))
    int_ := fun x i hx => He.int_ok X G (mem (List.mem_append_right _ (List.mem_append_right _ (List.mem_append_left _ (List.mem_map.mpr ⟨(x, i), hx, rfl⟩)))))
    str_ := fun x z hx => He.str_ok X G (mem (List.mem_append_right _ (List.mem_append_right _ (List.mem_append_right _ (List.mem_map.mpr ⟨(x, z), hx, rfl⟩)))))
    d_is_integer := c.def_ 0 (d := dd_is_integer) rfl
    d_is_name := c.def_ 1 (d := dd_is_name) rfl
    d_is_ascending := c.def_ 2 (d := dd_is_ascending) rfl
    d_is_stamp := c.def_ 3 (d := dd_is_stamp) rfl
    d_is_part := c.def_ 4 (d := dd_is_part) rfl
    d_fixed := c.def_ 5 (d := dd_fixed) rfl
    d_Paper_init := c.def_ 6 (d := dd_Paper_init) rfl
    d_Paper_bool := c.def_ 7 (d := dd_Paper_bool) rfl
    d_Paper_eq := c.def_ 8 (d := dd_Paper_eq) rfl
    d_Denial_bool := c.def_ 9 (d := dd_Denial_bool) rfl
    d_BadName_init := c.def_ 10 (d := dd_BadName_init) rfl
    d_BadNumber_init := c.def_ 11 (d := dd_BadNumber_init) rfl
    d_BadValue_init := c.def_ 12 (d := dd_BadValue_init) rfl
    d_BadKind_init := c.def_ 13 (d := dd_BadKind_init) rfl
    d_BadBook_init := c.def_ 14 (d := dd_BadBook_init) rfl
    d_BadStamp_init := c.def_ 15 (d := dd_BadStamp_init) rfl
    d_BadEntry_init := c.def_ 16 (d := dd_BadEntry_init) rfl
    d_BadLog_init := c.def_ 17 (d := dd_BadLog_init) rfl
    d_BadPart_init := c.def_ 18 (d := dd_BadPart_init) rfl
    d_BadText_init := c.def_ 19 (d := dd_BadText_init) rfl
    d_NoKind_init := c.def_ 20 (d := dd_NoKind_init) rfl
    d_NoHand_init := c.def_ 21 (d := dd_NoHand_init) rfl
    d_NoShape_init := c.def_ 22 (d := dd_NoShape_init) rfl
    d_NoEntry_init := c.def_ 23 (d := dd_NoEntry_init) rfl
    d_NoCall_init := c.def_ 24 (d := dd_NoCall_init) rfl
    d_Gap_init := c.def_ 25 (d := dd_Gap_init) rfl
    d_Clashing_init := c.def_ 26 (d := dd_Clashing_init) rfl
    d_Misfit_init := c.def_ 27 (d := dd_Misfit_init) rfl
    d_TooMany_init := c.def_ 28 (d := dd_TooMany_init) rfl
    d__law_pen := c.def_ 29 (d := dd__law_pen) rfl
    d__law_draw := c.def_ 30 (d := dd__law_draw) rfl
    d__law_pick := c.def_ 31 (d := dd__law_pick) rfl
    d_law := c.def_ 32 (d := dd_law) rfl
    isi := isi_all (as := asL) (bs := bsL) (cL := insL) (xL := xlL) (fun a b r h => by
      unfold isiF at h
      split at h
      · rename_i q
        simp only [Bool.and_eq_true] at q
        exact ⟨List.contains_iff_mem.mp q.1, List.contains_iff_mem.mp q.2⟩
      · cases h) (fun C h => List.contains_iff_mem.mp h) (fun C h => List.contains_iff_mem.mp h) x0 x1 x2
    xc := fun C hC => xcB_ok (List.all_eq_true.mp x3 C hC)
    xf := fun p hp C hC => ⟨excB_ok (List.all_eq_true.mp x2 C (List.contains_iff_mem.mp (List.all_eq_true.mp (List.all_eq_true.mp (show (xfT.all fun p => p.2.all fun C => xlL.contains C) = true by decide +kernel) p hp) C hC))), of_decide_eq_true (List.all_eq_true.mp (List.all_eq_true.mp x4 p hp) C hC)⟩
    xn := fun p hp => of_decide_eq_true (List.all_eq_true.mp x5 p hp)
    fld := fun f hf C hC => ⟨(insB_ok (List.all_eq_true.mp x1 C hC)).cl, of_decide_eq_true (p := PySem.W.findIn K (.ref (Gk K C)) f = some none) (List.all_eq_true.mp (List.all_eq_true.mp x6 f hf) C hC)⟩
    mk_Paper := mkB_ok x7
    mk_Denial := mkB_ok x8
    eqok := eqB_ok x9
    boolF_Paper := by
      have z := x10
      unfold ex10 at z
      simp only [Bool.and_eq_true, decide_eq_true_eq] at z
      exact z
    boolF_Denial := by
      have z := x11
      unfold ex11 at z
      simp only [Bool.and_eq_true, decide_eq_true_eq] at z
      exact z
    cn := fun C n h => by
      unfold nmF at h
      split at h
      · cases h; exact cnB_ok x12
      · cases h; exact cnB_ok x13
      · cases h }
theorem ints_rel {K : KG} {H : Hp} (T : Addr → Prop) : ∀ ns : List Int, RPs K T H (ns.map SV.int) (ns.map V.int)
  | [] => .nil
  | n :: ns => .cons (.int n) (ints_rel T ns)
theorem sp_law {K : PySem.W.Frag} {G : Nat → Addr} (H : Hp) (a : Addr) (ns : List Int) (hS : SqL K H a (ns.map V.int)) : spOf ⟨K, G⟩ 1 m_law [.ref a] H (fun v _ => v = .bl true) fun _ _ _ => False := by
  have ri : ∀ (T : Addr → Prop), RPs ⟨K, G⟩ T H (ns.map SV.int) (ns.map V.int) := by
    intro T
    exact ints_rel T ns
  have key : ∀ x : SV, (x = .lst (ns.map SV.int) ∨ x = .arg (ns.map SV.int)) → RS ⟨K, G⟩ (fun _ => 0) 0 H x (.ref a) → spOf ⟨K, G⟩ 1 m_law [.ref a] H (fun v _ => v = .bl true) fun _ _ _ => False := by
    intro x hx r
    refine ⟨rfl, fun _ => 0, [], [x], ⟨fun i j hi => absurd hi (Nat.not_lt_zero i), fun i o e => by simp at e⟩, .cons r .nil, ?_⟩
    rw [law_true x ns hx]
    exact fun μ' H' V' f S r => r.bl_
  rcases hS with h | h
  · exact key _ (.inl rfl) (.of (.lst h (fun ⟨i, hi, _⟩ => absurd hi (Nat.not_lt_zero i)) (ri _)))
  · exact key _ (.inr rfl) (.of (.arg (fun _ => .inr h) (ri _)))
end L
open PySem PySem.W PySem.Calls PyProof.Rows
theorem PySem.Challenge.cw_lastcall_k14_errors_and_papers_and_what_holds : PySem.Challenge.rw_lastcall_k14_errors_and_papers_and_what.Holds := by
  w_on; o_law
  refine HandSHeadRun.head_any (r := OpenLaw.row PySem.Challenge.rw_lastcall_k14_errors_and_papers_and_what) (q := view (OpenLaw.row PySem.Challenge.rw_lastcall_k14_errors_and_papers_and_what).prog [37]) (H := L.hk) (ob := L.ob) (M := 8000) (loose := L.bn) (d := HandSHeadRun.topDef (OpenLaw.row PySem.Challenge.rw_lastcall_k14_errors_and_papers_and_what).prog 37) (kwd := []) L.ob_eq
    (by kernel_rfl) (fun s => by kernel_rfl) L.run (by kernel_rfl) (by kernel_rfl) (by kernel_rfl) (by rfl) (by first | assumption | decide +kernel) (by decide +kernel) ⟨rfl, rfl, rfl, rfl, rfl, by decide +kernel⟩ ?hw ?hc
  case hw => w_witness2
  case hc =>
    refine L2.walk_ofE (l := PySem.Challenge.rw_lastcall_k14_errors_and_papers_and_what) (n := 63) (k := 11) (x := "script") (CX := fun _ _ _ _ _ _ => False) rfl (by decide) (by kernel_rfl) ⟨rfl, by decide, by decide⟩ ?F (fun _ _ _ _ z => z)
    intro w mg fa h Y G hmg0
    obtain ⟨K, KX, c, ex⟩ := Y
    have hmg : mg ("law" : PySem.Str) = some (.ref fa) := by
      have e : (HandSHeadRun.topDef (OpenLaw.row PySem.Challenge.rw_lastcall_k14_errors_and_papers_and_what).prog 37).name = ("law" : PySem.Str) := by kernel_rfl
      rw [← e]
      exact hmg0
    have D := L.fx KX G c ex
    obtain ⟨fd, F⟩ := D.d_law
    have eg := hmg.symm.trans (D.glo "law" (by decide +kernel))
    cases eg
    have b := L2.FunD.bindsA (ps := ["script"]) F fun _ _ _ _ _ _ us hl => match us, hl with | [_], _ => rfl
    exact ⟨K, fd, (fun vs H Q _ => EV.spOf ⟨K, L.Gk K⟩ 1 L.m_law vs H Q fun _ _ _ => False), KX, fun s v => b s [v] rfl, fun H a ns _ _ hS => L.sp_law H a ns hS, fun base _ _ => EV.FnS.calm (L.fs_law D F)⟩
