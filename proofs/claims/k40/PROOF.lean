import PyProof.Rows.All
import Wide.All
import OpenK.AllK
import Wide.FinOn
import HandS.ForMost
import HandS.Exc
import HandS.ExcOwn
import HandS.WordsExc
import HandS.TupAny
import HandS.TupMul
import HandS.Walk
import HandS.NoneIn
import HandS.Zip
import HandS.SortRule
import HandS.SortInts
import HandS.Conv
import HandS.IsInst
import HandS.More
import HandS.Style
import KE.GoesMore
import KE.KTupSum
import HandS.Small
import HandS.ExcInit
import HandS.ExcIs
import HandS.ExcField
import KE.KExcIs
import HandS.SetFor
import PySem.Challenge.RW_blindslots_k40_whole_orders_counted
set_option Elab.async false
set_option linter.all false
set_option maxRecDepth 100000
set_option maxHeartbeats 4000000
/-! SY: a symbolic state over the hand layer: slots hold data, the heap stays behind footprints. -/
namespace SY
open PySem L2

/-! ### footprints -/
abbrev FP := Addr → Prop
def fE : FP := fun _ => False
def fS (a : Addr) : FP := fun b => b = a
def fU (f g : FP) : FP := fun b => f b ∨ g b
def Dis (f g : FP) : Prop := ∀ b, f b → ¬ g b
theorem Dis.symm {f g : FP} (h : Dis f g) : Dis g f := fun b x y => h b y x
theorem dis_e (g : FP) : Dis fE g := fun _ h _ => h
theorem dis_e' (g : FP) : Dis g fE := fun _ _ h => h
theorem fU_e (f : FP) : fU fE f = f := by funext b; exact propext ⟨fun h => h.elim (fun z => z.elim) id, .inr⟩
theorem fU_e' (f : FP) : fU f fE = f := by funext b; exact propext ⟨fun h => h.elim id (fun z => z.elim), .inl⟩
theorem fU_assoc (f g h : FP) : fU (fU f g) h = fU f (fU g h) := by funext b; exact propext or_assoc
theorem fU_comm (f g : FP) : fU f g = fU g f := by funext b; exact propext or_comm
theorem fU_left (f g h : FP) : fU f (fU g h) = fU g (fU f h) := by funext b; exact propext or_left_comm
theorem dis_u {f g h : FP} : Dis (fU f g) h ↔ Dis f h ∧ Dis g h := ⟨fun q => ⟨fun b x => q b (.inl x), fun b x => q b (.inr x)⟩, fun ⟨p, q⟩ b x => x.elim (p b) (q b)⟩
theorem dis_u' {f g h : FP} : Dis h (fU f g) ↔ Dis h f ∧ Dis h g := ⟨fun q => ⟨fun b x y => q b x (.inl y), fun b x y => q b x (.inr y)⟩, fun ⟨p, q⟩ b x y => y.elim (p b x) (q b x)⟩

/-! ### the data -/
/-- what was tracked and is not in g is kept; tuples and frozen things are kept -/
structure Keep (g : FP) (H H' : Hp) : Prop where
  k : ∀ b o, H b = some o → ¬ g b → H' b = some o
  t : ∀ b xs, H b = some (.tup xs) → H' b = some (.tup xs)
  z : ∀ b o u, H b = some (.frz o u) → H' b = some (.frz o u)
theorem Keep.refl {g : FP} {H : Hp} : Keep g H H := ⟨fun _ _ h _ => h, fun _ _ h => h, fun _ _ _ h => h⟩
theorem Keep.mono {g g' : FP} {H H' : Hp} (a : Keep g H H') (h : ∀ b, g b → g' b) : Keep g' H H' :=
  ⟨fun c o q n => a.k c o q fun z => n (h c z), a.t, a.z⟩
/-- fresh over H0 or in g -/
def Own (g : FP) (H0 : Hp) (f : FP) : Prop := ∀ b, f b → g b ∨ H0 b = none
theorem Keep.own {g f : FP} {H0 H : Hp} (a : Keep g H0 H) (o : Own g H0 f) {H' : Hp} (s : Keep f H H') : Keep g H0 H' :=
  ⟨fun b u e n => s.k b u (a.k b u e n) fun z => (o b z).elim n fun q => (by rw [e] at q; cases q), fun b xs e => s.t b xs (a.t b xs e), fun b x u e => s.z b x u (a.z b x u e)⟩
theorem Own.trans {g f f' : FP} {H0 H : Hp} (a : Keep g H0 H) (o : Own g H0 f) (h : Own f H f') : Own g H0 f' := fun b z => by
  rcases h b z with q | q
  · exact o b q
  · cases e : H0 b with
    | none => exact .inr rfl
    | some u =>
      refine .inl (Classical.byContradiction fun n => ?_)
      rw [a.k b u e n] at q; cases q
theorem Own.u {g f f' : FP} {H0 : Hp} (a : Own g H0 f) (b : Own g H0 f') : Own g H0 (fU f f') := fun c z => z.elim (a c) (b c)
theorem Own.e {g : FP} {H0 : Hp} : Own g H0 fE := fun _ z => z.elim
theorem Own.left {g f f' : FP} {H0 : Hp} (a : Own g H0 (fU f f')) : Own g H0 f := fun c z => a c (.inl z)
theorem Own.right {g f f' : FP} {H0 : Hp} (a : Own g H0 (fU f f')) : Own g H0 f' := fun c z => a c (.inr z)
theorem Keep.new {g : FP} {H : Hp} {p : Addr} {o : HO} (h : H p = none) : Keep g H (upd H p o) :=
  ⟨fun b u e _ => by rw [upd_ne (ne_of_none e h)]; exact e, fun b u e => by rw [upd_ne (ne_of_none e h)]; exact e, fun b u v e => by rw [upd_ne (ne_of_none e h)]; exact e⟩
/-- things that change -/
def mutH : Option HO → Bool
  | some (.tup _) => false
  | some (.frz _ _) => false
  | _ => true
theorem Keep.put {g : FP} {H : Hp} {p : Addr} {o : HO} (hp : g p) (m : mutH (H p) = true) : Keep g H (upd H p o) :=
  ⟨fun b u e n => by rw [upd_ne (fun z => n (by rw [z]; exact hp))]; exact e,
   fun b u e => by rw [upd_ne (fun z => by rw [← z, e] at m; cases m)]; exact e,
   fun b u v e => by rw [upd_ne (fun z => by rw [← z, e] at m; cases m)]; exact e⟩
theorem Keep.of_ex {g : FP} {H H' : Hp} (h : ∀ b o, H b = some o → H' b = some o) : Keep g H H' := ⟨fun b o e _ => h b o e, fun b _ e => h b _ e, fun b _ _ e => h b _ e⟩

/-- a thing told by what is true of it: P (its value, heap, its objects) -/
structure Asrt where
  P : V → Hp → FP → Prop
  st : ∀ {v : V} {H H' : Hp} {f g : FP}, P v H f → Keep g H H' → Dis f g → P v H' f
  th : ∀ {v : V} {H : Hp} {f : FP}, P v H f → ∀ b, f b → ∃ u, H b = some u

inductive M where
  | non | bl (b : Bool) | int (i : Int) | str (x : Str)
  | tup (xs : List M) (k : Bool := true)
  | lst (xs : List M)
  | dk (ks : List Key) (xs : List M)
  | dt (ks : List (List Key)) (xs : List M)
  | ro (xs : List M)
  | raw (v : V)
  | obj (A : Asrt)

/-- a list that is read only: frozen, or a constant -/
def RoL (K : PySem.W.Frag) (H : Hp) (a : Addr) (vs : List V) : Prop :=
  (∃ o, H a = some (.frz o (.lst vs))) ∨
    ∃ (o : Obj) (its : Array Value) (n : Nat), K.lookup a = some o ∧ o.cls = .type "list" ∧ o.dict = none ∧ o.data = .seq its n ∧ its.size ≤ sizeLine ∧ Vals vs its.toList

/-- a tuple: ours (k) | ours, or of the text -/
def TupAt (K : PySem.W.Frag) (H : Hp) (a : Addr) (vs : List V) (k : Bool) : Prop := H a = some (.tup vs) ∨ (k = false ∧ SqT K H a vs)

mutual
inductive RM (K : PySem.W.Frag) (H : Hp) : V → M → FP → Prop
  | non : RM K H .non .non fE
  | bl (b : Bool) : RM K H (.bl b) (.bl b) fE
  | int (i : Int) : RM K H (.int i) (.int i) fE
  | str (x : Str) : RM K H (.str x) (.str x) fE
  | tup {a : Addr} {vs : List V} {ms : List M} {k : Bool} {f : FP} : TupAt K H a vs k → RMs K H vs ms f → RM K H (.ref a) (.tup ms k) f
  | lst {a : Addr} {vs : List V} {ms : List M} {f : FP} : H a = some (.lst vs) → RMs K H vs ms f → ¬ f a → RM K H (.ref a) (.lst ms) (fU (fS a) f)
  | dk {a : Addr} {kvs : List (Key × V)} {ks : List Key} {ms : List M} {f : FP} : H a = some (.dK kvs) → kvs.map (·.1) = ks → RMs K H (kvs.map (·.2)) ms f → ¬ f a → RM K H (.ref a) (.dk ks ms) (fU (fS a) f)
  | dt {a : Addr} {kvs : List (List Key × V)} {ks : List (List Key)} {ms : List M} {f : FP} : H a = some (.dT kvs) → kvs.map (·.1) = ks → RMs K H (kvs.map (·.2)) ms f → ¬ f a → RM K H (.ref a) (.dt ks ms) (fU (fS a) f)
  | ro {a : Addr} {vs : List V} {ms : List M} : RoL K H a vs → RMs K H vs ms fE → RM K H (.ref a) (.ro ms) fE
  | raw (v : V) : RM K H v (.raw v) fE
  | obj {A : Asrt} {v : V} {f : FP} : A.P v H f → RM K H v (.obj A) f
inductive RMs (K : PySem.W.Frag) (H : Hp) : List V → List M → FP → Prop
  | nil : RMs K H [] [] fE
  | cons {v : V} {vs : List V} {m : M} {ms : List M} {f g : FP} : RM K H v m f → RMs K H vs ms g → Dis f g → RMs K H (v :: vs) (m :: ms) (fU f g)
end

section
variable {K : PySem.W.Frag} {H H' : Hp} {g : FP}
theorem RoL.keep {a : Addr} {vs : List V} (s : Keep g H H') (h : RoL K H a vs) : RoL K H' a vs := by
  rcases h with ⟨o, h⟩ | h
  · exact .inl ⟨o, s.z _ _ _ h⟩
  · exact .inr h
theorem RoL.sq {a : Addr} {vs : List V} (h : RoL K H a vs) : SqL K H a vs := by
  rcases h with ⟨o, h⟩ | h
  · exact .inl (.inr ⟨o, h⟩)
  · exact .inr h
theorem sqT_keep {a : Addr} {vs : List V} (s : Keep g H H') (h : SqT K H a vs) : SqT K H' a vs := by
  rcases h with (h | ⟨o, h⟩) | h
  · exact .inl (.inl (s.t _ _ h))
  · exact .inl (.inr ⟨o, s.z _ _ _ h⟩)
  · exact .inr h
theorem TupAt.keep {a : Addr} {vs : List V} {k : Bool} (s : Keep g H H') (h : TupAt K H a vs k) : TupAt K H' a vs k := h.imp (s.t _ _) fun ⟨z, q⟩ => ⟨z, sqT_keep s q⟩
theorem TupAt.sq {a : Addr} {vs : List V} {k : Bool} (h : TupAt K H a vs k) : SqT K H a vs := h.elim SqT.of And.right
theorem TupAt.weak {a : Addr} {vs : List V} {k k' : Bool} (h : TupAt K H a vs k) (hk : k' = true → k = true) : TupAt K H a vs k' := by
  rcases h with h | ⟨z, h⟩
  · exact .inl h
  · cases k' with
    | false => exact .inr ⟨rfl, h⟩
    | true => rw [hk rfl] at z; cases z
theorem TupAt.own {a : Addr} {vs : List V} (h : TupAt K H a vs true) : H a = some (.tup vs) := h.elim id fun z => nomatch z.1
mutual
theorem RM.frame (s : Keep g H H') : ∀ (m : M) {v : V} {f : FP}, RM K H v m f → Dis f g → RM K H' v m f
  | .non, _, _, h, _ => by cases h; exact .non
  | .bl b, _, _, h, _ => by cases h; exact .bl b
  | .int b, _, _, h, _ => by cases h; exact .int b
  | .str b, _, _, h, _ => by cases h; exact .str b
  | .raw b, _, _, h, _ => by cases h; exact .raw b
  | .tup ms k, _, _, h, n => by
    cases h with
    | tup hq hr => exact .tup (hq.keep s) (RMs.frame s ms hr n)
  | .lst ms, _, _, h, n => by
    cases h with
    | lst hq hr ha => exact .lst (s.k _ _ hq (n _ (.inl rfl))) (RMs.frame s ms hr fun b hb => n b (.inr hb)) ha
  | .dk ks ms, _, _, h, n => by
    cases h with
    | dk hq he hr ha => exact .dk (s.k _ _ hq (n _ (.inl rfl))) he (RMs.frame s ms hr fun b hb => n b (.inr hb)) ha
  | .dt ks ms, _, _, h, n => by
    cases h with
    | dt hq he hr ha => exact .dt (s.k _ _ hq (n _ (.inl rfl))) he (RMs.frame s ms hr fun b hb => n b (.inr hb)) ha
  | .ro ms, _, _, h, n => by
    cases h with
    | ro hq hr => exact .ro (hq.keep s) (RMs.frame s ms hr (dis_e _))
  | .obj A, _, _, h, n => by
    cases h with
    | obj hq => exact .obj (A.st hq s n)
theorem RMs.frame (s : Keep g H H') : ∀ (ms : List M) {vs : List V} {f : FP}, RMs K H vs ms f → Dis f g → RMs K H' vs ms f
  | [], _, _, h, _ => by cases h; exact .nil
  | m :: ms, _, _, h, n => by
    cases h with
    | cons h1 h2 hd => exact .cons (RM.frame s m h1 fun b hb => n b (.inl hb)) (RMs.frame s ms h2 fun b hb => n b (.inr hb)) hd
end
mutual
theorem RM.there : ∀ (m : M) {v : V} {f : FP}, RM K H v m f → ∀ b, f b → ∃ u, H b = some u
  | .non, _, _, h, b, z => by cases h; exact z.elim
  | .bl _, _, _, h, b, z => by cases h; exact z.elim
  | .int _, _, _, h, b, z => by cases h; exact z.elim
  | .str _, _, _, h, b, z => by cases h; exact z.elim
  | .raw _, _, _, h, b, z => by cases h; exact z.elim
  | .ro _, _, _, h, b, z => by cases h; exact z.elim
  | .tup ms k, _, _, h, b, z => by
    cases h with
    | tup hq hr => exact RMs.there ms hr b z
  | .lst ms, _, _, h, b, z => by
    cases h with
    | lst hq hr ha => exact z.elim (fun y => ⟨_, by rw [show b = _ from y]; exact hq⟩) (RMs.there ms hr b)
  | .dk ks ms, _, _, h, b, z => by
    cases h with
    | dk hq he hr ha => exact z.elim (fun y => ⟨_, by rw [show b = _ from y]; exact hq⟩) (RMs.there ms hr b)
  | .dt ks ms, _, _, h, b, z => by
    cases h with
    | dt hq he hr ha => exact z.elim (fun y => ⟨_, by rw [show b = _ from y]; exact hq⟩) (RMs.there ms hr b)
  | .obj A, _, _, h, b, z => by
    cases h with
    | obj hq => exact A.th hq b z
theorem RMs.there : ∀ (ms : List M) {vs : List V} {f : FP}, RMs K H vs ms f → ∀ b, f b → ∃ u, H b = some u
  | [], _, _, h, b, z => by cases h; exact z.elim
  | m :: ms, _, _, h, b, z => by
    cases h with
    | cons h1 h2 hd => exact z.elim (RM.there m h1 b) (RMs.there ms h2 b)
end
theorem RMs.length {vs : List V} : ∀ {ms : List M} {f : FP}, RMs K H vs ms f → vs.length = ms.length := fun {ms f} h => by
  induction ms generalizing vs f with
  | nil => cases h; rfl
  | cons m ms ih =>
    cases h with
    | cons h1 h2 _ => rw [List.length_cons, List.length_cons, ih h2]
/-- a part of a list of things -/
theorem RMs.get : ∀ {ms : List M} {vs : List V} {f : FP}, RMs K H vs ms f → ∀ {i : Nat} {m : M}, ms[i]? = some m → ∃ v f', vs[i]? = some v ∧ RM K H v m f' ∧ (∀ b, f' b → f b)
  | [], _, _, _, _, _, e => by simp at e
  | m :: ms, _, _, h, i, m', e => by
    cases h with
    | cons h1 h2 hd =>
      cases i with
      | zero => simp at e; subst e; exact ⟨_, _, rfl, h1, fun _ z => .inl z⟩
      | succ i =>
        obtain ⟨v, f', q1, q2, q3⟩ := RMs.get h2 (i := i) (by simpa using e)
        exact ⟨v, f', by simpa using q1, q2, fun b z => .inr (q3 b z)⟩
theorem RMs.append : ∀ {ms ms' : List M} {vs vs' : List V} {f f' : FP}, RMs K H vs ms f → RMs K H vs' ms' f' → Dis f f' → RMs K H (vs ++ vs') (ms ++ ms') (fU f f')
  | [], _, _, _, _, _, h, h', d => by cases h; rw [fU_e]; exact h'
  | m :: ms, ms', _, vs', _, f', h, h', d => by
    cases h with
    | cons h1 h2 hd =>
      rw [fU_assoc]
      exact .cons h1 (RMs.append h2 h' fun b z => d b (.inr z)) (dis_u'.mpr ⟨hd, fun b z => d b (.inl z)⟩)
mutual
def M.imm : M → Bool
  | .non => true | .bl _ => true | .int _ => true | .str _ => true | .raw _ => true | .ro _ => true
  | .tup xs _ => M.imms xs
  | .lst _ => false | .dk _ _ => false | .dt _ _ => false | .obj _ => false
def M.imms : List M → Bool
  | [] => true
  | m :: ms => m.imm && M.imms ms
end
theorem M.imms_iff : ∀ {ms : List M}, M.imms ms = true ↔ ∀ m ∈ ms, m.imm = true
  | [] => by simp [M.imms]
  | m :: ms => by simp [M.imms, M.imms_iff]
mutual
theorem RM.imm : ∀ (m : M) {v : V} {f : FP}, RM K H v m f → m.imm = true → f = fE
  | .non, _, _, h, _ => by cases h; rfl
  | .bl _, _, _, h, _ => by cases h; rfl
  | .int _, _, _, h, _ => by cases h; rfl
  | .str _, _, _, h, _ => by cases h; rfl
  | .raw _, _, _, h, _ => by cases h; rfl
  | .ro _, _, _, h, _ => by cases h; rfl
  | .tup ms k, _, _, h, i => by
    cases h with
    | tup hq hr => exact RMs.imms ms hr (by simpa [M.imm] using i)
  | .lst _, _, _, _, i => by simp [M.imm] at i
  | .dk _ _, _, _, _, i => by simp [M.imm] at i
  | .dt _ _, _, _, _, i => by simp [M.imm] at i
  | .obj _, _, _, _, i => by simp [M.imm] at i
theorem RMs.imms : ∀ (ms : List M) {vs : List V} {f : FP}, RMs K H vs ms f → M.imms ms = true → f = fE
  | [], _, _, h, _ => by cases h; rfl
  | m :: ms, _, _, h, i => by
    cases h with
    | cons h1 h2 _ =>
      have i' : m.imm = true ∧ M.imms ms = true := by simpa [M.imms] using i
      rw [RM.imm m h1 i'.1, RMs.imms ms h2 i'.2, fU_e]
end
end

/-! ### slots and pending values -/
/-- a slot: unknown | holds m | holds the i-th argument, which is m by now -/
inductive Slot where
  | un | v (m : M) | a (i : Nat) (m : M)
/-- a pending value: its own thing | what slot i holds -/
inductive Tm where
  | o (m : M) | b (i : Nat)
abbrev Ev := List Slot
def Slot.m? : Slot → Option M
  | .un => none
  | .v m => some m
  | .a _ m => some m
def Slot.put : Slot → M → Slot
  | .un, _ => .un
  | .v _, m => .v m
  | .a i _, m => .a i m
/-- what the value in a slot must be -/
def Slot.arg (av : List V) (v : V) : Slot → Prop
  | .a i _ => av[i]? = some v
  | _ => True
theorem Slot.arg_put {av : List V} {v : V} {s : Slot} {m : M} (h : s.arg av v) : (s.put m).arg av v := by
  cases s <;> first | trivial | exact h
theorem Slot.m_put {s : Slot} {m m' : M} (h : s.m? = some m) : (s.put m').m? = some m' := by
  cases s <;> first | rfl | cases h

inductive ER (K : PySem.W.Frag) (H : Hp) (av : List V) : St → Ev → FP → Prop
  | nil : ER K H av [] [] fE
  | un {x : Option V} {σ : St} {e : Ev} {g : FP} : ER K H av σ e g → ER K H av (x :: σ) (.un :: e) g
  | s {v : V} {s : Slot} {m : M} {σ : St} {e : Ev} {f g : FP} : s.m? = some m → s.arg av v → RM K H v m f → ER K H av σ e g → Dis f g → ER K H av (some v :: σ) (s :: e) (fU f g)
inductive TR (K : PySem.W.Frag) (H : Hp) (σ : St) : List V → List Tm → FP → Prop
  | nil : TR K H σ [] [] fE
  | o {v : V} {m : M} {vs : List V} {ts : List Tm} {f g : FP} : RM K H v m f → TR K H σ vs ts g → Dis f g → TR K H σ (v :: vs) (.o m :: ts) (fU f g)
  | b {v : V} {i : Nat} {vs : List V} {ts : List Tm} {g : FP} : σ[i]? = some (some v) → TR K H σ vs ts g → TR K H σ (v :: vs) (.b i :: ts) g

section
variable {K : PySem.W.Frag} {H H' : Hp} {g : FP} {av : List V}
theorem ER.frame (s : Keep g H H') {σ : St} {e : Ev} {f : FP} (h : ER K H av σ e f) : Dis f g → ER K H' av σ e f := by
  induction h with
  | nil => exact fun _ => .nil
  | un _ ih => exact fun n => .un (ih n)
  | s h0 h1 h2 _ hd ih => exact fun n => .s h0 h1 (RM.frame s _ h2 (dis_u.mp n).1) (ih (dis_u.mp n).2) hd
theorem TR.frame (s : Keep g H H') {σ : St} {vs : List V} {ts : List Tm} {f : FP} (h : TR K H σ vs ts f) : Dis f g → TR K H' σ vs ts f := by
  induction h with
  | nil => exact fun _ => .nil
  | o h1 _ hd ih => exact fun n => .o (RM.frame s _ h1 (dis_u.mp n).1) (ih (dis_u.mp n).2) hd
  | b h0 _ ih => exact fun n => .b h0 (ih n)
theorem ER.there {σ : St} {e : Ev} {f : FP} (h : ER K H av σ e f) : ∀ b, f b → ∃ u, H b = some u := by
  induction h with
  | nil => intro b z; exact z.elim
  | un _ ih => exact ih
  | s h0 h1 h2 _ hd ih => intro b z; exact z.elim (RM.there _ h2 b) (ih b)
theorem TR.there {σ : St} {vs : List V} {ts : List Tm} {f : FP} (h : TR K H σ vs ts f) : ∀ b, f b → ∃ u, H b = some u := by
  induction h with
  | nil => intro b z; exact z.elim
  | o h1 _ hd ih => intro b z; exact z.elim (RM.there _ h1 b) (ih b)
  | b h0 _ ih => exact ih
theorem ER.length {σ : St} {e : Ev} {f : FP} (h : ER K H av σ e f) : σ.length = e.length := by
  induction h with
  | nil => rfl
  | un _ ih => rw [List.length_cons, List.length_cons, ih]
  | s _ _ _ _ _ ih => rw [List.length_cons, List.length_cons, ih]
/-- slot i is taken out -/
theorem ER.take {σ : St} {e : Ev} {f : FP} (h : ER K H av σ e f) : ∀ {i : Nat} {s : Slot} {m : M}, e[i]? = some s → s.m? = some m →
    ∃ v f1 f2, f = fU f1 f2 ∧ Dis f1 f2 ∧ σ[i]? = some (some v) ∧ s.arg av v ∧ RM K H v m f1 ∧ ER K H av σ (e.set i .un) f2 := by
  induction h with
  | nil => intro i s m h1; simp at h1
  | un h0 ih =>
    intro i s m h1 h2
    cases i with
    | zero => simp at h1; subst h1; cases h2
    | succ i =>
      obtain ⟨v, f1, f2, q0, q1, q2, q3, q4, q5⟩ := ih (i := i) (by simpa using h1) h2
      exact ⟨v, f1, f2, q0, q1, by simpa using q2, q3, q4, .un q5⟩
  | @s v0 s0 m0 σ0 e0 f0 g0 a0 a1 h0 h1 hd ih =>
    intro i s m h2 h3
    cases i with
    | zero =>
      simp at h2; subst h2
      rw [a0] at h3; cases h3
      exact ⟨v0, f0, g0, rfl, hd, rfl, a1, h0, .un h1⟩
    | succ i =>
      obtain ⟨v, f1, f2, q0, q1, q2, q3, q4, q5⟩ := ih (i := i) (by simpa using h2) h3
      subst q0
      obtain ⟨d1, d2⟩ := dis_u'.mp hd
      exact ⟨v, f1, fU f0 f2, fU_left _ _ _, dis_u'.mpr ⟨d1.symm, q1⟩, by simpa using q2, q3, q4, .s a0 a1 h0 q5 d2⟩
/-- slot i is filled -/
theorem ER.fill {σ : St} {e : Ev} {f : FP} (h : ER K H av σ e f) : ∀ {i : Nat} {s : Slot} {m : M} {v : V} {f1 : FP}, e[i]? = some .un → s.m? = some m → σ[i]? = some (some v) → s.arg av v → RM K H v m f1 → Dis f1 f →
    ER K H av σ (e.set i s) (fU f1 f) := by
  induction h with
  | nil => intro i s m v f1 h1; simp at h1
  | un h0 ih =>
    intro i s m v f1 h1 h2 h3 h4 h5 h6
    cases i with
    | zero => simp at h3; subst h3; exact .s h2 h4 h5 h0 h6
    | succ i => exact .un (ih (i := i) (by simpa using h1) h2 (by simpa using h3) h4 h5 h6)
  | @s v0 s0 m0 σ0 e0 f0 g0 a0 a1 h0 h1 hd ih =>
    intro i s m v f1 h1' h2 h3 h4 h5 h6
    cases i with
    | zero => simp at h1'; subst h1'; cases a0
    | succ i =>
      obtain ⟨d1, d2⟩ := dis_u'.mp h6
      rw [fU_left]
      exact .s a0 a1 h0 (ih (i := i) (by simpa using h1') h2 (by simpa using h3) h4 h5 d2) (dis_u'.mpr ⟨d1.symm, hd⟩)
/-- slot i is forgotten -/
theorem ER.drop {σ : St} {e : Ev} {f : FP} (h : ER K H av σ e f) : ∀ (i : Nat), ∃ f', (∀ b, f' b → f b) ∧ ER K H av σ (e.set i .un) f' := by
  induction h with
  | nil => intro i; exact ⟨fE, fun _ z => z, .nil⟩
  | un h0 ih =>
    intro i
    cases i with
    | zero => exact ⟨_, fun _ z => z, .un h0⟩
    | succ i =>
      obtain ⟨f', q1, q2⟩ := ih i
      exact ⟨f', q1, .un q2⟩
  | @s v0 s0 m0 σ0 e0 f0 g0 a0 a1 h0 h1 hd ih =>
    intro i
    cases i with
    | zero => exact ⟨_, fun _ z => .inr z, .un h1⟩
    | succ i =>
      obtain ⟨f', q1, q2⟩ := ih i
      exact ⟨fU f0 f', fun b z => z.elim .inl fun y => .inr (q1 b y), .s a0 a1 h0 q2 fun b x y => hd b x (q1 b y)⟩
/-- another value behind an unknown slot -/
theorem ER.set {σ : St} {e : Ev} {f : FP} (h : ER K H av σ e f) : ∀ {i : Nat} (x : Option V), e[i]? = some .un → ER K H av (σ.set i x) e f := by
  induction h with
  | nil => intro i x h1; simp at h1
  | un h0 ih =>
    intro i x h1
    cases i with
    | zero => exact .un h0
    | succ i => exact .un (ih x (by simpa using h1))
  | @s v0 s0 m0 σ0 e0 f0 g0 a0 a1 h0 h1 hd ih =>
    intro i x h1'
    cases i with
    | zero => simp at h1'; subst h1'; cases a0
    | succ i => exact .s a0 a1 h0 (ih x (by simpa using h1')) hd
theorem TR.app {σ : St} : ∀ {vs vs' : List V} {ts ts' : List Tm} {f f' : FP}, TR K H σ vs ts f → TR K H σ vs' ts' f' → Dis f f' → TR K H σ (vs ++ vs') (ts ++ ts') (fU f f')
  | _, _, _, _, _, _, .nil, h', d => by rw [fU_e]; exact h'
  | _, _, _, _, _, _, .o h1 h2 hd, h', d => by
    rw [fU_assoc]
    exact .o h1 (TR.app h2 h' (dis_u.mp d).2) (dis_u'.mpr ⟨hd, (dis_u.mp d).1⟩)
  | _, _, _, _, _, _, .b h1 h2, h', d => .b h1 (TR.app h2 h' d)
end

/-- THE STATE: pending values tv (ts), slots σ (e), over the heap H; H0, f0: the entry's heap and what may be written there; av: the arguments -/
structure SR (K : PySem.W.Frag) (H0 : Hp) (f0 : FP) (av : List V) (ts : List Tm) (tv : List V) (e : Ev) (σ : St) (H : Hp) : Prop where
  ex : ∃ f g, TR K H σ tv ts f ∧ ER K H av σ e g ∧ Dis f g ∧ Own f0 H0 f ∧ Own f0 H0 g
  kp : Keep f0 H0 H
end SY
namespace SY
open PySem L2

/-! ### the judgements -/
/-- the entry: heap, what may be written, the arguments -/
structure Gh where
  H0 : Hp
  f0 : FP
  av : List V
abbrev SRg (K : PySem.W.Frag) (G : Gh) (ts : List Tm) (tv : List V) (e : Ev) (σ : St) (H : Hp) : Prop := SR K G.H0 G.f0 G.av ts tv e σ H

section
variable (X : Cx)
def wpE (ex : Expr) : TE := fun σ H Q => ∀ pins s, Inv X pins σ H s → wpAny (model X.prog X.w) X.A (eval ex X.env) (EP X pins σ Q) X.xe s
def wpT (ex : Expr) : TT := fun σ H Q => ∀ pins s, Inv X pins σ H s → wpAny (model X.prog X.w) X.A (isTrue ex X.env (eval ex X.env)) (TP X pins σ Q) X.xe s
def wpW (ex : Expr) : TT := fun σ H Q => ∀ whole pins s, Inv X pins σ H s → wpAny (model X.prog X.w) X.A (isTrue ex X.env whole) (TP X pins σ Q) X.xe s
def wpA (es : List Expr) : TA := fun σ H Q => ∀ pos pins s, Inv X pins σ H s → wpAny (model X.prog X.w) X.A (spliced (backTo pos (starEach es X.env))) (AP X pins σ Q) X.xe s
def wpS (st : Stmt) : TS := fun D σ H => ∀ pins s, Inv X pins σ H s → wpAny (model X.prog X.w) X.A (exec st X.env) (SP X pins D) X.xe s
def wpB (st : List Stmt) : TS := fun D σ H => ∀ pins s, Inv X pins σ H s → wpAny (model X.prog X.w) X.A (execs st X.env) (SP X pins D) X.xe s
def wpO (f : Value → Value → Sem Value) : R2 := fun x y H Q => ∀ pins s σ v u, Inv X pins σ H s → RelV x v → RelV y u → wpAny (model X.prog X.w) X.A (f v u) (EP X pins σ Q) X.xe s
def wpU (f : Value → Sem Value) : V → Hp → VK → Prop := fun x H Q => ∀ pins s σ v, Inv X pins σ H s → RelV x v → wpAny (model X.prog X.w) X.A (f v) (EP X pins σ Q) X.xe s
def wpC (f : Value) : List V → Hp → VK → Prop := fun xs H Q => ∀ pins s σ us, Inv X pins σ H s → Vals xs us → wpAny (model X.prog X.w) X.A (call f us) (EP X pins σ Q) X.xe s
end
section
variable {X : Cx}
theorem pe_self (ex : Expr) : PE X ex (wpE X ex) := ⟨fun pins s _ _ _ I h => h pins s I⟩
theorem pt_self (ex : Expr) : PT X ex (wpT X ex) := ⟨fun pins s _ _ _ I h => h pins s I⟩
theorem pw_self (ex : Expr) : PW X ex (wpW X ex) := ⟨fun w pins s _ _ _ I h => h w pins s I⟩
theorem pa_self (es : List Expr) : PA X es (wpA X es) := ⟨fun pos pins s _ _ _ I h => h pos pins s I⟩
theorem ps_self (st : Stmt) : PS X st (wpS X st) := ⟨fun pins s _ _ _ I h => h pins s I⟩
theorem pb_self (st : List Stmt) : PSs X st (wpB X st) := ⟨fun pins s _ _ _ I h => h pins s I⟩
end

/-- behind an expression: its value, then the state -/
def kE (K : PySem.W.Frag) (G : Gh) (T : List Tm) (tv : List V) (σ : St) (Q : Tm → Ev → Prop) : VK := fun v H => ∃ t e, SRg K G (t :: T) (v :: tv) e σ H ∧ Q t e
def kT (K : PySem.W.Frag) (G : Gh) (T : List Tm) (tv : List V) (σ : St) (Q : Bool → Ev → Prop) : Bool → Hp → Prop := fun b H => ∃ e, SRg K G T tv e σ H ∧ Q b e
def kA (K : PySem.W.Frag) (G : Gh) (T : List Tm) (tv : List V) (σ : St) (Q : List Tm → Ev → Prop) : List V → Hp → Prop := fun vs H => ∃ ts e, SRg K G (ts.reverse ++ T) (vs.reverse ++ tv) e σ H ∧ ts.length = vs.length ∧ Q ts e

structure Xp (X : Cx) (G : Gh) (T : List Tm) (e : Ev) (ex : Expr) (Q : Tm → Ev → Prop) : Prop where
  run : ∀ tv σ H, SRg X.K G T tv e σ H → wpE X ex σ H (kE X.K G T tv σ Q)
structure Xt (X : Cx) (G : Gh) (T : List Tm) (e : Ev) (ex : Expr) (Q : Bool → Ev → Prop) : Prop where
  run : ∀ tv σ H, SRg X.K G T tv e σ H → wpT X ex σ H (kT X.K G T tv σ Q)
structure Xw (X : Cx) (G : Gh) (T : List Tm) (e : Ev) (ex : Expr) (Q : Bool → Ev → Prop) : Prop where
  run : ∀ tv σ H, SRg X.K G T tv e σ H → wpW X ex σ H (kT X.K G T tv σ Q)
structure Xa (X : Cx) (G : Gh) (T : List Tm) (e : Ev) (es : List Expr) (Q : List Tm → Ev → Prop) : Prop where
  run : ∀ tv σ H, SRg X.K G T tv e σ H → wpA X es σ H (kA X.K G T tv σ Q)
/-- which two-place operation -/
inductive Tag where
  | bin (o : Operator) | cmp (o : CmpOp) | inp (o : Operator) | ix
def Tag.f : Tag → Value → Value → Sem Value
  | .bin o => binaryOp o
  | .cmp o => compareOp o
  | .inp o => inplaceOp o
  | .ix => getItem
inductive UTag where
  | un (o : UnaryOp)
def UTag.f : UTag → Value → Sem Value
  | .un o => unaryOp o
structure Xo (X : Cx) (G : Gh) (f : Tag) (T : List Tm) (ta tb : Tm) (e : Ev) (Q : Tm → Ev → Prop) : Prop where
  run : ∀ va vb tv σ H, SRg X.K G (tb :: ta :: T) (vb :: va :: tv) e σ H → wpO X f.f va vb H (kE X.K G T tv σ Q)
structure Xu (X : Cx) (G : Gh) (f : UTag) (T : List Tm) (ta : Tm) (e : Ev) (Q : Tm → Ev → Prop) : Prop where
  run : ∀ va tv σ H, SRg X.K G (ta :: T) (va :: tv) e σ H → wpU X f.f va H (kE X.K G T tv σ Q)
structure Xc (X : Cx) (G : Gh) (f : Value) (T ts : List Tm) (e : Ev) (Q : Tm → Ev → Prop) : Prop where
  run : ∀ vs tv σ H, vs.length = ts.length → SRg X.K G (ts.reverse ++ T) (vs.reverse ++ tv) e σ H → wpC X f vs H (kE X.K G T tv σ Q)

/-- what is wanted behind a block -/
structure MD where
  nx : Ev → Prop
  rt : M → Ev → Prop
  bk : Ev → Prop := fun _ => False
  ct : Ev → Prop := fun _ => False
abbrev os (T : List M) : List Tm := T.map Tm.o
def low (K : PySem.W.Frag) (G : Gh) (T : List Tm) (tv : List V) (D : MD) : Ends where
  nx := fun σ H => ∃ e, SRg K G T tv e σ H ∧ D.nx e
  rt := fun v H => ∃ m e σ, SRg K G [.o m] [v] e σ H ∧ D.rt m e
  bk := fun σ H => ∃ e, SRg K G T tv e σ H ∧ D.bk e
  ct := fun σ H => ∃ e, SRg K G T tv e σ H ∧ D.ct e
structure Xs (X : Cx) (G : Gh) (T : List Tm) (e : Ev) (st : Stmt) (D : MD) : Prop where
  run : ∀ tv σ H, SRg X.K G T tv e σ H → wpS X st (low X.K G T tv D) σ H
structure Xb (X : Cx) (G : Gh) (T : List Tm) (e : Ev) (st : List Stmt) (D : MD) : Prop where
  run : ∀ tv σ H, SRg X.K G T tv e σ H → wpB X st (low X.K G T tv D) σ H

/-! ### the state, step by step -/
section
variable {K : PySem.W.Frag} {G : Gh} {T : List Tm} {tv : List V} {e : Ev} {σ : St} {H H' : Hp} {v : V} {t : Tm} {m : M}
theorem SR.mk' {f g : FP} (h1 : TR K H σ tv T f) (h2 : ER K H G.av σ e g) (h3 : Dis f g) (h4 : Own G.f0 G.H0 f) (h5 : Own G.f0 G.H0 g) (h6 : Keep G.f0 G.H0 H) : SRg K G T tv e σ H := ⟨⟨f, g, h1, h2, h3, h4, h5⟩, h6⟩
/-- a thing without footprint comes -/
theorem SR.push (h : SRg K G T tv e σ H) (r : RM K H v m fE) : SRg K G (.o m :: T) (v :: tv) e σ H := by
  obtain ⟨⟨f, g, h1, h2, h3, h4, h5⟩, h6⟩ := h
  exact .mk' (f := fU fE f) (.o r h1 (dis_e _)) h2 (by rw [fU_e]; exact h3) (by rw [fU_e]; exact h4) h5 h6
theorem SR.pushB {i : Nat} (h : SRg K G T tv e σ H) (r : σ[i]? = some (some v)) : SRg K G (.b i :: T) (v :: tv) e σ H := by
  obtain ⟨⟨f, g, h1, h2, h3, h4, h5⟩, h6⟩ := h
  exact .mk' (.b r h1) h2 h3 h4 h5 h6
/-- the last one goes -/
theorem SR.pop (h : SRg K G (t :: T) (v :: tv) e σ H) : SRg K G T tv e σ H := by
  obtain ⟨⟨f, g, h1, h2, h3, h4, h5⟩, h6⟩ := h
  cases h1 with
  | o r h1 hd => exact .mk' h1 h2 (dis_u.mp h3).2 h4.right h5 h6
  | b r h1 => exact .mk' h1 h2 h3 h4 h5 h6
/-- the one ahead of the last goes -/
theorem SR.pop2 {u : Tm} {w : V} (h : SRg K G (t :: u :: T) (v :: w :: tv) e σ H) : SRg K G (t :: T) (v :: tv) e σ H := by
  obtain ⟨⟨f, g, h1, h2, h3, h4, h5⟩, h6⟩ := h
  cases h1 with
  | o r h1 hd =>
    cases h1 with
    | o r' h1 hd' => exact .mk' (.o r h1 (dis_u'.mp hd).2) h2 (dis_u.mpr ⟨(dis_u.mp h3).1, (dis_u.mp (dis_u.mp h3).2).2⟩) (h4.left.u h4.right.right) h5 h6
    | b r' h1 => exact .mk' (.o r h1 hd) h2 h3 h4 h5 h6
  | b r h1 =>
    cases h1 with
    | o r' h1 hd' => exact .mk' (.b r h1) h2 (dis_u.mp h3).2 h4.right h5 h6
    | b r' h1 => exact .mk' (.b r h1) h2 h3 h4 h5 h6
/-- a thing on top: itself -/
theorem SR.top (h : SRg K G (.o m :: T) (v :: tv) e σ H) : ∃ f, RM K H v m f ∧ Own G.f0 G.H0 f := by
  obtain ⟨⟨f, g, h1, h2, h3, h4, h5⟩, h6⟩ := h
  cases h1 with
  | o r h1 hd => exact ⟨_, r, h4.left⟩
theorem SR.topB {i : Nat} (h : SRg K G (.b i :: T) (v :: tv) e σ H) : σ[i]? = some (some v) := by
  obtain ⟨⟨f, g, h1, h2, h3, h4, h5⟩, h6⟩ := h
  cases h1 with
  | b r h1 => exact r
/-- the same over a heap that has more -/
theorem SR.ex' (h : SRg K G T tv e σ H) (x : ∀ b o, H b = some o → H' b = some o) : SRg K G T tv e σ H' := by
  obtain ⟨⟨f, g, h1, h2, h3, h4, h5⟩, h6⟩ := h
  have k : Keep fE H H' := Keep.of_ex x
  exact .mk' (h1.frame k (dis_e' _)) (h2.frame k (dis_e' _)) h3 h4 h5 (h6.own (f := fE) Own.e k)
/-- a new object comes, on top -/
theorem SR.new {p : Addr} {o : HO} {f : FP} (h : SRg K G T tv e σ H) (hp : H p = none) (r : RM K (upd H p o) (.ref p) m f) (hf : ∀ b, f b → b = p) : SRg K G (.o m :: T) (.ref p :: tv) e σ (upd H p o) := by
  obtain ⟨⟨f', g, h1, h2, h3, h4, h5⟩, h6⟩ := h
  have k : Keep fE H (upd H p o) := Keep.new hp
  have fresh : ∀ {F : FP}, (∀ b, F b → ∃ u, H b = some u) → Dis f F := fun q b z y => by
    obtain ⟨u, e⟩ := q b y
    rw [hf b z, hp] at e; cases e
  have own : Own G.f0 G.H0 f := fun b z => by
    rw [hf b z]
    cases e : G.H0 p with
    | none => exact .inr rfl
    | some u =>
      refine .inl (Classical.byContradiction fun n => ?_)
      rw [h6.k p u e n] at hp; cases hp
  have there1 : ∀ b, f' b → ∃ u, H b = some u := h1.there
  have there2 : ∀ b, g b → ∃ u, H b = some u := h2.there
  exact .mk' (.o r (h1.frame k (dis_e' _)) (fresh there1)) (h2.frame k (dis_e' _)) (dis_u.mpr ⟨fresh there2, h3⟩) (own.u h4) h5 (h6.own (f := fE) Own.e k)
end
end SY
namespace SY
open PySem L2

def nix : List Str → Str → Nat
  | [], _ => 0
  | y :: ys, x => bif y == x then 0 else nix ys x + 1

/-- a pending value as a thing of its own: what a slot holds is taken out of it -/
def own (e : Ev) : Tm → Option (M × Ev)
  | .o m => some (m, e)
  | .b i => (e[i]?.bind Slot.m?).map fun m => (m, e.set i .un)
/-- what a pending value is -/
def see (e : Ev) : Tm → Option M
  | .o m => some m
  | .b i => e[i]?.bind Slot.m?
/-- a pending thing changed -/
def chg (e : Ev) (m : M) : Tm → Ev
  | .o _ => e
  | .b i => match e[i]? with
    | some s => e.set i (s.put m)
    | none => e

/-- no pending value leans on slot i -/
def noB (i : Nat) : List Tm → Bool
  | [] => true
  | .o _ :: T => noB i T
  | .b j :: T => j != i && noB i T
theorem noB_os {i : Nat} : ∀ T : List M, noB i (os T) = true
  | [] => rfl
  | m :: T => noB_os T
theorem tr_set {K : PySem.W.Frag} {H : Hp} {σ : St} {i : Nat} {x : Option V} : ∀ {T : List Tm} {vs : List V} {F : FP}, noB i T = true → TR K H σ vs T F → TR K H (σ.set i x) vs T F
  | [], _, _, _, z => by cases z; exact .nil
  | .o m :: T, _, _, n, z => by cases z with | o r z d => exact .o r (tr_set n z) d
  | .b j :: T, _, _, n, z => by
    have n' : j ≠ i ∧ noB i T = true := by simpa [noB] using n
    cases z with | b r z => exact .b (by rw [List.getElem?_set_ne (Ne.symm n'.1)]; exact r) (tr_set n'.2 z)
theorem SR.storeT {K : PySem.W.Frag} {G : Gh} {T : List Tm} {tv : List V} {e : Ev} {σ : St} {H : Hp} {v : V} {m : M} {i : Nat} (h : SRg K G (.o m :: T) (v :: tv) e σ H) (hi : i < e.length) (hn : noB i T = true) : SRg K G T tv (e.set i (.v m)) (σ.set i (some v)) H := by
  obtain ⟨⟨f, g, h1, h2, h3, h4, h5⟩, h6⟩ := h
  cases h1 with
  | @o _ _ _ _ f1 f' r h1 hd =>
    obtain ⟨g', k1, k2⟩ := h2.drop i
    have hl : i < σ.length := by rw [h2.length]; exact hi
    have k3 := k2.set (i := i) (some v) (by rw [List.getElem?_set_self hi])
    have k4 := k3.fill (i := i) (s := .v m) (v := v) (by rw [List.getElem?_set_self hi]) rfl (by rw [List.getElem?_set_self hl]) trivial r (fun b x y => (dis_u.mp h3).1 b x (k1 b y))
    rw [List.set_set] at k4
    refine .mk' (tr_set hn h1) k4 (dis_u'.mpr ⟨hd.symm, fun b x y => (dis_u.mp h3).2 b x (k1 b y)⟩) h4.right (h4.left.u fun b z => h5 b (k1 b z)) h6
section
variable {K : PySem.W.Frag} {G : Gh} {T : List Tm} {tv : List V} {e e2 : Ev} {σ : St} {H H' : Hp} {v : V} {t : Tm} {m : M}
theorem SR.own (h : SRg K G (t :: T) (v :: tv) e σ H) (o : SY.own e t = some (m, e2)) : SRg K G (.o m :: T) (v :: tv) e2 σ H := by
  cases t with
  | o m' => cases o; exact h
  | b i =>
    cases q : e[i]?.bind Slot.m? with
    | none =>
      have o' : (e[i]?.bind Slot.m?).map (fun m => (m, e.set i Slot.un)) = some (m, e2) := o
      rw [q] at o'; cases o'
    | some m' =>
      have o' : (e[i]?.bind Slot.m?).map (fun m => (m, e.set i Slot.un)) = some (m, e2) := o
      rw [q] at o'
      cases o'
      obtain ⟨s, hs, hm⟩ := Option.bind_eq_some_iff.mp q
      obtain ⟨⟨f, g, h1, h2, h3, h4, h5⟩, h6⟩ := h
      cases h1 with
      | b r h1 =>
        obtain ⟨w, f1, f2, q0, q1, q2, q3, q4, q5⟩ := h2.take hs hm
        subst q0
        rw [q2] at r; cases r
        obtain ⟨d1, d2⟩ := dis_u'.mp h3
        exact .mk' (.o q4 h1 d1.symm) q5 (dis_u.mpr ⟨q1, d2⟩) (h5.left.u h4) h5.right h6
/-- what a slot holds -/
theorem SR.slot {i : Nat} {s : Slot} (h : SRg K G T tv e σ H) (hs : e[i]? = some s) (hm : s.m? = some m) : ∃ v f, σ[i]? = some (some v) ∧ RM K H v m f := by
  obtain ⟨⟨f, g, h1, h2, h3, h4, h5⟩, h6⟩ := h
  obtain ⟨w, f1, f2, q0, q1, q2, q3, q4, q5⟩ := h2.take hs hm
  exact ⟨w, f1, q2, q4⟩
/-- what a pending value is, by its value -/
theorem SR.see (h : SRg K G (t :: T) (v :: tv) e σ H) (o : SY.see e t = some m) : ∃ f, RM K H v m f := by
  cases t with
  | o m' => cases o; obtain ⟨f, r, _⟩ := h.top; exact ⟨f, r⟩
  | b i =>
    obtain ⟨s, hs, hm⟩ := Option.bind_eq_some_iff.mp (show e[i]?.bind Slot.m? = some m from o)
    obtain ⟨w, f, q1, q2⟩ := h.slot hs hm
    rw [h.topB] at q1; cases q1
    exact ⟨f, q2⟩
end

section
variable {X : Cx} {G : Gh} {T : List Tm} {e : Ev} {a b c : Expr} {Q : Tm → Ev → Prop} {pos : Pos} {m : M}
theorem Xp.of {ex : Expr} {te : TE} (h : PE X ex te) (k : ∀ tv σ H, SRg X.K G T tv e σ H → te σ H (kE X.K G T tv σ Q)) : Xp X G T e ex Q := ⟨fun tv σ H s pins sh I => h.run pins sh σ H _ I (k tv σ H s)⟩
theorem Xt.of {ex : Expr} {tt : TT} {Q : Bool → Ev → Prop} (h : PT X ex tt) (k : ∀ tv σ H, SRg X.K G T tv e σ H → tt σ H (kT X.K G T tv σ Q)) : Xt X G T e ex Q := ⟨fun tv σ H s pins sh I => h.run pins sh σ H _ I (k tv σ H s)⟩
theorem Xw.of {ex : Expr} {tt : TT} {Q : Bool → Ev → Prop} (h : PW X ex tt) (k : ∀ tv σ H, SRg X.K G T tv e σ H → tt σ H (kT X.K G T tv σ Q)) : Xw X G T e ex Q := ⟨fun tv σ H s wh pins sh I => h.run wh pins sh σ H _ I (k tv σ H s)⟩
theorem Xo.of {f : Tag} {r : R2} {ta tb : Tm} (h : OpR X f.f r) (k : ∀ va vb tv σ H, SRg X.K G (tb :: ta :: T) (vb :: va :: tv) e σ H → r va vb H (kE X.K G T tv σ Q)) : Xo X G f T ta tb e Q :=
  ⟨fun va vb tv σ H s pins sh σ' v u I rv ru => (h pins sh σ' H va vb v u _ I rv ru (k va vb tv σ H s))⟩
theorem Xu.of {f : UTag} {r : V → Hp → VK → Prop} {ta : Tm} (h : UnR X f.f r) (k : ∀ va tv σ H, SRg X.K G (ta :: T) (va :: tv) e σ H → r va H (kE X.K G T tv σ Q)) : Xu X G f T ta e Q :=
  ⟨fun va tv σ H s pins sh σ' v I rv => (h pins sh σ' H va v _ I rv (k va tv σ H s))⟩
theorem Xc.of {f : Value} {r : List V → Hp → VK → Prop} {ts : List Tm} (h : CallR X f r) (k : ∀ vs tv σ H, vs.length = ts.length → SRg X.K G (ts.reverse ++ T) (vs.reverse ++ tv) e σ H → r vs H (kE X.K G T tv σ Q)) : Xc X G f T ts e Q :=
  ⟨fun vs tv σ H hl s pins sh σ' us I rv => (h pins sh σ' H vs us _ I rv (k vs tv σ H hl s))⟩
theorem wpO_ok (f : Value → Value → Sem Value) : OpR X f (wpO X f) := fun pins s σ H x y v u Q I rx ry h => h pins s σ v u I rx ry
theorem wpU_ok (f : Value → Sem Value) : UnR X f (wpU X f) := fun pins s σ H x v Q I rx h => h pins s σ v I rx
theorem wpC_ok (f : Value) : CallR X f (wpC X f) := fun pins s σ H xs us Q I rx h => h pins s σ us I rx
end

section
variable {X : Cx} {G : Gh} {T : List Tm} {e : Ev} {a b c : Expr} {Q : Tm → Ev → Prop} {pos : Pos} {m : M}
/-! ### names and constants -/
theorem x_name {i : Nat} {x : Str} {s : Slot} (hN : X.N[i]? = some x) (hv : Vis X.env.scope x) (he : e[i]? = some s) (hm : s.m? = some m) (hi : m.imm = true) (h : Q (.o m) e)
    (hd : (x == ("__debug__" : Str)) = false := by decide) (hcd : (x == ("__classdict__" : Str)) = false := by decide) : Xp X G T e (.Name x pos) Q :=
  .of (pe_var hN hv hd hcd) fun tv σ H s => by
    obtain ⟨v, f, q1, q2⟩ := s.slot he hm
    have z := q2.imm m hi
    subst z
    exact ⟨v, q1, .o m, e, s.push q2, h⟩
theorem x_nameB {i : Nat} {x : Str} {s : Slot} (hN : X.N[i]? = some x) (hv : Vis X.env.scope x) (he : e[i]? = some s) (hm : s.m? = some m) (h : Q (.b i) e)
    (hd : (x == ("__debug__" : Str)) = false := by decide) (hcd : (x == ("__classdict__" : Str)) = false := by decide) : Xp X G T e (.Name x pos) Q :=
  .of (pe_var hN hv hd hcd) fun tv σ H s => by
    obtain ⟨v, f, q1, q2⟩ := s.slot he hm
    exact ⟨v, q1, .b i, e, s.pushB q1, h⟩
theorem x_int {i j} (h : Q (.o (.int i)) e) : Xp X G T e (.Constant (.int i) j pos) Q := .of pe_int fun tv σ H s => ⟨.o (.int i), e, s.push (.int i), h⟩
theorem x_bl {b j} (h : Q (.o (.bl b)) e) : Xp X G T e (.Constant (.bool b) j pos) Q := .of pe_bl fun tv σ H s => ⟨.o (.bl b), e, s.push (.bl b), h⟩
theorem x_non {j} (h : Q (.o .non) e) : Xp X G T e (.Constant .none j pos) Q := .of pe_non fun tv σ H s => ⟨.o .non, e, s.push .non, h⟩
theorem x_str {x j} (h : Q (.o (.str x)) e) : Xp X G T e (.Constant (.str x) j pos) Q := .of pe_str fun tv σ H s => ⟨.o (.str x), e, s.push (.str x), h⟩

/-! ### operators -/
theorem x_bin {op : Operator} (h : Xp X G T e a fun ta e1 => Xp X G (ta :: T) e1 b fun tb e2 => Xo X G (.bin op) T ta tb e2 Q) : Xp X G T e (.BinOp a op b pos) Q :=
  .of (pe_op (wpO_ok _) (pe_self a) (pe_self b)) fun tv σ H s pins sh I => thn (h.run tv σ H s pins sh I) fun u s1 ⟨v, H1, I1, r1, ta, e1, s2, h2⟩ => ⟨v, H1, I1, r1, fun pins sh I =>
    thn (h2.run (v :: tv) σ H1 s2 pins sh I) fun u s3 ⟨w, H2, I2, r2, tb, e2, s4, h4⟩ => ⟨w, H2, I2, r2, h4.run v w tv σ H2 s4⟩⟩
theorem x_un {op : UnaryOp} (h : Xp X G T e a fun ta e1 => Xu X G (.un op) T ta e1 Q) : Xp X G T e (.UnaryOp op a pos) Q :=
  .of (pe_un (wpU_ok _) (pe_self a)) fun tv σ H s pins sh I => thn (h.run tv σ H s pins sh I) fun u s1 ⟨v, H1, I1, r1, ta, e1, s2, h2⟩ => ⟨v, H1, I1, r1, h2.run v tv σ H1 s2⟩
theorem x_cmp {op : CmpOp} (h : Xp X G T e a fun ta e1 => Xp X G (ta :: T) e1 b fun tb e2 => Xo X G (.cmp op) T ta tb e2 Q) (hm : behindInMarks op b = false := by first | exact nomark _ | rfl) : Xp X G T e (.Compare a [op] [b] pos) Q :=
  .of (pe_cmpR (wpO_ok _) (pe_self a) (pe_self b) hm) fun tv σ H s pins sh I => thn (h.run tv σ H s pins sh I) fun u s1 ⟨v, H1, I1, r1, ta, e1, s2, h2⟩ => ⟨v, H1, I1, r1, fun pins sh I =>
    thn (h2.run (v :: tv) σ H1 s2 pins sh I) fun u s3 ⟨w, H2, I2, r2, tb, e2, s4, h4⟩ => ⟨w, H2, I2, r2, h4.run v w tv σ H2 s4⟩⟩
/-- an answer that is a bool -/
def kB (Q : Bool → Ev → Prop) : Tm → Ev → Prop := fun t e => ∃ k, t = .o (.bl k) ∧ Q k e
theorem t_cmp {op : CmpOp} {Q : Bool → Ev → Prop} (h : Xp X G T e a fun ta e1 => Xp X G (ta :: T) e1 b fun tb e2 => Xo X G (.cmp op) T ta tb e2 (kB Q)) (hm : behindInMarks op b = false := by first | exact nomark _ | rfl) : Xt X G T e (.Compare a [op] [b] pos) Q :=
  .of (pt_cmpR (wpO_ok _) (pe_self a) (pe_self b) hm) fun tv σ H s pins sh I => thn (h.run tv σ H s pins sh I) fun u s1 ⟨v, H1, I1, r1, ta, e1, s2, h2⟩ => ⟨v, H1, I1, r1, fun pins sh I =>
    thn (h2.run (v :: tv) σ H1 s2 pins sh I) fun u s3 ⟨w, H2, I2, r2, tb, e2, s4, h4⟩ => ⟨w, H2, I2, r2, fun pins sh σ' v' u' I r1 r2 =>
      thn (h4.run v w tv σ H2 s4 pins sh σ' v' u' I r1 r2) fun u s5 ⟨z, H3, I3, r3, tc, e3, s6, k, hk, hQ⟩ => ⟨z, H3, I3, r3, by
        subst hk
        obtain ⟨f, rm, _⟩ := s6.top
        cases rm
        exact ⟨k, rfl, e3, s6.pop, hQ⟩⟩⟩⟩
/-- any expression whose answer is a bool, as a test -/
theorem t_val {Q : Bool → Ev → Prop} (h : Xp X G T e a (kB Q)) (he : ∀ whole, isTrue a X.env whole = (do let v ← whole; standAt a.pos; holding [v] (truthy v)) := by intro _; rfl) : Xt X G T e a Q :=
  .of (pt_val (pe_self a) he) fun tv σ H s pins sh I => thn (h.run tv σ H s pins sh I) fun u s1 ⟨v, H1, I1, r1, ta, e1, s2, k, hk, hQ⟩ => ⟨v, H1, I1, r1, by
    subst hk
    obtain ⟨f, rm, _⟩ := s2.top
    cases rm
    exact ⟨k, rfl, e1, s2.pop, hQ⟩⟩
theorem t_not {Q : Bool → Ev → Prop} (h : Xt X G T e a fun k e1 => Q (!k) e1) : Xt X G T e (.UnaryOp .Not a pos) Q :=
  .of (pt_not (pt_self a)) fun tv σ H s pins sh I => thn (h.run tv σ H s pins sh I) fun k s1 ⟨H1, I1, e1, s2, hQ⟩ => ⟨H1, I1, e1, s2, hQ⟩
/-! and, or as tests -/
theorem w_and1 {Q : Bool → Ev → Prop} (h : Xt X G T e a Q) : Xw X G T e (.BoolOp .And [a] pos) Q := .of (pw_and1 (pt_self a)) fun tv σ H s pins sh I => h.run tv σ H s pins sh I
theorem w_or1 {Q : Bool → Ev → Prop} (h : Xt X G T e a Q) : Xw X G T e (.BoolOp .Or [a] pos) Q := .of (pw_or1 (pt_self a)) fun tv σ H s pins sh I => h.run tv σ H s pins sh I
theorem w_and {rest : List Expr} {Q : Bool → Ev → Prop} (h : Xt X G T e a fun k e1 => (k = true → Xw X G T e1 (.BoolOp .And (b :: rest) pos) Q) ∧ (k = false → Q false e1)) : Xw X G T e (.BoolOp .And (a :: b :: rest) pos) Q :=
  .of (pw_and (pt_self a) (pw_self _)) fun tv σ H s pins sh I => thn (h.run tv σ H s pins sh I) fun k s1 ⟨H1, I1, e1, s2, h2⟩ => ⟨H1, I1, by
    cases k with
    | true => exact iteT fun wh pins sh I => (h2.1 rfl).run tv σ H1 s2 wh pins sh I
    | false => exact iteF ⟨e1, s2, h2.2 rfl⟩⟩
theorem w_or {rest : List Expr} {Q : Bool → Ev → Prop} (h : Xt X G T e a fun k e1 => (k = true → Q true e1) ∧ (k = false → Xw X G T e1 (.BoolOp .Or (b :: rest) pos) Q)) : Xw X G T e (.BoolOp .Or (a :: b :: rest) pos) Q :=
  .of (pw_or (pt_self a) (pw_self _)) fun tv σ H s pins sh I => thn (h.run tv σ H s pins sh I) fun k s1 ⟨H1, I1, e1, s2, h2⟩ => ⟨H1, I1, by
    cases k with
    | true => exact iteT ⟨e1, s2, h2.1 rfl⟩
    | false => exact iteF fun wh pins sh I => (h2.2 rfl).run tv σ H1 s2 wh pins sh I⟩
theorem t_w {ex : Expr} {Q : Bool → Ev → Prop} (h : Xw X G T e ex Q) : Xt X G T e ex Q := .of (pw_self ex).pt fun tv σ H s wh pins sh I => h.run tv σ H s wh pins sh I
/-! and, or, not as values -/
theorem x_one {op} (h : Xp X G T e a Q) : Xp X G T e (.BoolOp op [a] pos) Q := .of (pe_one (pe_self a)) fun tv σ H s pins sh I => h.run tv σ H s pins sh I
theorem x_and {rest : List Expr} (h : Xp X G T e a (kB fun k e1 => (k = true → Xp X G T e1 (.BoolOp .And (b :: rest) pos) Q) ∧ (k = false → Q (.o (.bl false)) e1))) : Xp X G T e (.BoolOp .And (a :: b :: rest) pos) Q :=
  .of (pe_and (pe_self a) (pe_self _)) fun tv σ H s pins sh I => thn (h.run tv σ H s pins sh I) fun u s1 ⟨v, H1, I1, r1, ta, e1, s2, k, hk, hQ⟩ => ⟨v, H1, I1, r1, by
    subst hk
    obtain ⟨f, rm, _⟩ := s2.top
    cases rm
    refine ⟨k, rfl, ?_⟩
    cases k with
    | true => exact iteT fun pins sh I => (hQ.1 rfl).run tv σ H1 s2.pop pins sh I
    | false => exact iteF ⟨.o (.bl false), e1, s2, hQ.2 rfl⟩⟩
theorem x_or {rest : List Expr} (h : Xp X G T e a (kB fun k e1 => (k = true → Q (.o (.bl true)) e1) ∧ (k = false → Xp X G T e1 (.BoolOp .Or (b :: rest) pos) Q))) : Xp X G T e (.BoolOp .Or (a :: b :: rest) pos) Q :=
  .of (pe_or (pe_self a) (pe_self _)) fun tv σ H s pins sh I => thn (h.run tv σ H s pins sh I) fun u s1 ⟨v, H1, I1, r1, ta, e1, s2, k, hk, hQ⟩ => ⟨v, H1, I1, r1, by
    subst hk
    obtain ⟨f, rm, _⟩ := s2.top
    cases rm
    refine ⟨k, rfl, ?_⟩
    cases k with
    | true => exact iteT ⟨.o (.bl true), e1, s2, hQ.1 rfl⟩
    | false => exact iteF fun pins sh I => (hQ.2 rfl).run tv σ H1 s2.pop pins sh I⟩
theorem x_not (h : Xp X G T e a (kB fun k e1 => Q (.o (.bl (!k))) e1)) : Xp X G T e (.UnaryOp .Not a pos) Q :=
  .of (pe_not (pe_self a)) fun tv σ H s pins sh I => thn (h.run tv σ H s pins sh I) fun u s1 ⟨v, H1, I1, r1, ta, e1, s2, k, hk, hQ⟩ => ⟨v, H1, I1, r1, by
    subst hk
    obtain ⟨f, rm, _⟩ := s2.top
    cases rm
    exact ⟨k, rfl, .o (.bl (!k)), e1, s2.pop.push (.bl _), hQ⟩⟩
theorem x_if (h : Xt X G T e c fun k e1 => (k = true → Xp X G T e1 a Q) ∧ (k = false → Xp X G T e1 b Q)) : Xp X G T e (.IfExp c a b pos) Q :=
  .of (pe_ifExp (pt_self c) (pe_self a) (pe_self b)) fun tv σ H s pins sh I => thn (h.run tv σ H s pins sh I) fun k s1 ⟨H1, I1, e1, s2, h2⟩ => ⟨H1, I1, by
    cases k with
    | true => exact iteT fun pins sh I => (h2.1 rfl).run tv σ H1 s2 pins sh I
    | false => exact iteF fun pins sh I => (h2.2 rfl).run tv σ H1 s2 pins sh I⟩

/-! ### arguments -/
theorem a_nil {Q : List Tm → Ev → Prop} (h : Q [] e) : Xa X G T e [] Q := ⟨fun tv σ H s pos pins sh I => pa_nil.run pos pins sh σ H _ I ⟨[], e, s, rfl, h⟩⟩
theorem a_cons {es : List Expr} {Q : List Tm → Ev → Prop} (h : Xp X G T e a fun t e1 => Xa X G (t :: T) e1 es fun ts e2 => Q (t :: ts) e2) (hs : starEach (a :: es) X.env = (false, eval a X.env) :: starEach es X.env := by rfl) : Xa X G T e (a :: es) Q :=
  ⟨fun tv σ H s pos pins sh I => (pa_cons (pe_self a) (pa_self es) hs).run pos pins sh σ H _ I fun pins sh I => thn (h.run tv σ H s pins sh I) fun u s1 ⟨v, H1, I1, r1, t, e1, s2, h2⟩ => ⟨v, H1, I1, r1, fun pos pins sh I =>
    thn (h2.run (v :: tv) σ H1 s2 pos pins sh I) fun us s3 ⟨vs, H2, I2, r2, ts, e2, s4, hl, hQ⟩ => ⟨vs, H2, I2, r2, t :: ts, e2, by
      rw [List.reverse_cons, List.reverse_cons, List.append_assoc, List.append_assoc]; exact s4, by rw [List.length_cons, List.length_cons, hl], hQ⟩⟩⟩
end
end SY
namespace SY
open PySem L2

/-! ### two-place operations on ints, bools, texts -/
section
variable {X : Cx} {G : Gh} {T : List Tm} {e : Ev} {Q : Tm → Ev → Prop}
section
variable {K : PySem.W.Frag} {tv : List V} {σ : St} {H : Hp} {va vb : V} {ta tb : Tm}
theorem SR.i2 {i j : Int} (s : SRg K G (.o (.int j) :: .o (.int i) :: T) (vb :: va :: tv) e σ H) : va = .int i ∧ vb = .int j ∧ SRg K G T tv e σ H := by
  obtain ⟨f, r, _⟩ := s.top
  obtain ⟨g, r', _⟩ := s.pop.top
  cases r; cases r'
  exact ⟨rfl, rfl, s.pop.pop⟩
theorem SR.i1 {i : Int} (s : SRg K G (.o (.int i) :: T) (va :: tv) e σ H) : va = .int i ∧ SRg K G T tv e σ H := by
  obtain ⟨f, r, _⟩ := s.top
  cases r
  exact ⟨rfl, s.pop⟩
theorem SR.s1 {x : Str} (s : SRg K G (.o (.str x) :: T) (va :: tv) e σ H) : va = .str x ∧ SRg K G T tv e σ H := by
  obtain ⟨f, r, _⟩ := s.top
  cases r
  exact ⟨rfl, s.pop⟩
theorem SR.b1 {k : Bool} (s : SRg K G (.o (.bl k) :: T) (va :: tv) e σ H) : va = .bl k ∧ SRg K G T tv e σ H := by
  obtain ⟨f, r, _⟩ := s.top
  cases r
  exact ⟨rfl, s.pop⟩
end
theorem o_int {f : Tag} {C : Int → Int → Prop} {g : Int → Int → Int} {i j : Int} (h : OpR X f.f (rI C fun i j => .int (g i j))) (hc : C i j) (q : Q (.o (.int (g i j))) e) : Xo X G f T (.o (.int i)) (.o (.int j)) e Q :=
  .of h fun va vb tv σ H s => by
    obtain ⟨rfl, rfl, s'⟩ := s.i2
    exact ⟨i, j, rfl, rfl, hc, _, e, s'.push (.int _), q⟩
theorem o_int0 {f : Tag} {g : Int → Int → Int} {i j : Int} (h : OpR X f.f (rI0 fun i j => .int (g i j))) (q : Q (.o (.int (g i j))) e) : Xo X G f T (.o (.int i)) (.o (.int j)) e Q :=
  .of h fun va vb tv σ H s => by
    obtain ⟨rfl, rfl, s'⟩ := s.i2
    exact ⟨i, j, rfl, rfl, _, e, s'.push (.int _), q⟩
theorem o_cmp0 {f : Tag} {g : Int → Int → Bool} {i j : Int} (h : OpR X f.f (rI0 fun i j => .bl (g i j))) (q : Q (.o (.bl (g i j))) e) : Xo X G f T (.o (.int i)) (.o (.int j)) e Q :=
  .of h fun va vb tv σ H s => by
    obtain ⟨rfl, rfl, s'⟩ := s.i2
    exact ⟨i, j, rfl, rfl, _, e, s'.push (.bl _), q⟩
variable {i j : Int}
theorem o_add (q : Q (.o (.int (i + j))) e) : Xo X G (.bin .Add) T (.o (.int i)) (.o (.int j)) e Q := o_int0 op_add q
theorem o_sub (q : Q (.o (.int (i - j))) e) : Xo X G (.bin .Sub) T (.o (.int i)) (.o (.int j)) e Q := o_int0 op_sub q
theorem o_mul (hc : CMul i j) (q : Q (.o (.int (i * j))) e) : Xo X G (.bin .Mult) T (.o (.int i)) (.o (.int j)) e Q := o_int op_mul hc q
theorem o_fdiv (hc : CDiv i j) (q : Q (.o (.int (i / j))) e) : Xo X G (.bin .FloorDiv) T (.o (.int i)) (.o (.int j)) e Q := o_int op_fdiv hc q
theorem o_mod (hc : 0 < j) (q : Q (.o (.int (i % j))) e) : Xo X G (.bin .Mod) T (.o (.int i)) (.o (.int j)) e Q := o_int op_mod hc q
theorem o_pow (hc : CPow i j) (q : Q (.o (.int (i ^ j.toNat))) e) : Xo X G (.bin .Pow) T (.o (.int i)) (.o (.int j)) e Q := o_int op_pow hc q
theorem o_iadd (q : Q (.o (.int (i + j))) e) : Xo X G (.inp .Add) T (.o (.int i)) (.o (.int j)) e Q := o_int0 iop_add q
theorem o_isub (q : Q (.o (.int (i - j))) e) : Xo X G (.inp .Sub) T (.o (.int i)) (.o (.int j)) e Q := o_int0 iop_sub q
theorem o_imul (hc : CMul i j) (q : Q (.o (.int (i * j))) e) : Xo X G (.inp .Mult) T (.o (.int i)) (.o (.int j)) e Q := o_int iop_mul hc q
theorem o_ifdiv (hc : CDiv i j) (q : Q (.o (.int (i / j))) e) : Xo X G (.inp .FloorDiv) T (.o (.int i)) (.o (.int j)) e Q := o_int iop_fdiv hc q
theorem o_imod (hc : 0 < j) (q : Q (.o (.int (i % j))) e) : Xo X G (.inp .Mod) T (.o (.int i)) (.o (.int j)) e Q := o_int iop_mod hc q
theorem o_lt (q : Q (.o (.bl (decide (i < j)))) e) : Xo X G (.cmp .Lt) T (.o (.int i)) (.o (.int j)) e Q := o_cmp0 op_lt q
theorem o_le (q : Q (.o (.bl (decide (i ≤ j)))) e) : Xo X G (.cmp .LtE) T (.o (.int i)) (.o (.int j)) e Q := o_cmp0 op_le q
theorem o_gt (q : Q (.o (.bl (decide (j < i)))) e) : Xo X G (.cmp .Gt) T (.o (.int i)) (.o (.int j)) e Q := o_cmp0 op_gt q
theorem o_ge (q : Q (.o (.bl (decide (j ≤ i)))) e) : Xo X G (.cmp .GtE) T (.o (.int i)) (.o (.int j)) e Q := o_cmp0 op_ge q
theorem u_neg (q : Q (.o (.int (-i))) e) : Xu X G (.un .USub) T (.o (.int i)) e Q :=
  .of un_neg fun va tv σ H s => by
    obtain ⟨rfl, s'⟩ := s.i1
    exact ⟨i, rfl, _, e, s'.push (.int _), q⟩
/-- == and != of two ints | bools | texts -/
theorem scal_eq {m n : M} {va vb : V} {H : Hp} {K : PySem.W.Frag} {f g : FP} (r1 : RM K H va m f) (r2 : RM K H vb n g) : True := trivial
theorem o_eqI (q : Q (.o (.bl (decide (i = j)))) e) : Xo X G (.cmp .Eq) T (.o (.int i)) (.o (.int j)) e Q :=
  .of op_eq fun va vb tv σ H s => by
    obtain ⟨rfl, rfl, s'⟩ := s.i2
    refine ⟨rfl, _, e, s'.push (.bl _), ?_⟩
    rw [show decide (V.int i = V.int j) = decide (i = j) from by by_cases h : i = j <;> simp [h]]
    exact q
theorem o_neI (q : Q (.o (.bl (!decide (i = j)))) e) : Xo X G (.cmp .NotEq) T (.o (.int i)) (.o (.int j)) e Q :=
  .of op_ne fun va vb tv σ H s => by
    obtain ⟨rfl, rfl, s'⟩ := s.i2
    refine ⟨rfl, _, e, s'.push (.bl _), ?_⟩
    rw [show decide (V.int i = V.int j) = decide (i = j) from by by_cases h : i = j <;> simp [h]]
    exact q
theorem o_eqB {k l : Bool} (q : Q (.o (.bl (k == l))) e) : Xo X G (.cmp .Eq) T (.o (.bl k)) (.o (.bl l)) e Q :=
  .of op_eq fun va vb tv σ H s => by
    obtain ⟨rfl, s'⟩ := s.b1
    obtain ⟨rfl, s''⟩ := s'.b1
    refine ⟨rfl, _, e, s''.push (.bl _), ?_⟩
    rw [show decide (V.bl k = V.bl l) = (k == l) from dec_bl]
    exact q
theorem o_neB {k l : Bool} (q : Q (.o (.bl (k != l))) e) : Xo X G (.cmp .NotEq) T (.o (.bl k)) (.o (.bl l)) e Q :=
  .of op_ne fun va vb tv σ H s => by
    obtain ⟨rfl, s'⟩ := s.b1
    obtain ⟨rfl, s''⟩ := s'.b1
    refine ⟨rfl, _, e, s''.push (.bl _), ?_⟩
    rw [show decide (V.bl k = V.bl l) = (k == l) from dec_bl]
    exact q
theorem o_eqS {x y : Str} (q : Q (.o (.bl (decide (x = y)))) e) : Xo X G (.cmp .Eq) T (.o (.str x)) (.o (.str y)) e Q :=
  .of op_eq fun va vb tv σ H s => by
    obtain ⟨rfl, s'⟩ := s.s1
    obtain ⟨rfl, s''⟩ := s'.s1
    refine ⟨rfl, _, e, s''.push (.bl _), ?_⟩
    rw [show decide (V.str x = V.str y) = decide (x = y) from by by_cases h : x = y <;> simp [h]]
    exact q
theorem o_neS {x y : Str} (q : Q (.o (.bl (!decide (x = y)))) e) : Xo X G (.cmp .NotEq) T (.o (.str x)) (.o (.str y)) e Q :=
  .of op_ne fun va vb tv σ H s => by
    obtain ⟨rfl, s'⟩ := s.s1
    obtain ⟨rfl, s''⟩ := s'.s1
    refine ⟨rfl, _, e, s''.push (.bl _), ?_⟩
    rw [show decide (V.str x = V.str y) = decide (x = y) from by by_cases h : x = y <;> simp [h]]
    exact q
theorem o_addS {x y : Str} (hl : x.length + y.length ≤ sizeLine) (q : Q (.o (.str (x ++ y))) e) : Xo X G (.bin .Add) T (.o (.str x)) (.o (.str y)) e Q :=
  .of op_add_str fun va vb tv σ H s => by
    obtain ⟨rfl, s'⟩ := s.s1
    obtain ⟨rfl, s''⟩ := s'.s1
    exact ⟨x, y, rfl, rfl, hl, _, e, s''.push (.str _), q⟩
/-- is None, is not None -/
def M.isNon : M → Bool
  | .non => true
  | _ => false
theorem see_non {K : PySem.W.Frag} {H : Hp} {v : V} {m : M} {f : FP} (r : RM K H v m f) (hr : ∀ w, m ≠ .raw w) (ho : ∀ A, m ≠ .obj A) : decide (v = .non) = m.isNon := by
  cases r <;> first | rfl | (exact absurd rfl (hr _)) | (exact absurd rfl (ho _))
def M.plain : M → Bool
  | .raw _ => false
  | .obj _ => false
  | _ => true
theorem plain_ne {m : M} (h : m.plain = true) : (∀ w, m ≠ .raw w) ∧ ∀ A, m ≠ .obj A := ⟨fun w z => (by rw [z] at h; cases h), fun w z => (by rw [z] at h; cases h)⟩
theorem o_is {ta : Tm} {m : M} (hs : see e ta = some m) (hp : m.plain = true) (q : Q (.o (.bl m.isNon)) e) : Xo X G (.cmp .Is) T ta (.o .non) e Q :=
  .of op_isN fun va vb tv σ H s => by
    obtain ⟨f, r, _⟩ := s.top
    cases r
    obtain ⟨g, r'⟩ := s.pop.see hs
    refine ⟨rfl, _, e, s.pop.pop.push (.bl _), ?_⟩
    rw [see_non r' (plain_ne hp).1 (plain_ne hp).2]
    exact q
theorem o_isnot {ta : Tm} {m : M} (hs : see e ta = some m) (hp : m.plain = true) (q : Q (.o (.bl (!m.isNon))) e) : Xo X G (.cmp .IsNot) T ta (.o .non) e Q :=
  .of op_notN fun va vb tv σ H s => by
    obtain ⟨f, r, _⟩ := s.top
    cases r
    obtain ⟨g, r'⟩ := s.pop.see hs
    refine ⟨rfl, _, e, s.pop.pop.push (.bl _), ?_⟩
    rw [see_non r' (plain_ne hp).1 (plain_ne hp).2]
    exact q
end

/-! ### statements -/
section
variable {X : Cx} {G : Gh} {T : List Tm} {e : Ev} {D : MD} {pos : Pos}
theorem Xs.of {st : Stmt} {t : TS} (h : PS X st t) (k : ∀ tv σ H, SRg X.K G T tv e σ H → t (low X.K G T tv D) σ H) : Xs X G T e st D := ⟨fun tv σ H s pins sh I => h.run pins sh σ H _ I (k tv σ H s)⟩
theorem Xb.of {st : List Stmt} {t : TS} (h : PSs X st t) (k : ∀ tv σ H, SRg X.K G T tv e σ H → t (low X.K G T tv D) σ H) : Xb X G T e st D := ⟨fun tv σ H s pins sh I => h.run pins sh σ H _ I (k tv σ H s)⟩
theorem b_nil (h : D.nx e) : Xb X G T e [] D := .of pss_nil fun tv σ H s => ⟨e, s, h⟩
theorem b_cons {st : Stmt} {rest : List Stmt} (h : Xs X G T e st { D with nx := fun e1 => Xb X G T e1 rest D }) : Xb X G T e (st :: rest) D :=
  .of (pss_cons (ps_self st) (pb_self rest)) fun tv σ H s pins sh I => thn (h.run tv σ H s pins sh I) fun f s1 q => by
    cases f with
    | next =>
      obtain ⟨σ1, H1, I1, e1, s2, h2⟩ := q
      exact ⟨σ1, H1, I1, fun pins sh I => h2.run tv σ1 H1 s2 pins sh I⟩
    | ret v => exact q
    | brk => exact q
    | cont => exact q
/-- the last one -/
theorem b_one {st : Stmt} (h : Xs X G T e st D) : Xb X G T e [st] D :=
  .of (pss_one (ps_self st)) fun tv σ H s => h.run tv σ H s
/-- with a word between -/
theorem b_cut (Mid : Ev → Prop) {st : Stmt} {rest : List Stmt} (h : Xs X G T e st { D with nx := Mid }) (k : ∀ e1, Mid e1 → Xb X G T e1 rest D) : Xb X G T e (st :: rest) D :=
  b_cons ⟨fun tv σ H s pins sh I => thn (h.run tv σ H s pins sh I) fun f s1 q => by
    cases f with
    | next =>
      obtain ⟨σ1, H1, I1, e1, s2, h2⟩ := q
      exact ⟨σ1, H1, I1, e1, s2, k e1 h2⟩
    | ret v => exact q
    | brk => exact q
    | cont => exact q⟩
theorem s_pass (h : D.nx e) : Xs X G T e (.Pass pos) D := .of ps_pass fun tv σ H s => ⟨e, s, h⟩
theorem s_break (h : D.bk e) : Xs X G T e (.Break pos) D := .of ps_break fun tv σ H s => ⟨e, s, h⟩
theorem s_cont (h : D.ct e) : Xs X G T e (.Continue pos) D := .of ps_continue fun tv σ H s => ⟨e, s, h⟩
theorem s_expr {ex : Expr} (h : Xp X G T e ex fun _ e1 => D.nx e1) (hs : swapsWith ex none pos.line X.env = pure false := by rfl) : Xs X G T e (.Expr ex pos) D :=
  .of (ps_expr (pe_self ex) hs) fun tv σ H s pins sh I => thn (h.run tv σ H s pins sh I) fun u s1 ⟨v, H1, I1, r1, t, e1, s2, hQ⟩ => ⟨v, H1, I1, r1, e1, s2.pop, hQ⟩
/-- a value is wanted as a thing of its own -/
def kO (Q : M → Ev → Prop) : Tm → Ev → Prop := fun t e => ∃ m e2, own e t = some (m, e2) ∧ Q m e2
theorem ix_lt' {K : PySem.W.Frag} {N : List Str} {T : List Tm} {tv : List V} {σ : St} {H : Hp} {i : Nat} {x : Str} (hσ : σ.length = N.length) (s : SRg K G T tv e σ H) (hi : N[i]? = some x) : i < e.length := by
  obtain ⟨⟨f, g, h1, h2, h3, h4, h5⟩, h6⟩ := s
  rw [← h2.length, hσ]
  exact (List.getElem?_eq_some_iff.mp hi).1
theorem ix_lt {K : PySem.W.Frag} {T : List Tm} {tv : List V} {pins : List (Addr × Obj)} {σ : St} {H H' : Hp} {sh : Shared} {i : Nat} {x : Str} (I : Inv X pins σ H sh) (s : SRg K G T tv e σ H') (hi : X.N[i]? = some x) : i < e.length := ix_lt' I.len s hi
theorem s_set {i : Nat} {x : Str} {ex : Expr} {pos' : Pos} (hn : noB i T = true) (hN : X.N.Nodup) (hi : X.N[i]? = some x) (hx : Loc X.env.scope x) (h : Xp X G T e ex (kO fun m e1 => D.nx (e1.set i (.v m))))
    (hs : swapsWith ex (some (.Name x pos')) pos.line X.env = pure false := by rfl) (hf : X.fn x = true ∨ X.env.scope.names.lookup x = some .local := by first | exact .inl rfl | exact .inr rfl | assumption) : Xs X G T e (.Assign [.Name x pos'] ex pos) D :=
  .of (ps_set hN hi hx (pe_self ex) hs hf) fun tv σ H s pins sh I => thn (h.run tv σ H s pins sh I) fun u s1 ⟨v, H1, I1, r1, t, e1, s2, m, e2, ho, hQ⟩ => ⟨v, H1, I1, r1, _, (s2.own ho).storeT (ix_lt I1 (s2.own ho) hi) hn, hQ⟩
theorem s_ret {ex : Expr} (h : Xp X G T e ex (kO fun m e1 => D.rt m e1)) : Xs X G T e (.Return (some ex) pos) D :=
  .of (ps_ret (pe_self ex)) fun tv σ H s pins sh I => thn (h.run tv σ H s pins sh I) fun u s1 ⟨v, H1, I1, r1, t, e1, s2, m, e2, ho, hQ⟩ => ⟨v, H1, I1, r1, m, e2, σ, by
    have s3 := s2.own ho
    obtain ⟨⟨f, g, h1, h2, h3, h4, h5⟩, h6⟩ := s3
    cases h1 with
    | o r h1 hd => exact .mk' (.o r .nil (dis_e' _)) h2 (dis_u.mpr ⟨(dis_u.mp h3).1, dis_e _⟩) (h4.left.u .e) h5 h6, hQ⟩
theorem s_retN (h : D.rt .non e) : Xs X G T e (.Return none pos) D :=
  .of ps_retN fun tv σ H s => ⟨.non, e, σ, by
    obtain ⟨⟨f, g, h1, h2, h3, h4, h5⟩, h6⟩ := s
    exact SR.push (.mk' (f := fE) .nil h2 (dis_e _) .e h5 h6) .non, h⟩
theorem s_if {c : Expr} {a b : List Stmt} (h : Xt X G T e c fun k e1 => (k = true → Xb X G T e1 a D) ∧ (k = false → Xb X G T e1 b D)) : Xs X G T e (.If c a b pos) D :=
  .of (ps_if (pt_self c) (pb_self a) (pb_self b)) fun tv σ H s pins sh I => thn (h.run tv σ H s pins sh I) fun k s1 ⟨H1, I1, e1, s2, h2⟩ => ⟨H1, I1, by
    cases k with
    | true => exact iteT fun pins sh I => (h2.1 rfl).run tv σ H1 s2 pins sh I
    | false => exact iteF fun pins sh I => (h2.2 rfl).run tv σ H1 s2 pins sh I⟩
/-- name op= e, the name a scalar -/
theorem s_aug {i : Nat} {x : Str} {ex : Expr} {op : Operator} {pos' : Pos} {sl : Slot} {m : M} (hn : noB i T = true) (hN : X.N.Nodup) (hi : X.N[i]? = some x) (hx : Loc X.env.scope x) (he : e[i]? = some sl) (hm : sl.m? = some m) (himm : m.imm = true)
    (h : Xp X G (.o m :: T) e ex fun t e1 => Xo X G (.inp op) T (.o m) t e1 (kO fun m' e2 => D.nx (e2.set i (.v m'))))
    (hf : X.fn x = true ∨ X.env.scope.names.lookup x = some .local := by first | exact .inl rfl | exact .inr rfl | assumption) : Xs X G T e (.AugAssign (.Name x pos') op ex pos) D :=
  .of (ps_aug hN hi hx (pe_self ex) (ti := wpO X (inplaceOp op)) (fun pins s σ H x y v u Q I rx ry hh => hh pins s σ v u I rx ry) hf) fun tv σ H s => by
    obtain ⟨v, f, q1, q2⟩ := s.slot he hm
    have z := q2.imm m himm
    subst z
    refine ⟨v, q1, fun pins sh I => thn (h.run (v :: tv) σ H (s.push q2) pins sh I) fun u s1 ⟨w, H1, I1, r1, t, e1, s2, h2⟩ => ⟨w, H1, I1, r1, fun pins sh σ' v' u' I' r1 r2 =>
      have hσ := I1.len; thn (h2.run v w tv σ H1 s2 pins sh σ' v' u' I' r1 r2) fun u s3 ⟨z, H2, I2, r2, t', e2, s4, m', e3, ho, hQ⟩ => ⟨z, H2, I2, r2, _, (s4.own ho).storeT (ix_lt' hσ (s4.own ho) hi) hn, hQ⟩⟩⟩
end
end SY
namespace SY
open PySem L2
open PyProof.Rows (envOfC)

/-! ### promises over data -/
abbrev MSp := List M → (List M → M → Prop) → (Addr → List (Str × M) → Prop) → Prop
/-- an exception's dict: its fields -/
def xdA (K : PySem.W.Frag) (fs : List (Str × M)) : Asrt where
  P := fun v H f => ∃ (d : Addr) (xs : List (Str × V)), v = .ref d ∧ H d = some (.xd xs) ∧ xs.map (·.1) = fs.map (·.1) ∧ RMs K H (xs.map (·.2)) (fs.map (·.2)) fE ∧ f = fS d
  st := fun ⟨d, xs, h1, h2, h3, h4, h5⟩ k n => by
    subst h5
    exact ⟨d, xs, h1, k.k _ _ h2 (n d rfl), h3, RMs.frame k _ h4 (dis_e _), rfl⟩
  th := fun ⟨d, xs, h1, h2, h3, h4, h5⟩ b z => by
    subst h5
    exact ⟨_, by rw [show b = d from z]; exact h2⟩
def toSp (K : PySem.W.Frag) (FS : MSp) : Sp := fun vs H Q E => ∃ (ms : List M) (f : FP) (Qm : List M → M → Prop) (Em : Addr → List (Str × M) → Prop), RMs K H vs ms f ∧ FS ms Qm Em ∧
  (∀ ms' m, Qm ms' m → ∀ v H' f', RMs K H' (v :: vs) (m :: ms') f' → Keep f H H' → Own f H f' → Q v H') ∧
  (∀ C fs, Em C fs → ∀ d H' f', RM K H' (.ref d) (.obj (xdA K fs)) f' → Keep f H H' → Own f H f' → E (.ref C) (some d) H')
/-- an exception on its way out, over the entry G: what the slots are by then -/
def WS (K : PySem.W.Frag) (G : Gh) (Em : Addr → List (Str × M) → Ev → Prop) : WX := fun cls d σ H => ∃ C fs d' e, cls = .ref C ∧ d = some d' ∧ Em C fs e ∧ SRg K G [.o (.obj (xdA K fs))] [.ref d'] e σ H
abbrev WG (K : PySem.W.Frag) (G : Gh) (Em : Addr → List (Str × M) → Prop) : WX := WS K G fun C fs _ => Em C fs

def argsE : Nat → List M → Ev
  | _, [] => []
  | i, m :: ms => .a i m :: argsE (i + 1) ms
def startE (ms : List M) (n : Nat) : Ev := argsE 0 ms ++ List.replicate (n - ms.length) .un
inductive Back : Nat → List M → Ev → List M → Prop
  | nil {i : Nat} {e : Ev} : Back i [] e []
  | keep {i : Nat} {m : M} {ms ms' : List M} {s : Slot} {e : Ev} : m.imm = true → Back (i + 1) ms e ms' → Back i (m :: ms) (s :: e) (m :: ms')
  | arg {i : Nat} {m m' : M} {ms ms' : List M} {e : Ev} : Back (i + 1) ms e ms' → Back i (m :: ms) (.a i m' :: e) (m' :: ms')

section
variable {K : PySem.W.Frag} {H H' : Hp}
theorem er_un {av : List V} : ∀ n, ER K H av (List.replicate n none) (List.replicate n .un) fE
  | 0 => .nil
  | n + 1 => .un (er_un n)
theorem er_args {av : List V} : ∀ {ms : List M} {vs : List V} {f : FP} {i n : Nat}, RMs K H vs ms f → (∀ j v, vs[j]? = some v → av[i + j]? = some v) → ER K H av (vs.map some ++ List.replicate n none) (argsE i ms ++ List.replicate n .un) f
  | [], _, _, _, n, h, _ => by cases h; exact er_un n
  | m :: ms, _, _, i, n, h, hav => by
    cases h with
    | cons h1 h2 hd =>
      refine .s (s := .a i m) rfl (show av[i]? = some _ by simpa using hav 0 _ rfl) h1 (er_args h2 fun j v e => ?_) hd
      have := hav (j + 1) v (by simpa using e)
      rwa [show i + (j + 1) = i + 1 + j from by omega] at this
theorem back_ok {av : List V} {H0 : Hp} {f0 : FP} (k : Keep f0 H0 H') : ∀ {ms ms' : List M} {e : Ev} {i : Nat} {σ : St} {g f : FP} {vs : List V}, Back i ms e ms' → ER K H' av σ e g → RMs K H0 vs ms f → (∀ j v, vs[j]? = some v → av[i + j]? = some v) →
    ∃ g', RMs K H' vs ms' g' ∧ ∀ b, g' b → g b
  | _, _, _, _, _, _, _, _, .nil, h, r, _ => by cases r; exact ⟨fE, .nil, fun _ z => z.elim⟩
  | _, _, _, i, _, _, _, _, .keep hi hb, h, r, hav => by
    cases r with
    | cons r1 r2 rd =>
      have hav' : ∀ j v, _ := fun j v e => by
        have := hav (j + 1) v (by simpa using e)
        rwa [show i + (j + 1) = i + 1 + j from by omega] at this
      have z := r1.imm _ hi
      subst z
      have r1' := RM.frame k _ r1 (dis_e _)
      cases h with
      | un h =>
        obtain ⟨g', q1, q2⟩ := back_ok k hb h r2 hav'
        exact ⟨fU fE g', .cons r1' q1 (dis_e _), fun b z => z.elim (fun y => y.elim) (q2 b)⟩
      | s _ _ _ h _ =>
        obtain ⟨g', q1, q2⟩ := back_ok k hb h r2 hav'
        exact ⟨fU fE g', .cons r1' q1 (dis_e _), fun b z => z.elim (fun y => y.elim) (fun y => .inr (q2 b y))⟩
  | _, _, _, i, _, _, _, _, .arg hb, h, r, hav => by
    cases r with
    | cons r1 r2 rd =>
      have hav' : ∀ j v, _ := fun j v e => by
        have := hav (j + 1) v (by simpa using e)
        rwa [show i + (j + 1) = i + 1 + j from by omega] at this
      cases h with
      | s a0 a1 a2 h hd =>
        cases a0
        have e0 := hav 0 _ rfl
        rw [Nat.add_zero] at e0
        have a1' : av[i]? = some _ := a1
        rw [a1'] at e0; cases e0
        obtain ⟨g', q1, q2⟩ := back_ok k hb h r2 hav'
        exact ⟨fU _ g', .cons a2 q1 fun b x y => hd b x (q2 b y), fun b z => z.elim .inl fun y => .inr (q2 b y)⟩
end

/-- a def's body in its context -/
abbrev bX (P : Program) (w : World) (K : PySem.W.Frag) (mg : Str → Option Value) (base : Heap) (N : List Str) (qual : Str) (st : Stmt) (f : Addr) (cdv : Value) (A : Around) (outer : List Env) (s : Shared) (H : Hp) (E : XK) : Cx :=
  cxOf (L2.CX P w) P w K mg base N qual (defScope st) f cdv A outer s H E
abbrev fnD (ms : List M) (Q : List M → M → Prop) : MD where
  nx := fun e => ∃ ms', Back 0 ms e ms' ∧ Q ms' .non
  rt := fun m e => ∃ ms', Back 0 ms e ms' ∧ Q ms' m

section
variable {P : Program} {w : World} {K : PySem.W.Frag} {mg : Str → Option Value} {base : Heap}
theorem fn_sy {x qual : Str} {st : Stmt} {f : Addr} {fd : FuncData} {N ps : List Str} {k : Nat} {FS : MSp} (F : Fun K x qual st f fd) (S : FnScope N ps (defScope st)) (len : ∀ ms Q E, FS ms Q E → ms.length = ps.length)
    (body : ∀ (cdv : Value) (A : Around) (outer : List Env) (s : Shared) (H : Hp) (E : XK) (G : Gh) (ms : List M) (Q : List M → M → Prop) (Em : Addr → List (Str × M) → Prop), Room k (A.deeper (envOfC qual (defScope st) s.heap.objs.size f cdv)) → FS ms Q Em →
      Takes (bX P w K mg base N qual st f cdv A outer s H E) (WG K G Em) → PassesOwn (model P w) (bX P w K mg base N qual st f cdv A outer s H E).A (bX P w K mg base N qual st f cdv A outer s H E).env (bX P w K mg base N qual st f cdv A outer s H E).xe →
      Xb (bX P w K mg base N qual st f cdv A outer s H E) G [] (startE ms N.length) (defBody st) (fnD ms Q)) :
    FnOk P w K mg base (L2.CX P w) (k + 1) f fd ps (toSp K FS) := by
  refine F.okX S (fun vs H Q E h => ?_) (fun cdv A outer s H vs Q E hr h => ?_)
  · obtain ⟨ms, f, Qm, Em, r, hf, _⟩ := h
    rw [r.length]
    exact len _ _ _ hf
  · obtain ⟨ms, f0, Qm, Em, r, hf, hQ, hE⟩ := h
    refine ⟨_, pb_self _, ?_⟩
    have tk0 : Takes (bX P w K mg base N qual st f cdv A outer s H E) (fun cls d _ H => E cls d H) := takes_of rfl rfl rfl rfl
    have po : PassesOwn (model P w) (bX P w K mg base N qual st f cdv A outer s H E).A (bX P w K mg base N qual st f cdv A outer s H E).env (bX P w K mg base N qual st f cdv A outer s H E).xe := passes_of (X := bX P w K mg base N qual st f cdv A outer s H E) rfl
    have b := body cdv A outer s H E ⟨H, f0, vs⟩ ms Qm Em hr hf (tk0.imp fun cls d σ H' ⟨C, fs, d', e, h1, h2, h3, h5⟩ => by
      subst h1; subst h2
      obtain ⟨⟨f, g, k1, k2, k3, k4, k5⟩, k6⟩ := h5
      cases k1 with
      | o rm k1 hd => exact hE C fs h3 d' H' _ rm k6 k4.left) po
    have s0 : SRg K ⟨H, f0, vs⟩ [] [] (startE ms N.length) (L2.start N vs) H := by
      refine .mk' (f := fE) .nil ?_ (dis_e _) .e (fun b z => .inl z) .refl
      have := er_args (av := vs) (i := 0) (n := N.length - vs.length) r (fun j v e => by simpa using e)
      rw [r.length] at this
      rw [startE, L2.start, r.length]
      exact this
    have fin : ∀ {m : M} {v : V} {e : Ev} {σ : St} {H' : Hp} {ms' : List M}, SRg K ⟨H, f0, vs⟩ [.o m] [v] e σ H' → Back 0 ms e ms' → ∃ f', RMs K H' (v :: vs) (m :: ms') f' ∧ Keep f0 H H' ∧ Own f0 H f' := by
      intro m v e σ H' ms' s hb
      obtain ⟨⟨f, g, h1, h2, h3, h4, h5⟩, h6⟩ := s
      cases h1 with
      | o rm h1 hd =>
        cases h1
        obtain ⟨g', q1, q2⟩ := back_ok h6 hb h2 r (fun j v e => by simpa using e)
        exact ⟨fU _ g', .cons rm q1 fun b x y => (dis_u.mp h3).1 b x (q2 b y), h6, h4.left.u fun b z => h5 b (q2 b z)⟩
    intro pins sh I
    refine thn (b.run [] _ H s0 pins sh I) fun fl s1 q => ?_
    cases fl with
    | next =>
      obtain ⟨σ', H', I', e', s2, ms', hb, hq⟩ := q
      obtain ⟨f', q1, q2, q3⟩ := fin (s2.push .non) hb
      exact ⟨σ', H', I', hQ _ _ hq _ _ f' q1 q2 q3⟩
    | ret u =>
      obtain ⟨v, σ', H', I', rv, m, e', σ'', s2, ms', hb, hq⟩ := q
      obtain ⟨f', q1, q2, q3⟩ := fin s2 hb
      exact ⟨v, σ', H', I', rv, hQ _ _ hq _ _ f' q1 q2 q3⟩
    | brk =>
      obtain ⟨σ', H', I', e', s2, z⟩ := q
      exact z.elim
    | cont =>
      obtain ⟨σ', H', I', e', s2, z⟩ := q
      exact z.elim
end
end SY
namespace SY
open PySem L2
open PyProof.Rows (envOfC)

/-- the arguments as things of their own (the last one first) -/
def takesR : Ev → List Tm → Option (List M × Ev)
  | e, [] => some ([], e)
  | e, t :: r => (own e t).bind fun p => (takesR p.2 r).map fun q => (p.1 :: q.1, q.2)
/-- .. put back, as they are behind the call (the last one first) -/
def putsR (e1 : Ev) : Ev → List Tm → List M → Option Ev
  | e, [], [] => some e
  | e, .o _ :: r, _ :: ms => putsR e1 e r ms
  | e, .b i :: r, m :: ms => match e1[i]?, e[i]? with
    | some s, some .un => match s.m? with
      | some _ => putsR e1 (e.set i (s.put m)) r ms
      | none => none
    | _, _ => none
  | _, _, _ => none

section
variable {K : PySem.W.Frag} {H H' : Hp} {av : List V} {σ : St}
theorem RMs.snoc : ∀ {ms : List M} {vs : List V} {f : FP} {m : M} {v : V} {g : FP}, RMs K H vs ms f → RM K H v m g → Dis g f → RMs K H (vs ++ [v]) (ms ++ [m]) (fU f g) := fun h r d => by
  have := h.append (.cons r .nil (dis_e' _)) (dis_u'.mpr ⟨d.symm, dis_e' _⟩)
  rwa [fU_e'] at this
/-- what a call is given: from the pending values -/
theorem split_args : ∀ {rts : List Tm} {rvs : List V} {T : List Tm} {tv : List V} {e e2 : Ev} {f g : FP} {rms : List M}, rvs.length = rts.length → takesR e rts = some (rms, e2) → TR K H σ (rvs ++ tv) (rts ++ T) f → ER K H av σ e g → Dis f g →
    ∃ fa f' g', RMs K H rvs.reverse rms.reverse fa ∧ TR K H σ tv T f' ∧ ER K H av σ e2 g' ∧ Dis fa f' ∧ Dis fa g' ∧ Dis f' g' ∧ (∀ b, fa b → f b ∨ g b) ∧ (∀ b, f' b → f b) ∧ (∀ b, g' b → g b) ∧
      (∀ (j i : Nat), rts[j]? = some (Tm.b i) → ∀ v : V, rvs[j]? = some v → σ[i]? = some (some v) ∧ ∀ (s : Slot) (m : M), e[i]? = some s → s.m? = some m → s.arg av v)
  | [], rvs, T, tv, e, e2, f, g, rms, hl, ht, h1, h2, hd => by
    cases rvs with
    | cons => cases hl
    | nil =>
      cases ht
      exact ⟨fE, f, g, .nil, h1, h2, dis_e _, dis_e _, hd, fun _ z => z.elim, fun _ z => z, fun _ z => z, fun j i z => by simp at z⟩
  | t :: r, rvs, T, tv, e, e2, f, g, rms, hl, ht, h1, h2, hd => by
    cases rvs with
    | nil => cases hl
    | cons v rvs =>
      obtain ⟨⟨m, e'⟩, q1, q2⟩ := Option.bind_eq_some_iff.mp (show (own e t).bind _ = some (rms, e2) from ht)
      obtain ⟨⟨ms, e''⟩, q3, q4⟩ := Option.map_eq_some_iff.mp q2
      cases q4
      have hl' : rvs.length = r.length := by simpa using hl
      cases t with
      | o m' =>
        cases q1
        cases h1 with
        | o rm h1 hd1 =>
          obtain ⟨d1, d2⟩ := dis_u.mp hd
          obtain ⟨fa, f', g', k1, k2, k3, k4, k5, k6, k7, k8, k9, k10⟩ := split_args hl' q3 h1 h2 d2
          refine ⟨fU fa _, f', g', ?_, k2, k3, dis_u.mpr ⟨k4, fun b x y => hd1 b x (k8 b y)⟩, dis_u.mpr ⟨k5, fun b x y => d1 b x (k9 b y)⟩, k6, fun b z => z.elim (fun z => (k7 b z).imp .inr id) (fun z => .inl (.inl z)), fun b z => .inr (k8 b z), k9, ?_⟩
          · rw [List.reverse_cons, List.reverse_cons]
            exact k1.snoc rm fun b x y => (k7 b y).elim (hd1 b x) (d1 b x)
          · intro j i z w hw
            cases j with
            | zero => simp at z
            | succ j => exact k10 j i (by simpa using z) w (by simpa using hw)
      | b i =>
        cases q : e[i]?.bind Slot.m? with
        | none =>
          have o' : (e[i]?.bind Slot.m?).map (fun m => (m, e.set i Slot.un)) = some (m, e') := q1
          rw [q] at o'; cases o'
        | some m' =>
          have o' : (e[i]?.bind Slot.m?).map (fun m => (m, e.set i Slot.un)) = some (m, e') := q1
          rw [q] at o'
          cases o'
          obtain ⟨s, hs, hm⟩ := Option.bind_eq_some_iff.mp q
          cases h1 with
          | b rv h1 =>
            obtain ⟨w, f1, f2, p0, p1, p2, p3, p4, p5⟩ := h2.take hs hm
            subst p0
            rw [p2] at rv; cases rv
            obtain ⟨d1, d2⟩ := dis_u'.mp hd
            obtain ⟨fa, f', g', k1, k2, k3, k4, k5, k6, k7, k8, k9, k10⟩ := split_args hl' q3 h1 p5 d2
            refine ⟨fU fa f1, f', g', ?_, k2, k3, dis_u.mpr ⟨k4, fun b x y => d1 b (k8 b y) x⟩, dis_u.mpr ⟨k5, fun b x y => p1 b x (k9 b y)⟩, k6, fun b z => z.elim (fun z => (k7 b z).imp id .inr) (fun z => .inr (.inl z)), k8, fun b z => .inr (k9 b z), ?_⟩
            · rw [List.reverse_cons, List.reverse_cons]
              exact k1.snoc p4 fun b x y => (k7 b y).elim (fun y => d1 b y x) (p1 b x)
            · intro j i' z w hw
              cases j with
              | zero =>
                simp at z hw
                subst z; subst hw
                refine ⟨p2, fun s' m' h1 h2 => ?_⟩
                rw [hs] at h1; cases h1
                exact p3
              | succ j =>
                obtain ⟨y1, y2⟩ := k10 j i' (by simpa using z) w (by simpa using hw)
                refine ⟨y1, fun s' m' h1 h2 => ?_⟩
                by_cases e0 : i = i'
                · subst e0
                  rw [hs] at h1; cases h1
                  rw [p2] at y1; cases y1
                  exact p3
                · exact y2 s' m' (by rw [List.getElem?_set_ne e0]; exact h1) h2
theorem join_args {e1 : Ev} : ∀ {rts : List Tm} {rvs : List V} {rms : List M} {e e3 : Ev} {fa g : FP}, rvs.length = rts.length → putsR e1 e rts rms = some e3 → RMs K H rvs.reverse rms.reverse fa → ER K H av σ e g → Dis fa g →
    (∀ (j i : Nat), rts[j]? = some (Tm.b i) → ∀ v : V, rvs[j]? = some v → σ[i]? = some (some v) ∧ ∀ (s : Slot) (m : M), e1[i]? = some s → s.m? = some m → s.arg av v) → ∃ g', ER K H av σ e3 g' ∧ ∀ b, g' b → fa b ∨ g b
  | [], rvs, rms, e, e3, fa, g, hl, hp, hr, h2, hd, _ => by
    cases rms with
    | nil => cases hp; exact ⟨g, h2, fun _ z => .inr z⟩
    | cons => cases hp
  | t :: r, rvs, rms, e, e3, fa, g, hl, hp, hr, h2, hd, hv => by
    cases rvs with
    | nil => cases hl
    | cons v rvs =>
      have hl' : rvs.length = r.length := by simpa using hl
      cases rms with
      | nil => cases t <;> cases hp
      | cons m ms =>
        rw [List.reverse_cons, List.reverse_cons] at hr
        have sp : ∃ f1 f2, RMs K H rvs.reverse ms.reverse f1 ∧ RM K H v m f2 ∧ Dis f2 f1 ∧ (∀ b, f1 b → fa b) ∧ ∀ b, f2 b → fa b := by
          have gen : ∀ {ms : List M} {vs : List V} {m : M} {v : V} {fa : FP}, RMs K H (vs ++ [v]) (ms ++ [m]) fa → ∃ f1 f2, RMs K H vs ms f1 ∧ RM K H v m f2 ∧ Dis f2 f1 ∧ (∀ b, f1 b → fa b) ∧ ∀ b, f2 b → fa b := by
            intro ms
            induction ms with
            | nil =>
              intro vs m v fa h
              cases vs with
              | nil =>
                cases h with
                | cons h1 h2 hd => exact ⟨fE, _, .nil, h1, dis_e' _, fun _ z => z.elim, fun _ z => .inl z⟩
              | cons w vs =>
                cases h with
                | cons h1 h2 hd => have := h2.length; simp at this
            | cons m0 ms ih =>
              intro vs m v fa h
              cases vs with
              | nil =>
                cases h with
                | cons h1 h2 hd => have := h2.length; simp at this
              | cons w vs =>
                cases h with
                | cons h1 h2 hd =>
                  obtain ⟨f1, f2, k1, k2, k3, k4, k5⟩ := ih h2
                  exact ⟨fU _ f1, f2, .cons h1 k1 fun b x y => hd b x (k4 b y), k2, dis_u'.mpr ⟨fun b x y => hd b y (k5 b x), k3⟩, fun b z => z.imp id (k4 b), fun b z => .inr (k5 b z)⟩
          exact gen hr
        obtain ⟨f1, f2, k1, k2, k3, k4, k5⟩ := sp
        have hv' : ∀ (j i : Nat), r[j]? = some (Tm.b i) → ∀ w : V, rvs[j]? = some w → σ[i]? = some (some w) ∧ ∀ (s : Slot) (m : M), e1[i]? = some s → s.m? = some m → s.arg av w := fun j i z w hw => hv (j + 1) i (by simpa using z) w (by simpa using hw)
        cases t with
        | o m' =>
          obtain ⟨g', q1, q2⟩ := join_args (e1 := e1) hl' (show putsR e1 e r ms = some e3 from hp) k1 h2 (fun b x y => hd b (k4 b x) y) hv'
          exact ⟨g', q1, fun b z => (q2 b z).imp (k4 b) id⟩
        | b i =>
          have hp' : (match e1[i]?, e[i]? with
            | some s, some .un => match s.m? with
              | some _ => putsR e1 (e.set i (s.put m)) r ms
              | none => none
            | _, _ => none) = some e3 := hp
          cases hs : e1[i]? with
          | none => rw [hs] at hp'; cases hp'
          | some s =>
            rw [hs] at hp'
            cases hu : e[i]? with
            | none => rw [hu] at hp'; cases hp'
            | some u =>
              rw [hu] at hp'
              cases u with
              | v => cases hp'
              | a => cases hp'
              | un =>
                cases hm : s.m? with
                | none => simp only [hm] at hp'; cases hp'
                | some m0 =>
                  simp only [hm] at hp'
                  obtain ⟨y1, y2⟩ := hv 0 i rfl v rfl
                  have h3 := h2.fill hu (Slot.m_put (m' := m) hm) y1 (Slot.arg_put (y2 s m0 hs hm)) k2 (fun b x y => hd b (k5 b x) y)
                  obtain ⟨g', q1, q2⟩ := join_args (e1 := e1) hl' hp' k1 h3 (dis_u'.mpr ⟨k3.symm, fun b x y => hd b (k4 b x) y⟩) hv'
                  exact ⟨g', q1, fun b z => (q2 b z).elim (fun y => .inl (k4 b y)) (fun y => y.elim (fun y => .inl (k5 b y)) .inr)⟩
end

/-- a global def that keeps the promise FS, up to level k -/
structure FnG (P : Program) (w : World) (K : PySem.W.Frag) (mg : Str → Option Value) (base : Heap) (k : Nat) (x : Str) (FS : MSp) : Prop where
  ok : ∃ f fd ps, FnOk P w K mg base (L2.CX P w) k f fd ps (toSp K FS) ∧ mg x = some (.ref f) ∧ PySem.W.keepIn K (.ref f) = true ∧ Binds K fd ps []

/-- behind a call by values: from the callee's promise -/
theorem call_core {K : PySem.W.Frag} {G : Gh} {T ts : List Tm} {e e2 : Ev} {vs tv : List V} {σ : St} {H : Hp} {ms : List M} {FS : MSp} {Q : Tm → Ev → Prop} {Em : Addr → List (Str × M) → Ev → Prop}
    (s : SRg K G (ts.reverse ++ T) (vs.reverse ++ tv) e σ H) (hl : ts.length = vs.length) (ht : takesR e ts.reverse = some (ms.reverse, e2))
    (h : FS ms (fun ms' m => ∃ e3, putsR e e2 ts.reverse ms'.reverse = some e3 ∧ Q (.o m) e3) (fun C fs => Em C fs e2)) : toSp K FS vs H (kE K G T tv σ Q) (fun cls d H' => WS K G Em cls d σ H') := by
  obtain ⟨⟨f, g, h1, h2, h3, h4, h5⟩, h6⟩ := s
  obtain ⟨fa, f', g', k1, k2, k3, k4, k5, k6, k7, k8, k9, k10⟩ := split_args (av := G.av) (by simp [hl]) ht h1 h2 h3
  rw [List.reverse_reverse, List.reverse_reverse] at k1
  have oa : Own G.f0 G.H0 fa := fun b z => (k7 b z).elim (h4 b) (h5 b)
  have of' : Own G.f0 G.H0 f' := fun b z => h4 b (k8 b z)
  have og' : Own G.f0 G.H0 g' := fun b z => h5 b (k9 b z)
  refine ⟨ms, fa, _, (fun C fs => Em C fs e2), k1, h, fun ms' m ⟨e3, hp, hQ⟩ v H' fr r kp ow => ?_, fun C fs hE d H' fx rx kp ow => ⟨C, fs, d, e2, rfl, rfl, hE, ?_⟩⟩
  · cases r with
    | @cons _ _ _ _ fm fs rm rs rd =>
      have dfr : ∀ {F : FP}, Dis fa F → (∀ b, F b → ∃ u, H b = some u) → ∀ {F' : FP}, (∀ b, F' b → fU fm fs b) → Dis F' F := fun d t F' hF b x y => (ow b (hF b x)).elim (fun z => d b z y) (fun z => by
        obtain ⟨u, hu⟩ := t b y
        rw [hu] at z; cases z)
      have k2' := k2.frame kp k4.symm
      have k3' := k3.frame kp k5.symm
      have rs' : RMs K H' vs.reverse.reverse ms'.reverse.reverse fs := by rw [List.reverse_reverse, List.reverse_reverse]; exact rs
      obtain ⟨g2, q1, q2⟩ := join_args (e1 := e) (by simp [hl]) hp rs' k3' (dfr k5 k3.there fun b z => .inr z) k10
      have ofm : Own G.f0 G.H0 (fU fm fs) := Own.trans h6 oa ow
      refine ⟨.o m, e3, .mk' (.o rm k2' (dfr k4 k2.there fun b z => .inl z)) q1 ?_ (ofm.left.u of') (fun b z => (q2 b z).elim (fun y => ofm b (.inr y)) (og' b)) (h6.own oa kp), hQ⟩
      refine dis_u.mpr ⟨fun b x y => (q2 b y).elim (rd b x) (dfr k5 k3.there (F' := fm) (fun b z => .inl z) b x), fun b x y => (q2 b y).elim (fun y => dfr k4 k2.there (F' := fs) (fun b z => .inr z) b y x) (k6 b x)⟩
  · have dfr : ∀ {F : FP}, Dis fa F → (∀ b, F b → ∃ u, H b = some u) → Dis fx F := fun d t b x y => (ow b x).elim (fun z => d b z y) (fun z => by
      obtain ⟨u, hu⟩ := t b y
      rw [hu] at z; cases z)
    exact .mk' (f := fU fx fE) (.o rx .nil (dis_e' _)) (k3.frame kp k5.symm) (dis_u.mpr ⟨dfr k5 k3.there, dis_e _⟩) ((Own.trans h6 oa ow).u .e) og' (h6.own oa kp)

section
variable {X : Cx} {G : Gh} {T : List Tm} {e : Ev} {a : Expr} {es : List Expr} {Q : Tm → Ev → Prop} {p pos : Pos} {x : Str} {k : Nat} {FS : MSp} {Em : Addr → List (Str × M) → Ev → Prop}
/-- f(a, ..) -/
theorem x_call (F : FnG X.prog X.w X.K X.mg X.base k x FS) (hr : Room k X.A) (tk : Takes X (WS X.K G Em)) (hg : Gl X x)
    (h : Xa X G T e (a :: es) fun ts e1 => ∃ ms e2, takesR e1 ts.reverse = some (ms.reverse, e2) ∧ FS ms (fun ms' m => ∃ e3, putsR e1 e2 ts.reverse ms'.reverse = some e3 ∧ Q (.o m) e3) (fun C fs => Em C fs e2))
    (hdb : (x == ("__debug__" : Str)) = false := by decide) (he : starEach (a :: es) X.env = (false, eval a X.env) :: starEach es X.env := by rfl) (hpl : (backTo pos (starEach es X.env)).any (·.1) = false := by rfl) :
    Xp X G T e (.Call (.Name x p) (a :: es) [] pos) Q := by
  obtain ⟨f, fd, ps, ok, hm, hk, hb⟩ := F.ok
  refine .of (pe_callS ok hr hg hm hk hb (E := WE (WS X.K G Em)) (fun σ => passAt tk σ) (pa_self (a :: es)) hdb he hpl) fun tv σ H s pos pins sh I => ?_
  refine thn (h.run tv σ H s pos pins sh I) fun us s1 ⟨vs, H1, I1, r1, ts, e1, s2, hl, ms, e2, ht, hf⟩ => ⟨vs, H1, I1, r1, ?_⟩
  exact call_core s2 hl ht hf
end
end SY

namespace SY
open PySem L2
/-! ### forms with all premises told -/
section
variable {X : Cx} {G : Gh} {T : List Tm} {e : Ev} {Q : Tm → Ev → Prop} {pos : Pos} {m : M} {x : Str} {s : Slot} {a b : Expr}
theorem xn (he : e[nix X.N x]? = some s) (hm : s.m? = some m) (hi : m.imm = true) (hN : X.N[nix X.N x]? = some x) (hv : Vis X.env.scope x)
    (hd : ((x == ("__debug__" : Str)) || (x == ("__classdict__" : Str))) = false) (h : Q (.o m) e) : Xp X G T e (.Name x pos) Q := x_name hN hv he hm hi h (Bool.or_eq_false_iff.mp hd).1 (Bool.or_eq_false_iff.mp hd).2
theorem xnB (he : e[nix X.N x]? = some s) (hm : s.m? = some m) (hN : X.N[nix X.N x]? = some x) (hv : Vis X.env.scope x)
    (hd : ((x == ("__debug__" : Str)) || (x == ("__classdict__" : Str))) = false) (h : Q (.b (nix X.N x)) e) : Xp X G T e (.Name x pos) Q := x_nameB hN hv he hm h (Bool.or_eq_false_iff.mp hd).1 (Bool.or_eq_false_iff.mp hd).2
theorem kB_i {Q : Bool → Ev → Prop} {b : Bool} (h : Q b e) : kB Q (.o (.bl b)) e := ⟨b, rfl, h⟩
theorem kO_o {Q : M → Ev → Prop} (h : Q m e) : kO Q (.o m) e := ⟨m, e, rfl, h⟩
theorem kO_b {Q : M → Ev → Prop} {i : Nat} (he : e[i]? = some s) (hm : s.m? = some m) (h : Q m (e.set i .un)) : kO Q (.b i) e := ⟨m, _, by
  show (e[i]?.bind Slot.m?).map _ = _
  rw [he, Option.bind_some, hm]; rfl, h⟩
theorem xcmp {op : CmpOp} (hm : behindInMarks op b = false) (h : Xp X G T e a fun ta e1 => Xp X G (ta :: T) e1 b fun tb e2 => Xo X G (.cmp op) T ta tb e2 Q) : Xp X G T e (.Compare a [op] [b] pos) Q := x_cmp h hm
theorem tcmp {op : CmpOp} {Q : Bool → Ev → Prop} (hm : behindInMarks op b = false) (h : Xp X G T e a fun ta e1 => Xp X G (ta :: T) e1 b fun tb e2 => Xo X G (.cmp op) T ta tb e2 (kB Q)) : Xt X G T e (.Compare a [op] [b] pos) Q := t_cmp h hm
theorem tval {Q : Bool → Ev → Prop} (he : ∀ whole, isTrue a X.env whole = (do let v ← whole; standAt a.pos; holding [v] (truthy v))) (h : Xp X G T e a (kB Q)) : Xt X G T e a Q := t_val h he
theorem acons {es : List Expr} {Q : List Tm → Ev → Prop} (hs : starEach (a :: es) X.env = (false, eval a X.env) :: starEach es X.env) (h : Xp X G T e a fun t e1 => Xa X G (t :: T) e1 es fun ts e2 => Q (t :: ts) e2) : Xa X G T e (a :: es) Q := a_cons h hs
end
section
variable {X : Cx} {G : Gh} {T : List Tm} {e : Ev} {D : MD} {pos pos' : Pos} {x : Str} {ex : Expr}
theorem ss (hn : noB (nix X.N x) T = true) (hN : X.N.Nodup) (hi : X.N[nix X.N x]? = some x) (hx : Loc X.env.scope x) (hs : swapsWith ex (some (.Name x pos')) pos.line X.env = pure false) (hf : X.fn x = true ∨ X.env.scope.names.lookup x = some .local)
    (h : Xp X G T e ex (kO fun m e1 => D.nx (e1.set (nix X.N x) (.v m)))) : Xs X G T e (.Assign [.Name x pos'] ex pos) D := s_set hn hN hi hx h hs hf
theorem sa {sl : Slot} {m : M} {op : Operator} (hn : noB (nix X.N x) T = true) (hN : X.N.Nodup) (he : e[nix X.N x]? = some sl) (hm : sl.m? = some m) (himm : m.imm = true) (hi : X.N[nix X.N x]? = some x) (hx : Loc X.env.scope x)
    (hf : X.fn x = true ∨ X.env.scope.names.lookup x = some .local) (h : Xp X G (.o m :: T) e ex fun t e1 => Xo X G (.inp op) T (.o m) t e1 (kO fun m' e2 => D.nx (e2.set (nix X.N x) (.v m')))) : Xs X G T e (.AugAssign (.Name x pos') op ex pos) D := s_aug hn hN hi hx he hm himm h hf
theorem sexpr (hs : swapsWith ex none pos.line X.env = pure false) (h : Xp X G T e ex fun _ e1 => D.nx e1) : Xs X G T e (.Expr ex pos) D := s_expr h hs
end
end SY
namespace SY
open PySem L2
open PyProof.Rows (subscriptTail)

section
variable {K : PySem.W.Frag} {G : Gh} {T ts : List Tm} {e e2 : Ev} {vs tv : List V} {σ : St} {H : Hp} {ms : List M}
/-- the pending values as one list of things of their own -/
theorem SR.split (s : SRg K G (ts.reverse ++ T) (vs.reverse ++ tv) e σ H) (hl : ts.length = vs.length) (ht : takesR e ts.reverse = some (ms.reverse, e2)) :
    ∃ fa f g, RMs K H vs ms fa ∧ TR K H σ tv T f ∧ ER K H G.av σ e2 g ∧ Dis fa f ∧ Dis fa g ∧ Dis f g ∧ Own G.f0 G.H0 fa ∧ Own G.f0 G.H0 f ∧ Own G.f0 G.H0 g ∧ Keep G.f0 G.H0 H := by
  obtain ⟨⟨f, g, h1, h2, h3, h4, h5⟩, h6⟩ := s
  obtain ⟨fa, f', g', k1, k2, k3, k4, k5, k6, k7, k8, k9, k10⟩ := split_args (av := G.av) (by simp [hl]) ht h1 h2 h3
  rw [List.reverse_reverse, List.reverse_reverse] at k1
  exact ⟨fa, f', g', k1, k2, k3, k4, k5, k6, fun b z => (k7 b z).elim (h4 b) (h5 b), fun b z => h4 b (k8 b z), fun b z => h5 b (k9 b z), h6⟩
theorem SR.join {fa f g : FP} {m : M} {v : V} (r : RM K H v m fa) (h1 : TR K H σ tv T f) (h2 : ER K H G.av σ e g) (d1 : Dis fa f) (d2 : Dis fa g) (d3 : Dis f g) (o1 : Own G.f0 G.H0 fa) (o2 : Own G.f0 G.H0 f) (o3 : Own G.f0 G.H0 g) (k : Keep G.f0 G.H0 H) :
    SRg K G (.o m :: T) (v :: tv) e σ H := .mk' (.o r h1 d1) h2 (dis_u.mpr ⟨d2, d3⟩) (o1.u o2) o3 k
theorem own_fresh {f0 : FP} {H0 : Hp} {p : Addr} (k : Keep f0 H0 H) (hp : H p = none) : f0 p ∨ H0 p = none := by
  cases e : H0 p with
  | none => exact .inr rfl
  | some u =>
    refine .inl (Classical.byContradiction fun n => ?_)
    rw [k.k p u e n] at hp; cases hp
theorem SR.newTup {p : Addr} (s : SRg K G (ts.reverse ++ T) (vs.reverse ++ tv) e σ H) (hl : ts.length = vs.length) (ht : takesR e ts.reverse = some (ms.reverse, e2)) (hp : H p = none) :
    SRg K G (.o (.tup ms) :: T) (.ref p :: tv) e2 σ (upd H p (.tup vs)) := by
  obtain ⟨fa, f, g, h1, h2, h3, d1, d2, d3, o1, o2, o3, k⟩ := s.split hl ht
  have kn : Keep fE H (upd H p (.tup vs)) := Keep.new hp
  exact .join (.tup (.inl upd_same) (RMs.frame kn _ h1 (dis_e' _))) (h2.frame kn (dis_e' _)) (h3.frame kn (dis_e' _)) d1 d2 d3 o1 o2 o3 (k.own Own.e kn)
theorem SR.newLst {p : Addr} (s : SRg K G (ts.reverse ++ T) (vs.reverse ++ tv) e σ H) (hl : ts.length = vs.length) (ht : takesR e ts.reverse = some (ms.reverse, e2)) (hp : H p = none) :
    SRg K G (.o (.lst ms) :: T) (.ref p :: tv) e2 σ (upd H p (.lst vs)) := by
  obtain ⟨fa, f, g, h1, h2, h3, d1, d2, d3, o1, o2, o3, k⟩ := s.split hl ht
  have kn : Keep fE H (upd H p (.lst vs)) := Keep.new hp
  have nf : ∀ {F : FP}, (∀ b, F b → ∃ u, H b = some u) → ¬ F p := fun t z => by
    obtain ⟨u, hu⟩ := t p z
    rw [hp] at hu; cases hu
  have ds : ∀ {F : FP}, (∀ b, F b → ∃ u, H b = some u) → Dis (fS p) F := fun t b x y => nf t (by rw [← (show b = p from x)]; exact y)
  exact .join (.lst upd_same (RMs.frame kn _ h1 (dis_e' _)) (nf (RMs.there _ h1))) (h2.frame kn (dis_e' _)) (h3.frame kn (dis_e' _)) (dis_u.mpr ⟨ds h2.there, d1⟩) (dis_u.mpr ⟨ds h3.there, d2⟩) d3
    (Own.u (fun b z => by rw [show b = p from z]; exact own_fresh k hp) o1) o2 o3 (k.own Own.e kn)
/-- things without footprint, told beside the state -/
theorem SR.newTup0 {p : Addr} {k : Bool} (s : SRg K G T tv e σ H) (r : RMs K H vs ms fE) (hp : H p = none) : SRg K G (.o (.tup ms k) :: T) (.ref p :: tv) e σ (upd H p (.tup vs)) := by
  obtain ⟨⟨f, g, h1, h2, h3, h4, h5⟩, h6⟩ := s
  have kn : Keep fE H (upd H p (.tup vs)) := Keep.new hp
  exact .join (.tup (.inl upd_same) (RMs.frame kn _ r (dis_e' _))) (h1.frame kn (dis_e' _)) (h2.frame kn (dis_e' _)) (dis_e _) (dis_e _) h3 .e h4 h5 (h6.own Own.e kn)
theorem SR.newLst0 {p : Addr} (s : SRg K G T tv e σ H) (r : RMs K H vs ms fE) (hp : H p = none) : SRg K G (.o (.lst ms) :: T) (.ref p :: tv) e σ (upd H p (.lst vs)) := by
  obtain ⟨⟨f, g, h1, h2, h3, h4, h5⟩, h6⟩ := s
  have kn : Keep fE H (upd H p (.lst vs)) := Keep.new hp
  have nf : ∀ {F : FP}, (∀ b, F b → ∃ u, H b = some u) → ¬ F p := fun t z => by
    obtain ⟨u, hu⟩ := t p z
    rw [hp] at hu; cases hu
  have ds : ∀ {F : FP}, (∀ b, F b → ∃ u, H b = some u) → Dis (fS p) F := fun t b x y => nf t (by rw [← (show b = p from x)]; exact y)
  exact .join (.lst upd_same (RMs.frame kn _ r (dis_e' _)) (fun z => z)) (h1.frame kn (dis_e' _)) (h2.frame kn (dis_e' _)) (dis_u.mpr ⟨ds h1.there, dis_e _⟩) (dis_u.mpr ⟨ds h2.there, dis_e _⟩) h3
    (Own.u (fun b z => by rw [show b = p from z]; exact own_fresh h6 hp) .e) h4 h5 (h6.own Own.e kn)
end

section
variable {X : Cx} {G : Gh} {T : List Tm} {e : Ev} {a b : Expr} {es : List Expr} {Q : Tm → Ev → Prop} {pos : Pos} {m : M} {ms : List M}
/-- arguments as things of their own -/
def kAs (Q : List M → Ev → Prop) : List Tm → Ev → Prop := fun ts e => ∃ ms e2, takesR e ts.reverse = some (ms.reverse, e2) ∧ Q ms e2
theorem x_tup {c} (h : Xa X G T e es (kAs fun ms e2 => ms.length ≤ sizeLine ∧ Q (.o (.tup ms)) e2)) : Xp X G T e (.Tuple es c pos) Q :=
  .of (pe_tup (pa_self es)) fun tv σ H s pos pins sh I => thn (h.run tv σ H s pos pins sh I) fun us s1 ⟨vs, H1, I1, r1, ts, e1, s2, hl, ms, e2, ht, hz, hQ⟩ => ⟨vs, H1, I1, r1, by
    obtain ⟨fa, f, g, h1, _⟩ := s2.split hl ht
    rw [h1.length]; exact hz, fun p hp => ⟨_, e2, s2.newTup hl ht hp, hQ⟩⟩
theorem x_lst (h : Xa X G T e es (kAs fun ms e2 => ms.length ≤ sizeLine ∧ Q (.o (.lst ms)) e2)) : Xp X G T e (.List es pos) Q :=
  .of (pe_lst (pa_self es)) fun tv σ H s pos pins sh I => thn (h.run tv σ H s pos pins sh I) fun us s1 ⟨vs, H1, I1, r1, ts, e1, s2, hl, ms, e2, ht, hz, hQ⟩ => ⟨vs, H1, I1, r1, by
    obtain ⟨fa, f, g, h1, _⟩ := s2.split hl ht
    rw [h1.length]; exact hz, fun p hp => ⟨_, e2, s2.newLst hl ht hp, hQ⟩⟩
theorem kAs_i {Q : List M → Ev → Prop} {ts : List Tm} {e2 : Ev} (ms : List M) (h : takesR e ts.reverse = some (ms.reverse, e2)) (q : Q ms e2) : kAs Q ts e := ⟨ms, e2, h, q⟩

/-! ### subscripts -/
structure Xi (X : Cx) (G : Gh) (T : List Tm) (ta tb : Tm) (e : Ev) (Q : Tm → Ev → Prop) : Prop where
  run : ∀ va vb tv σ H, SRg X.K G (tb :: ta :: T) (vb :: va :: tv) e σ H → ∀ (value slice : Expr) pins s σ' v u, Inv X pins σ' H s → RelV va v → RelV vb u → subscripted slice false v u = operate [v, u] (getItem v u) →
    wpAny (model X.prog X.w) X.A (subscriptTail value slice v u) (EP X pins σ' (kE X.K G T tv σ Q)) X.xe s
def wpIx (X : Cx) : R2 := fun x y H Q => ∀ (value slice : Expr) pins s σ v u, Inv X pins σ H s → RelV x v → RelV y u → subscripted slice false v u = operate [v, u] (getItem v u) →
  wpAny (model X.prog X.w) X.A (subscriptTail value slice v u) (EP X pins σ Q) X.xe s
theorem wpIx_ok : IxR X (wpIx X) := fun value slice pins s σ H x y v u Q I rx ry h hs => h value slice pins s σ v u I rx ry hs
theorem x_sub (hs : PlainIx b) (h : Xp X G T e a fun ta e1 => Xp X G (ta :: T) e1 b fun tb e2 => Xi X G T ta tb e2 Q) : Xp X G T e (.Subscript a b pos) Q :=
  .of (pe_ix wpIx_ok (pe_self a) (pe_self b) hs) fun tv σ H s pins sh I => thn (h.run tv σ H s pins sh I) fun u s1 ⟨v, H1, I1, r1, ta, e1, s2, h2⟩ => ⟨v, H1, I1, r1, fun pins sh I =>
    thn (h2.run (v :: tv) σ H1 s2 pins sh I) fun u s3 ⟨w, H2, I2, r2, tb, e2, s4, h4⟩ => ⟨w, H2, I2, r2, h4.run v w tv σ H2 s4⟩⟩
theorem Xi.of {r : R2} {ta tb : Tm} (h : IxR X r) (k : ∀ va vb tv σ H, SRg X.K G (tb :: ta :: T) (vb :: va :: tv) e σ H → r va vb H (kE X.K G T tv σ Q)) : Xi X G T ta tb e Q :=
  ⟨fun va vb tv σ H s value slice pins sh σ' v u I rv ru hs => h value slice pins sh σ' H va vb v u _ I rv ru (k va vb tv σ H s) hs⟩
theorem atI_rel {K : PySem.W.Frag} {H : Hp} {vs : List V} {f : FP} {i : Int} (r : RMs K H vs ms f) (h : atI ms i = some m) : ∃ v f', atI vs i = some v ∧ RM K H v m f' := by
  obtain ⟨j, hj, hm⟩ := Option.bind_eq_some_iff.mp h
  obtain ⟨v, f', q1, q2, _⟩ := r.get hm
  exact ⟨v, f', by unfold atI; rw [r.length, hj]; exact q1, q2⟩
/-- t[i], an item without footprint -/
theorem i_tup {ta : Tm} {i : Int} {k : Bool} (hs : see e ta = some (.tup ms k)) (ha : atI ms i = some m) (hi : m.imm = true) (q : Q (.o m) e) : Xi X G T ta (.o (.int i)) e Q :=
  .of ix_tup fun va vb tv σ H s => by
    obtain ⟨rfl, s1⟩ := s.i1
    obtain ⟨f, r⟩ := s1.see hs
    cases r with
    | tup hq hr =>
      obtain ⟨v, f', q1, q2⟩ := atI_rel hr ha
      have z := q2.imm m hi
      subst z
      exact ⟨_, _, i, v, rfl, rfl, hq.sq, q1, _, e, s1.pop.push q2, q⟩
theorem i_lst {ta : Tm} {i : Int} (hs : see e ta = some (.lst ms)) (ha : atI ms i = some m) (hi : m.imm = true) (q : Q (.o m) e) : Xi X G T ta (.o (.int i)) e Q :=
  .of ix_list fun va vb tv σ H s => by
    obtain ⟨rfl, s1⟩ := s.i1
    obtain ⟨f, r⟩ := s1.see hs
    cases r with
    | lst hq hr _ =>
      obtain ⟨v, f', q1, q2⟩ := atI_rel hr ha
      have z := q2.imm m hi
      subst z
      exact ⟨_, _, i, v, rfl, rfl, SqL.of hq, q1, _, e, s1.pop.push q2, q⟩
theorem i_ro {ta : Tm} {i : Int} (hs : see e ta = some (.ro ms)) (ha : atI ms i = some m) (hi : m.imm = true) (q : Q (.o m) e) : Xi X G T ta (.o (.int i)) e Q :=
  .of ix_list fun va vb tv σ H s => by
    obtain ⟨rfl, s1⟩ := s.i1
    obtain ⟨f, r⟩ := s1.see hs
    cases r with
    | ro hq hr =>
      obtain ⟨v, f', q1, q2⟩ := atI_rel hr ha
      have z := q2.imm m hi
      subst z
      exact ⟨_, _, i, v, rfl, rfl, hq.sq, q1, _, e, s1.pop.push q2, q⟩
theorem i_str {x : Str} {i : Int} {c : Nat} (hl : x.length ≤ sizeLine) (ha : atI x.cps.toList i = some c) (q : Q (.o (.str ⟨#[c]⟩)) e) : Xi X G T (.o (.str x)) (.o (.int i)) e Q :=
  .of ix_str fun va vb tv σ H s => by
    obtain ⟨rfl, s1⟩ := s.i1
    obtain ⟨rfl, s2⟩ := s1.s1
    exact ⟨x, i, c, rfl, rfl, hl, ha, _, e, s2.push (.str _), q⟩

/-! ### slices -/
/-- a part of a slice: nothing, or an int -/
def wpQ (X : Cx) (o : Option Expr) : TO := fun σ H Q => ∀ pins s, Inv X pins σ H s → wpAny (model X.prog X.w) X.A (evalPart o X.env) (fun u s' => ∃ i H', Inv X pins σ H' s' ∧ IsPart u i ∧ Q i H') X.xe s
theorem po_self (o : Option Expr) : PO X o (wpQ X o) := ⟨fun pins s σ H Q I h => h pins s I⟩
structure Xq (X : Cx) (G : Gh) (T : List Tm) (e : Ev) (o : Option Expr) (Q : Option Int → Ev → Prop) : Prop where
  run : ∀ tv σ H, SRg X.K G T tv e σ H → wpQ X o σ H (fun i H' => ∃ e', SRg X.K G T tv e' σ H' ∧ Q i e')
theorem q_none {Q : Option Int → Ev → Prop} (h : Q none e) : Xq X G T e none Q := ⟨fun tv σ H s pins sh I => po_none.run pins sh σ H _ I ⟨e, s, h⟩⟩
/-- an int's answer -/
def kI (Q : Int → Ev → Prop) : Tm → Ev → Prop := fun t e => ∃ i, t = .o (.int i) ∧ Q i e
theorem kI_i {Q : Int → Ev → Prop} {i : Int} (h : Q i e) : kI Q (.o (.int i)) e := ⟨i, rfl, h⟩
theorem q_some {Q : Option Int → Ev → Prop} (h : Xp X G T e a (kI fun i e1 => Q (some i) e1)) : Xq X G T e (some a) Q := ⟨fun tv σ H s pins sh I => (po_some (pe_self a)).run pins sh σ H _ I fun pins sh I =>
  thn (h.run tv σ H s pins sh I) fun u s1 ⟨v, H1, I1, r1, t, e1, s2, i, ht, hQ⟩ => ⟨v, H1, I1, r1, by
    subst ht
    obtain ⟨rfl, s3⟩ := s2.i1
    exact ⟨i, rfl, e1, s3, hQ⟩⟩⟩
def wpSl (X : Cx) : V → Option Int → Option Int → Hp → VK → Prop := fun x lo hi H Q => ∀ (pins : List (Addr × Obj)) (s : Shared) (σ : L2.St) (v vl vu : Value) (sl : Addr), Inv X pins σ H s → RelV x v → s.heap.IsSliceOf sl vl vu .none → IsPart vl lo → IsPart vu hi →
    ∃ T id, typeLookup (.type T) "__getitem__" = pure (some (.builtin id)) ∧ s.TypeIs v T ∧ wpAny (model X.prog X.w) X.A (getItem v (.ref sl)) (EP X pins σ Q) X.xe s
theorem wpSl_ok : SlR X (wpSl X) := fun pins s σ H x v vl vu lo hi sl Q I rx hs pl pu h => h pins s σ v vl vu sl I rx hs pl pu
structure Xsl (X : Cx) (G : Gh) (T : List Tm) (ta : Tm) (lo hi : Option Int) (e : Ev) (Q : Tm → Ev → Prop) : Prop where
  run : ∀ va tv σ H, SRg X.K G (ta :: T) (va :: tv) e σ H → wpSl X va lo hi H (kE X.K G T tv σ Q)
theorem x_slice {lo hi : Option Expr} {p2 : Pos} (h : Xp X G T e a fun ta e1 => Xq X G (ta :: T) e1 lo fun l e2 => Xq X G (ta :: T) e2 hi fun u e3 => Xsl X G T ta l u e3 Q) : Xp X G T e (.Subscript a (.Slice lo hi none p2) pos) Q :=
  .of (pe_slice wpSl_ok (pe_self a) (po_self lo) (po_self hi)) fun tv σ H s pins sh I => thn (h.run tv σ H s pins sh I) fun u s1 ⟨v, H1, I1, r1, ta, e1, s2, h2⟩ => ⟨v, H1, I1, r1, fun pins sh I =>
    thn (h2.run (v :: tv) σ H1 s2 pins sh I) fun u s3 ⟨l, H2, I2, r2, e2, s4, h4⟩ => ⟨l, H2, I2, r2, fun pins sh I =>
      thn (h4.run (v :: tv) σ H2 s4 pins sh I) fun u s5 ⟨hi, H3, I3, r3, e3, s6, h6⟩ => ⟨hi, H3, I3, r3, h6.run v tv σ H3 s6⟩⟩⟩
theorem Xsl.of {r : V → Option Int → Option Int → Hp → VK → Prop} {ta : Tm} {lo hi : Option Int} (h : SlR X r) (k : ∀ va tv σ H, SRg X.K G (ta :: T) (va :: tv) e σ H → r va lo hi H (kE X.K G T tv σ Q)) : Xsl X G T ta lo hi e Q :=
  ⟨fun va tv σ H s pins sh σ' v vl vu sl I rv hs pl pu => h pins sh σ' H va v vl vu lo hi sl _ I rv hs pl pu (k va tv σ H s)⟩
/-- the items of xs[lo:hi] -/
def cutL {α : Type} (xs : List α) (lo hi : Option Int) : List α := (xs.drop (HT.sIx xs.length 0 lo)).take (HT.sIx xs.length xs.length hi - HT.sIx xs.length 0 lo)
theorem cutV_eq (xs : List V) (lo hi : Option Int) : cutV xs lo hi = cutL xs lo hi := rfl
section
variable {K : PySem.W.Frag} {H : Hp}
theorem RMs.drop : ∀ {ms : List M} {vs : List V} {f : FP} (n : Nat), RMs K H vs ms f → ∃ f', RMs K H (vs.drop n) (ms.drop n) f' ∧ ∀ b, f' b → f b
  | _, _, f, 0, h => ⟨f, h, fun _ z => z⟩
  | [], _, _, _ + 1, h => by cases h; exact ⟨fE, .nil, fun _ z => z⟩
  | m :: ms, _, _, n + 1, h => by
    cases h with
    | cons h1 h2 hd =>
      obtain ⟨f', q1, q2⟩ := RMs.drop n h2
      exact ⟨f', q1, fun b z => .inr (q2 b z)⟩
theorem RMs.take : ∀ {ms : List M} {vs : List V} {f : FP} (n : Nat), RMs K H vs ms f → ∃ f', RMs K H (vs.take n) (ms.take n) f' ∧ ∀ b, f' b → f b
  | _, _, f, 0, h => ⟨fE, .nil, fun _ z => z.elim⟩
  | [], _, _, _ + 1, h => by cases h; exact ⟨fE, .nil, fun _ z => z⟩
  | m :: ms, _, _, n + 1, h => by
    cases h with
    | cons h1 h2 hd =>
      obtain ⟨f', q1, q2⟩ := RMs.take n h2
      exact ⟨fU _ f', .cons h1 q1 fun b x y => hd b x (q2 b y), fun b z => z.imp id (q2 b)⟩
theorem RMs.cut {vs : List V} {f : FP} (r : RMs K H vs ms f) (hi : M.imms ms = true) (lo up : Option Int) : RMs K H (cutV vs lo up) (cutL ms lo up) fE := by
  have z := RMs.imms ms r hi
  subst z
  obtain ⟨f1, q1, q2⟩ := r.drop (HT.sIx ms.length 0 lo)
  obtain ⟨f2, q3, q4⟩ := q1.take (HT.sIx ms.length ms.length up - HT.sIx ms.length 0 lo)
  have z : f2 = fE := by funext b; exact propext ⟨fun x => q2 b (q4 b x), fun x => x.elim⟩
  subst z
  rw [cutV_eq, cutL, cutL, r.length]
  exact q3
end
theorem cut_whole {α : Type} (xs : List α) (lo hi : Option Int) (h : HT.sIx xs.length 0 lo = 0 ∧ HT.sIx xs.length xs.length hi = xs.length) : cutL xs lo hi = xs := by
  unfold cutL
  rw [h.1, h.2]; simp
theorem sl_tup {ta : Tm} {lo hi : Option Int} {k : Bool} (hs : see e ta = some (.tup ms k)) (hi' : M.imms ms = true) (q : Q (.o (.tup (cutL ms lo hi) k)) e) : Xsl X G T ta lo hi e Q :=
  .of sl_tupA fun va tv σ H s => by
    obtain ⟨f, r⟩ := s.see hs
    have z := r.imm _ (by simpa [M.imm] using hi')
    subst z
    cases r with
    | @tup a vs _ _ _ hq hr =>
      refine ⟨a, vs, rfl, hq.sq, fun hw => ⟨_, e, s.pop.push ?_, q⟩, fun hw p hp => ⟨_, e, s.pop.newTup0 (hr.cut hi' lo hi) hp, q⟩⟩
      have w' := cut_whole ms lo hi (by rw [hr.length] at hw; exact hw)
      rw [w']
      exact .tup hq hr
theorem sl_lst {ta : Tm} {lo hi : Option Int} (hs : see e ta = some (.lst ms)) (hi' : M.imms ms = true) (q : Q (.o (.lst (cutL ms lo hi))) e) : Xsl X G T ta lo hi e Q :=
  .of sl_list fun va tv σ H s => by
    obtain ⟨f, r⟩ := s.see hs
    cases r with
    | @lst a vs _ _ hq hr _ => exact ⟨a, vs, rfl, SqL.of hq, fun p hp => ⟨_, e, s.pop.newLst0 (hr.cut hi' lo hi) hp, q⟩⟩
theorem sl_ro {ta : Tm} {lo hi : Option Int} (hs : see e ta = some (.ro ms)) (hi' : M.imms ms = true) (q : Q (.o (.lst (cutL ms lo hi))) e) : Xsl X G T ta lo hi e Q :=
  .of sl_list fun va tv σ H s => by
    obtain ⟨f, r⟩ := s.see hs
    cases r with
    | @ro a vs _ hq hr => exact ⟨a, vs, rfl, hq.sq, fun p hp => ⟨_, e, s.pop.newLst0 (hr.cut hi' lo hi) hp, q⟩⟩

/-! ### tuples and lists joined -/
theorem see_tup {K : PySem.W.Frag} {G : Gh} {tv : List V} {σ : L2.St} {H : Hp} {va : V} {ta : Tm} {k : Bool} (s : SRg K G (ta :: T) (va :: tv) e σ H) (hs : see e ta = some (.tup ms k)) (hi : M.imms ms = true) : ∃ a vs, va = .ref a ∧ TupAt K H a vs k ∧ RMs K H vs ms fE := by
  obtain ⟨f, r⟩ := s.see hs
  have z := r.imm _ (by simpa [M.imm] using hi)
  subst z
  cases r with
  | @tup a vs _ _ _ hq hr => exact ⟨a, vs, rfl, hq, hr⟩
theorem see_lst {K : PySem.W.Frag} {G : Gh} {tv : List V} {σ : L2.St} {H : Hp} {va : V} {ta : Tm} (s : SRg K G (ta :: T) (va :: tv) e σ H) (hs : see e ta = some (.lst ms)) (hi : M.imms ms = true) : ∃ a vs, va = .ref a ∧ H a = some (.lst vs) ∧ RMs K H vs ms fE := by
  obtain ⟨f, r⟩ := s.see hs
  cases r with
  | @lst a vs _ _ hq hr =>
    have z := RMs.imms _ hr hi
    subst z
    exact ⟨a, vs, rfl, hq, hr⟩
theorem fUE : fU fE fE = fE := fU_e _
theorem RMs.app0 {K : PySem.W.Frag} {H : Hp} {ms' : List M} {vs vs' : List V} (h : RMs K H vs ms fE) (h' : RMs K H vs' ms' fE) : RMs K H (vs ++ vs') (ms ++ ms') fE := by
  have := h.append h' (dis_e _)
  rwa [fUE] at this
theorem o_addT {ta tb : Tm} {ms' : List M} {k k' : Bool} (hs : see e ta = some (.tup ms k)) (hs' : see e tb = some (.tup ms' k')) (hi : M.imms ms = true) (hi' : M.imms ms' = true) (hz : ms.length + ms'.length ≤ sizeLine) (q : Q (.o (.tup (ms ++ ms') (k && k'))) e) : Xo X G (.bin .Add) T ta tb e Q :=
  .of op_catA fun va vb tv σ H s => by
    obtain ⟨b, ws, rfl, hb, rb⟩ := see_tup s hs' hi'
    obtain ⟨a, vs, rfl, ha, ra⟩ := see_tup s.pop hs hi
    refine ⟨a, b, vs, ws, rfl, rfl, ha.sq, hb.sq, by rw [ra.length, rb.length]; exact hz, fun h0 => ?_, fun _ h0 => ?_, fun _ _ p hp => ⟨_, e, s.pop.pop.newTup0 (ra.app0 rb) hp, q⟩⟩
    · subst h0
      have : ms = [] := by have := ra.length; exact List.length_eq_zero_iff.mp (by simpa using this.symm)
      subst this
      exact ⟨_, e, s.pop.pop.push (.tup (hb.weak fun z => (Bool.and_eq_true_iff.mp z).2) rb), q⟩
    · subst h0
      have : ms' = [] := by have := rb.length; exact List.length_eq_zero_iff.mp (by simpa using this.symm)
      subst this
      rw [List.append_nil] at q
      exact ⟨_, e, s.pop.pop.push (.tup (ha.weak fun z => (Bool.and_eq_true_iff.mp z).1) ra), q⟩
theorem o_addL {ta tb : Tm} {ms' : List M} (hs : see e ta = some (.lst ms)) (hs' : see e tb = some (.lst ms')) (hi : M.imms ms = true) (hi' : M.imms ms' = true) (hz : ms.length + ms'.length ≤ sizeLine) (q : Q (.o (.lst (ms ++ ms'))) e) : Xo X G (.bin .Add) T ta tb e Q :=
  .of op_cat fun va vb tv σ H s => by
    obtain ⟨b, ws, rfl, hb, rb⟩ := see_lst s hs' hi'
    obtain ⟨a, vs, rfl, ha, ra⟩ := see_lst s.pop hs hi
    exact ⟨a, b, vs, ws, rfl, rfl, ha, hb, by rw [ra.length, rb.length]; exact hz, fun p hp => ⟨_, e, s.pop.pop.newLst0 (ra.app0 rb) hp, q⟩⟩
theorem RMs.rep {K : PySem.W.Frag} {H : Hp} {vs : List V} (h : RMs K H vs ms fE) : ∀ n : Nat, RMs K H (List.replicate n vs).flatten (List.replicate n ms).flatten fE
  | 0 => .nil
  | n + 1 => by rw [List.replicate_succ, List.replicate_succ, List.flatten_cons, List.flatten_cons]; exact h.app0 (RMs.rep h n)
theorem o_repL {ta : Tm} {i : Int} (hs : see e ta = some (.lst ms)) (hi : M.imms ms = true) (h1 : -(2 ^ 63) ≤ i ∧ i < 2 ^ 63) (hz : ms.length * i.toNat ≤ sizeLine) (q : Q (.o (.lst (List.replicate i.toNat ms).flatten)) e) : Xo X G (.bin .Mult) T ta (.o (.int i)) e Q :=
  .of op_rep fun va vb tv σ H s => by
    obtain ⟨rfl, s1⟩ := s.i1
    obtain ⟨a, vs, rfl, ha, ra⟩ := see_lst s1 hs hi
    exact ⟨a, i, vs, rfl, rfl, ha, h1.1, h1.2, by rw [ra.length]; exact hz, fun p hp => ⟨_, e, s1.pop.newLst0 (ra.rep _) hp, q⟩⟩
end
end SY
namespace SY
open PySem L2

/-! ### targets -/
def wpG (X : Cx) (tg : Expr) : TG := fun v σ H Q => ∀ pins s u, Inv X pins σ H s → RelV v u → wpAny (model X.prog X.w) X.A (assign tg X.env u) (fun _ s' => ∃ σ' H', Inv X pins σ' H' s' ∧ Q σ' H') X.xe s
theorem pg_self {X : Cx} (tg : Expr) : PG X tg (wpG X tg) := ⟨fun pins s σ H v u Q I r h => h pins s u I r⟩
def wpGs (X : Cx) (ts : List Expr) : TGs := fun vs σ H Q => ∀ pins s us, Inv X pins σ H s → Vals vs us → wpAny (model X.prog X.w) X.A (assignInOrder ((assignEach ts X.env).map (·.2)) us) (fun _ s' => ∃ σ' H', Inv X pins σ' H' s' ∧ Q σ' H') X.xe s
theorem pgs_self {X : Cx} (ts : List Expr) : PGs X ts (wpGs X ts) := ⟨fun pins s σ H vs us Q I r h => h pins s us I r⟩
/-- the slots but those at js are as they were -/
def Agree (js : List Nat) (σ σ' : L2.St) : Prop := σ'.length = σ.length ∧ ∀ j, j ∉ js → σ'[j]? = σ[j]?
theorem Agree.refl {js : List Nat} {σ : L2.St} : Agree js σ σ := ⟨rfl, fun _ _ => rfl⟩
theorem Agree.app {js ks : List Nat} {σ σ1 σ2 : L2.St} (a : Agree js σ σ1) (b : Agree ks σ1 σ2) : Agree (js ++ ks) σ σ2 := ⟨b.1.trans a.1, fun j h => by
  rw [List.mem_append, not_or] at h
  rw [b.2 j h.2, a.2 j h.1]⟩
theorem Agree.set {i : Nat} {σ : L2.St} {x : Option V} : Agree [i] σ (σ.set i x) := ⟨by simp, fun j h => by rw [List.getElem?_set_ne (fun z => h (by simp [z]))]⟩
def kG (K : PySem.W.Frag) (G : Gh) (T : List Tm) (tv : List V) (σ0 : L2.St) (js : List Nat) (Q : Ev → Prop) : L2.St → Hp → Prop := fun σ H => ∃ e, SRg K G T tv e σ H ∧ Q e ∧ Agree js σ0 σ
/-- m is stored into the target -/
structure Xg (X : Cx) (G : Gh) (T : List Tm) (e : Ev) (tg : Expr) (m : M) (js : List Nat) (Q : Ev → Prop) : Prop where
  run : ∀ v tv σ H, SRg X.K G (.o m :: T) (v :: tv) e σ H → wpG X tg v σ H (kG X.K G T tv σ js Q)
structure Xgs (X : Cx) (G : Gh) (T : List Tm) (e : Ev) (tgs : List Expr) (ms : List M) (js : List Nat) (Q : Ev → Prop) : Prop where
  run : ∀ vs tv σ H, vs.length = ms.length → SRg X.K G (os ms ++ T) (vs ++ tv) e σ H → wpGs X tgs vs σ H (kG X.K G T tv σ js Q)
section
variable {K : PySem.W.Frag} {G : Gh} {T : List Tm} {e : Ev} {m : M} {ms : List M} {tv : List V} {v : V} {σ : L2.St} {H : Hp}
theorem tr_of_rms : ∀ {ms : List M} {vs tv : List V} {f g : FP} {T : List Tm}, RMs K H vs ms f → TR K H σ tv T g → Dis f g → TR K H σ (vs ++ tv) (os ms ++ T) (fU f g)
  | [], _, _, _, _, _, r, h, d => by cases r; rw [fU_e]; exact h
  | m :: ms, _, _, _, _, _, r, h, d => by
    cases r with
    | cons r1 r2 hd =>
      rw [fU_assoc]
      exact .o r1 (tr_of_rms r2 h (dis_u.mp d).2) (dis_u'.mpr ⟨hd, (dis_u.mp d).1⟩)
/-- a tuple's parts come forth -/
theorem SR.open {k : Bool} (s : SRg K G (.o (.tup ms k) :: T) (v :: tv) e σ H) : ∃ a vs, v = .ref a ∧ SqT K H a vs ∧ vs.length = ms.length ∧ SRg K G (os ms ++ T) (vs ++ tv) e σ H := by
  obtain ⟨⟨f, g, h1, h2, h3, h4, h5⟩, h6⟩ := s
  cases h1 with
  | o r h1 hd =>
    cases r with
    | @tup a vs _ _ _ hq hr => exact ⟨a, vs, rfl, hq.sq, hr.length, .mk' (tr_of_rms hr h1 hd) h2 h3 h4 h5 h6⟩
theorem SR.openL (s : SRg K G (.o (.lst ms) :: T) (v :: tv) e σ H) : ∃ a vs, v = .ref a ∧ H a = some (.lst vs) ∧ vs.length = ms.length ∧ SRg K G (os ms ++ T) (vs ++ tv) e σ H := by
  obtain ⟨⟨f, g, h1, h2, h3, h4, h5⟩, h6⟩ := s
  cases h1 with
  | o r h1 hd =>
    cases r with
    | @lst a vs _ fa hq hr hn => exact ⟨a, vs, rfl, hq, hr.length, .mk' (tr_of_rms hr h1 (dis_u.mp hd).2) h2 (dis_u.mpr ⟨(dis_u.mp (dis_u.mp h3).1).2, (dis_u.mp h3).2⟩) (h4.left.right.u h4.right) h5 h6⟩
/-- the front of the pending ones goes -/
theorem SR.popn : ∀ {T' : List M} {tv' : List V}, tv'.length = T'.length → SRg K G (os T' ++ T) (tv' ++ tv) e σ H → SRg K G T tv e σ H
  | [], [], _, s => s
  | m :: T', v :: tv', hl, s => SR.popn (T' := T') (tv' := tv') (by simpa using hl) (SR.pop (t := .o m) s)
theorem os_app (A B : List M) : os (A ++ B) = os A ++ os B := List.map_append
end
section
variable {X : Cx} {G : Gh} {T : List Tm} {e : Ev} {m : M} {ms : List M} {Q : Ev → Prop} {pos : Pos} {x : Str}
theorem g_name (hn : noB (nix X.N x) T = true) (hN : X.N.Nodup) (hi : X.N[nix X.N x]? = some x) (hx : Loc X.env.scope x) (hf : X.fn x = true ∨ X.env.scope.names.lookup x = some .local) (h : Q (e.set (nix X.N x) (.v m))) : Xg X G T e (.Name x pos) m [nix X.N x] Q :=
  ⟨fun v tv σ H s pins sh u I r => (pg_name hN hi hx hf).run pins sh σ H v u _ I r ⟨_, s.storeT (ix_lt I s hi) hn, h, .set⟩⟩
theorem gs_nil (h : Q e) : Xgs X G T e [] [] [] Q := ⟨fun vs tv σ H hl s pins sh us I rv => pgs_nil.run pins sh σ H vs us _ I rv (by cases vs with | nil => exact ⟨rfl, e, s, h, .refl⟩ | cons => cases hl)⟩
theorem gs_cons {tg : Expr} {tgs : List Expr} (hs : (assignEach (tg :: tgs) X.env).map (·.2) = assign tg X.env :: (assignEach tgs X.env).map (·.2)) {js ks : List Nat} (h : Xg X G (os ms ++ T) e tg m js fun e1 => Xgs X G T e1 tgs ms ks Q) : Xgs X G T e (tg :: tgs) (m :: ms) (js ++ ks) Q :=
  ⟨fun vs tv σ H hl s pins sh us I rv => by
    cases vs with
    | nil => cases hl
    | cons v vs =>
      exact (pgs_cons (pg_self tg) (pgs_self tgs) hs).run pins sh σ H (v :: vs) us _ I rv ⟨v, vs, rfl, fun pins sh u I r => thn (h.run v (vs ++ tv) σ H s pins sh u I r) fun _ s1 ⟨σ1, H1, I1, e1, s2, h2, ag⟩ => ⟨σ1, H1, I1, fun pins sh us I rv => thn (h2.run vs tv σ1 H1 (by simpa using hl) s2 pins sh us I rv) fun _ s3 ⟨σ3, H3, I3, e3, s4, h4, ag'⟩ => ⟨σ3, H3, I3, e3, s4, h4, ag.app ag'⟩⟩⟩⟩
theorem g_tup {es : List Expr} {k : Nat} {kk : Bool} (hc : X.calm = true) (hn : (assignEach es X.env).length = ms.length) (hst : (assignEach es X.env).findIdx? (·.1) = none) {js : List Nat} (h : Xgs X G T e es ms js Q) : Xg X G T e (.Tuple es k pos) (.tup ms kk) js Q :=
  ⟨fun v tv σ H s pins sh u I r => by
    obtain ⟨a, vs, rfl, hq, hl, s2⟩ := s.open
    exact (pg_tup hc (pgs_self es) (hn.trans hl.symm) hst).run pins sh σ H _ u _ I r ⟨a, vs, rfl, hq, rfl, fun pins sh us I rv => h.run vs tv σ H hl s2 pins sh us I rv⟩⟩
theorem g_lst {es : List Expr} {k : Nat} (hc : X.calm = true) (hn : (assignEach es X.env).length = ms.length) (hst : (assignEach es X.env).findIdx? (·.1) = none) {js : List Nat} (h : Xgs X G T e es ms js Q) : Xg X G T e (.Tuple es k pos) (.lst ms) js Q :=
  ⟨fun v tv σ H s pins sh u I r => by
    obtain ⟨a, vs, rfl, hq, hl, s2⟩ := s.openL
    exact (pg_unl hc (pgs_self es) (hn.trans hl.symm) hst).run pins sh σ H _ u _ I r ⟨a, vs, rfl, SqL.of hq, rfl, fun pins sh us I rv => h.run vs tv σ H hl s2 pins sh us I rv⟩⟩
end
section
variable {X : Cx} {G : Gh} {T : List Tm} {e : Ev} {D : MD} {pos : Pos} {ex : Expr}
/-- target = e, any target -/
theorem s_asg {tg : Expr} (hs : swapsWithSole [tg] ex pos.line X.env = pure false) (hw : swappedStores [tg] ex X.env = pure none) (h1 : (assignEach [tg] X.env).map (·.2) = [assign tg X.env])
    (h : Xp X G T e ex (kO fun m e1 => ∃ js, Xg X G T e1 tg m js D.nx)) : Xs X G T e (.Assign [tg] ex pos) D :=
  .of (ps_asg (pe_self ex) (pg_self tg) hs hw h1) fun tv σ H s pins sh I => thn (h.run tv σ H s pins sh I) fun u s1 ⟨v, H1, I1, r1, t, e1, s2, m, e2, ho, js, hQ⟩ => ⟨v, H1, I1, r1, fun pins sh u I r => thn (hQ.run v tv σ H1 (s2.own ho) pins sh u I r) fun _ s3 ⟨σ3, H3, I3, e3, s4, h4, _⟩ => ⟨σ3, H3, I3, e3, s4, h4⟩⟩
end

/-! ### what a loop walks -/
/-- J gives the things its, one by one, while the pending T' stands -/
def Gives (K : PySem.W.Frag) (G : Gh) (J : It) (T' : List Tm) (tv' : List V) (P : Ev → Prop) (its : List M) : Prop :=
  ∀ (T : List Tm) (tv : List V) (e : Ev) (σ : L2.St) (H : Hp), SRg K G (T' ++ T) (tv' ++ tv) e σ H → P e → ∀ i, i ≤ its.length →
    (i = its.length → J.stop i H) ∧ ∀ m, its[i]? = some m → J.go i H ∧ ∀ x H', J.yld i H x H' → SRg K G (.o m :: (T' ++ T)) (x :: (tv' ++ tv)) e σ H'
/-- iter walks its; T' is kept meanwhile -/
def wpI (X : Cx) (tg iter : Expr) : TI := fun σ H R => ∀ pins s, Inv X pins σ H s → wpAny (model X.prog X.w) X.A (eval iter X.env) (fun v s1 => wpAny (model X.prog X.w) X.A (pyIter v) (PIE X pins σ tg R) X.xe s1) X.xe s
theorem pi_self {X : Cx} (tg iter : Expr) : PI X tg iter (wpI X tg iter) := ⟨fun pins s σ H R I h => h pins s I⟩
theorem wpI_mono {X : Cx} {tg iter : Expr} {σ : L2.St} {H : Hp} {R R' : It → Hp → Prop} (h : wpI X tg iter σ H R) (k : ∀ J H, R J H → R' J H) : wpI X tg iter σ H R' := fun pins s I =>
  thn (h pins s I) fun v s1 h1 => thn h1 fun itv s2 ⟨it, fp, tn, J, H', a, b, c, d, e, f⟩ => ⟨it, fp, tn, J, H', a, b, c, d, e, k J H' f⟩
/-- iter walks its, over pending T' and while P holds of the slots -/
structure Xr (X : Cx) (G : Gh) (T : List Tm) (e : Ev) (tg iter : Expr) (Q : List Tm → List M → (Ev → Prop) → Ev → Prop) : Prop where
  run : ∀ tv σ H, SRg X.K G T tv e σ H → wpI X tg iter σ H fun J H1 => ∃ T' tv' its P e1, tv'.length = T'.length ∧ SRg X.K G (T' ++ T) (tv' ++ tv) e1 σ H1 ∧ Gives X.K G J T' tv' P its ∧ Q T' its P e1
section
variable {X : Cx} {G : Gh} {T : List Tm} {e : Ev} {D : MD} {pos : Pos} {tg iter : Expr}
theorem SR.popnT {K : PySem.W.Frag} {tv : List V} {σ : L2.St} {H : Hp} : ∀ {T' : List Tm} {tv' : List V}, tv'.length = T'.length → SRg K G (T' ++ T) (tv' ++ tv) e σ H → SRg K G T tv e σ H
  | [], [], _, s => s
  | m :: T', v :: tv', hl, s => SR.popnT (T' := T') (tv' := tv') (by simpa using hl) (SR.pop (t := m) s)
theorem s_for {body : List Stmt} (po : PassesOwn (model X.prog X.w) X.A X.env X.xe) (hc : X.calm = true) (hs : ∀ x, foldedSetIterable iter X.env x = pure x)
    (h : Xr X G T e tg iter fun T' its P e1 => ∃ I : Nat → Ev → Prop, I 0 e1 ∧ (∀ i e2, I i e2 → P e2) ∧ (∀ i e2 m, its[i]? = some m → I i e2 → ∃ js, Xg X G (T' ++ T) e2 tg m js fun e3 => Xb X G (T' ++ T) e3 body { nx := I (i + 1), ct := I (i + 1), bk := D.nx, rt := D.rt }) ∧ (∀ e2, I its.length e2 → D.nx e2)) :
    Xs X G T e (.For tg iter body [] pos) D :=
  ⟨fun tv σ H s pins sh I => by
    refine (ps_for po hc (pi_self tg iter) (pg_self tg) (pb_self body) hs).run pins sh σ H _ I (wpI_mono (h.run tv σ H s) ?_)
    rintro J H1 ⟨T', tv', its, P, e1, hl, s1, gv, IV, i0, hP, turn, fin⟩
    refine ⟨fun i m σ H => m = its.length - i ∧ i ≤ its.length ∧ ∃ e, SRg X.K G (T' ++ T) (tv' ++ tv) e σ H ∧ IV i e, ⟨_, rfl, Nat.zero_le _, e1, s1, i0⟩, ?_⟩
    rintro i m σ2 H2 ⟨rfl, hi, e2, s2, iv⟩
    obtain ⟨g1, g2⟩ := gv T tv e2 σ2 H2 s2 (hP i e2 iv) i hi
    by_cases hlt : i < its.length
    · obtain ⟨go, yl⟩ := g2 its[i] (by simp [hlt])
      refine .inr ⟨go, fun σ' H' => ∃ e, SRg X.K G (T' ++ T) (tv' ++ tv) e σ' H' ∧ IV (i + 1) e, fun σ' H' ⟨e, s, q⟩ => ⟨_, by omega, rfl, hlt, e, s, q⟩, fun x H' hy => ?_⟩
      have s3 := yl x H' hy
      obtain ⟨js, tj⟩ := turn i e2 its[i] (by simp [hlt]) iv
      intro pins sh u I r
      refine thn (tj.run x (tv' ++ tv) σ2 H' s3 pins sh u I r) fun _ s4 ⟨σ4, H4, I4, e4, s5, hb, _⟩ => ⟨σ4, H4, I4, fun pins sh I => ?_⟩
      refine thn (hb.run (tv' ++ tv) σ4 H4 s5 pins sh I) fun f s6 q => ?_
      cases f with
      | next => obtain ⟨σ', H', I', e', s', q'⟩ := q; exact ⟨σ', H', I', e', s', q'⟩
      | cont => obtain ⟨σ', H', I', e', s', q'⟩ := q; exact ⟨σ', H', I', e', s', q'⟩
      | brk => obtain ⟨σ', H', I', e', s', q'⟩ := q; exact ⟨σ', H', I', e', SR.popnT hl s', q'⟩
      | ret v => exact q
    · have e0 : i = its.length := by omega
      subst e0
      exact .inl ⟨g1 rfl, e2, SR.popnT hl s2, fin e2 iv⟩
⟩
section
variable {Q : List Tm → List M → (Ev → Prop) → Ev → Prop}
theorem Xr.of {wi : TI} (h : PI X tg iter wi) (k : ∀ tv σ H, SRg X.K G T tv e σ H → wi σ H fun J H1 => ∃ T' tv' its P e1, tv'.length = T'.length ∧ SRg X.K G (T' ++ T) (tv' ++ tv) e1 σ H1 ∧ Gives X.K G J T' tv' P its ∧ Q T' its P e1) : Xr X G T e tg iter Q :=
  ⟨fun tv σ H s pins sh I => h.run pins sh σ H _ I (k tv σ H s)⟩
def rangeM (lo : Int) (n : Nat) : List M := (List.range n).map fun k => .int (lo + (k : Nat))
theorem rangeM_length (lo : Int) (n : Nat) : (rangeM lo n).length = n := by simp [rangeM]
theorem rangeM_get {lo : Int} {n i : Nat} {m : M} (h : (rangeM lo n)[i]? = some m) : i < n ∧ m = .int (lo + (i : Nat)) := by
  unfold rangeM at h
  rw [List.getElem?_map] at h
  by_cases hi : i < n
  · rw [List.getElem?_range hi] at h
    exact ⟨hi, (Option.some.inj h).symm⟩
  · rw [List.getElem?_eq_none (by simpa using hi)] at h; cases h
theorem gives_range {K : PySem.W.Frag} {P : Ev → Prop} (lo : Int) (n : Nat) : Gives K G (Itr lo n) [] [] P (rangeM lo n) := fun T tv e σ H s _ i hi => ⟨fun h => by rw [h, rangeM_length]; exact Nat.le_refl _, fun m hm => by
  obtain ⟨h1, h2⟩ := rangeM_get hm
  refine ⟨h1, fun x H' y => ?_⟩
  obtain ⟨e1, e2⟩ := y
  subst e1; subst e2; subst h2
  exact s.push (.int _)⟩
abbrev yes : Ev → Prop := fun _ => True
theorem r_range1 {a : Expr} {p : Pos} (hm : X.mg "range" = none) (hg : Gl X "range") (hs : starEach [a] X.env = [(false, eval a X.env)])
    (h : Xp X G T e a (kI fun n e1 => (-(2 ^ 62) ≤ n ∧ n < 2 ^ 62) ∧ Q [] (rangeM 0 n.toNat) yes e1)) : Xr X G T e tg (.Call (.Name "range" p) [a] [] pos) Q :=
  .of (pi_range1 hg hm (pa_cons (pe_self a) pa_nil (by rw [hs]; rfl)) hs) fun tv σ H s pins sh I => thn (h.run tv σ H s pins sh I) fun u s1 ⟨v, H1, I1, r1, t, e1, s2, n, ht, hz, hQ⟩ => ⟨v, H1, I1, r1, by
    subst ht
    obtain ⟨rfl, s3⟩ := s2.i1
    exact ⟨n, rfl, hz.1, hz.2, [], [], _, _, e1, rfl, s3, gives_range 0 n.toNat, hQ⟩⟩
theorem r_range2 {a b : Expr} {p : Pos} (hm : X.mg "range" = none) (hg : Gl X "range") (hs : starEach [a, b] X.env = [(false, eval a X.env), (false, eval b X.env)]) (hs2 : starEach [b] X.env = [(false, eval b X.env)])
    (h : Xp X G T e a (kI fun lo e0 => Xp X G (.o (.int lo) :: T) e0 b (kI fun n e1 => (-(2 ^ 62) ≤ lo ∧ lo < 2 ^ 62 ∧ -(2 ^ 62) ≤ n ∧ n < 2 ^ 62) ∧ Q [] (rangeM lo (n - lo).toNat) yes e1))) : Xr X G T e tg (.Call (.Name "range" p) [a, b] [] pos) Q :=
  .of (pi_range2 hg hm (pa_cons (pe_self a) (pa_cons (pe_self b) pa_nil (by rw [hs2]; rfl)) (by rw [hs, hs2])) hs hs2) fun tv σ H s pins sh I => thn (h.run tv σ H s pins sh I) fun u s1 ⟨v, H1, I1, r1, t, e1, s2, lo, h1, h2⟩ => ⟨v, H1, I1, r1, by
    subst h1
    exact fun pins sh I =>
    thn (h2.run (v :: tv) σ H1 s2 pins sh I) fun u s3 ⟨w, H2, I2, r2, t', e2, s4, n, e4, hz, hQ⟩ => ⟨w, H2, I2, r2, by
      subst e4
      obtain ⟨rfl, rfl, s5⟩ := s4.i2
      exact ⟨lo, n, rfl, hz, [], [], _, _, e2, rfl, s5, gives_range lo (n - lo).toNat, hQ⟩⟩⟩
/-! a list or a tuple, itself pending meanwhile -/
theorem sr_top {K : PySem.W.Frag} {tv : List V} {σ : L2.St} {H : Hp} {t : Tm} {v : V} {m : M} (s : SRg K G (t :: T) (v :: tv) e σ H) (hs : see e t = some m) : ∃ f, RM K H v m f := s.see hs
theorem gives_lst {K : PySem.W.Frag} {t : Tm} {a : Addr} {its : List M} (hi : M.imms its = true) : Gives K G (Itl K a) [t] [.ref a] (fun e => see e t = some (.lst its)) its := fun T tv e σ H s hP i hi' => by
  obtain ⟨f, r⟩ := SR.see s hP
  cases r with
  | @lst _ vs _ _ hq hr _ =>
    have z := RMs.imms _ hr hi
    subst z
    refine ⟨fun h => ⟨vs, SqL.of hq, by rw [hr.length, h]; exact Nat.le_refl _⟩, fun m hm => ?_⟩
    obtain ⟨v, f', q1, q2, q3⟩ := hr.get hm
    refine ⟨⟨vs, v, SqL.of hq, q1⟩, fun x H' y => ?_⟩
    obtain ⟨e1, e2⟩ := y
    subst e1
    have := e2 vs (SqL.of hq)
    rw [q1] at this; cases this
    have z : f' = fE := by funext b; exact propext ⟨q3 b, fun x => x.elim⟩
    subst z
    exact s.push q2
theorem gives_ro {K : PySem.W.Frag} {t : Tm} {a : Addr} {its : List M} : Gives K G (Itl K a) [t] [.ref a] (fun e => see e t = some (.ro its)) its := fun T tv e σ H s hP i hi' => by
  obtain ⟨f, r⟩ := SR.see s hP
  cases r with
  | @ro _ vs _ hq hr =>
    refine ⟨fun h => ⟨vs, hq.sq, by rw [hr.length, h]; exact Nat.le_refl _⟩, fun m hm => ?_⟩
    obtain ⟨v, f', q1, q2, q3⟩ := hr.get hm
    refine ⟨⟨vs, v, hq.sq, q1⟩, fun x H' y => ?_⟩
    obtain ⟨e1, e2⟩ := y
    subst e1
    have := e2 vs hq.sq
    rw [q1] at this; cases this
    have z : f' = fE := by funext b; exact propext ⟨q3 b, fun x => x.elim⟩
    subst z
    exact s.push q2
theorem gives_tup {K : PySem.W.Frag} {t : Tm} {a : Addr} {its : List M} {k : Bool} (hi : M.imms its = true) : Gives K G (Itt K a) [t] [.ref a] (fun e => see e t = some (.tup its k)) its := fun T tv e σ H s hP i hi' => by
  obtain ⟨f, r⟩ := SR.see s hP
  cases r with
  | @tup _ vs _ _ _ hq' hr =>
    have hq := hq'.sq
    have z := RMs.imms _ hr hi
    subst z
    refine ⟨fun h => ⟨vs, hq, by rw [hr.length, h]; exact Nat.le_refl _⟩, fun m hm => ?_⟩
    obtain ⟨v, f', q1, q2, q3⟩ := hr.get hm
    refine ⟨⟨vs, v, hq, q1⟩, fun x H' y => ?_⟩
    obtain ⟨e1, e2⟩ := y
    subst e1
    have := e2 vs hq
    rw [q1] at this; cases this
    have z : f' = fE := by funext b; exact propext ⟨q3 b, fun x => x.elim⟩
    subst z
    exact s.push q2
theorem r_lst (h : Xp X G T e iter fun t e1 => ∃ its, see e1 t = some (.lst its) ∧ M.imms its = true ∧ Q [t] its (fun e => see e t = some (.lst its)) e1) : Xr X G T e tg iter Q :=
  .of (pi_list (pe_self iter)) fun tv σ H s pins sh I => thn (h.run tv σ H s pins sh I) fun u s1 ⟨v, H1, I1, r1, t, e1, s2, its, hs, hi, hQ⟩ => ⟨v, H1, I1, r1, by
    obtain ⟨f, r⟩ := s2.see hs
    cases r with
    | @lst a vs _ _ hq hr hn => exact ⟨a, rfl, ⟨vs, SqL.of hq⟩, [t], [.ref a], its, _, e1, rfl, s2, gives_lst hi, hQ⟩⟩
theorem r_ro (h : Xp X G T e iter fun t e1 => ∃ its, see e1 t = some (.ro its) ∧ Q [t] its (fun e => see e t = some (.ro its)) e1) : Xr X G T e tg iter Q :=
  .of (pi_list (pe_self iter)) fun tv σ H s pins sh I => thn (h.run tv σ H s pins sh I) fun u s1 ⟨v, H1, I1, r1, t, e1, s2, its, hs, hQ⟩ => ⟨v, H1, I1, r1, by
    obtain ⟨f, r⟩ := s2.see hs
    cases r with
    | @ro a vs _ hq hr => exact ⟨a, rfl, ⟨vs, hq.sq⟩, [t], [.ref a], its, _, e1, rfl, s2, gives_ro, hQ⟩⟩
theorem r_tup (h : Xp X G T e iter fun t e1 => ∃ its k, see e1 t = some (.tup its k) ∧ M.imms its = true ∧ Q [t] its (fun e => see e t = some (.tup its k)) e1) : Xr X G T e tg iter Q :=
  .of (pi_tup (pe_self iter)) fun tv σ H s pins sh I => thn (h.run tv σ H s pins sh I) fun u s1 ⟨v, H1, I1, r1, t, e1, s2, its, k, hs, hi, hQ⟩ => ⟨v, H1, I1, r1, by
    obtain ⟨f, r⟩ := s2.see hs
    cases r with
    | @tup a vs _ _ _ hq hr => exact ⟨a, rfl, ⟨vs, hq.sq⟩, [t], [.ref a], its, _, e1, rfl, s2, gives_tup hi, hQ⟩⟩
end
/-- while, by a word and a measure -/
theorem s_while {c : Expr} {body : List Stmt} (po : PassesOwn (model X.prog X.w) X.A X.env X.xe) (I : Nat → Ev → Prop) (m0 : Nat) (h0 : I m0 e)
    (h : ∀ m e1, I m e1 → Xt X G T e1 c fun k e2 => (k = true → Xb X G T e2 body { nx := fun e3 => ∃ m', m' < m ∧ I m' e3, ct := fun e3 => ∃ m', m' < m ∧ I m' e3, bk := D.nx, rt := D.rt }) ∧ (k = false → D.nx e2)) : Xs X G T e (.While c body [] pos) D :=
  .of (ps_while po (pt_self c) (pb_self body)) fun tv σ H s => by
    refine ⟨fun m σ H => ∃ e, SRg X.K G T tv e σ H ∧ I m e, ⟨m0, e, s, h0⟩, ?_⟩
    rintro m σ1 H1 ⟨e1, s1, i1⟩ pins sh I1
    refine thn ((h m e1 i1).run tv σ1 H1 s1 pins sh I1) fun k s2 ⟨H2, I2, e2, s3, hk⟩ => ⟨H2, I2, ?_⟩
    cases k with
    | true =>
      refine iteT ⟨fun σ' H' => ∃ m', m' < m ∧ ∃ e, SRg X.K G T tv e σ' H' ∧ I m' e, fun σ' H' ⟨m', a, b⟩ => ⟨m', a, b⟩, fun pins sh I => ?_⟩
      refine thn ((hk.1 rfl).run tv σ1 H2 s3 pins sh I) fun f s6 q => ?_
      cases f with
      | next => obtain ⟨σ', H', I', e', s', m', hm, q'⟩ := q; exact ⟨σ', H', I', m', hm, e', s', q'⟩
      | cont => obtain ⟨σ', H', I', e', s', m', hm, q'⟩ := q; exact ⟨σ', H', I', m', hm, e', s', q'⟩
      | brk => exact q
      | ret v => exact q
    | false => exact iteF ⟨e2, s3, hk.2 rfl⟩
end
end SY
namespace SY
open PySem L2
section
variable {X : Cx} {G : Gh} {T : List Tm} {e : Ev} {a : Expr} {es : List Expr} {Q : Tm → Ev → Prop} {p pos : Pos} {x : Str}
theorem x_cb {id : String} (hv : bootBuiltins x = some (.builtin id)) (hm : X.mg x = none) (hg : Gl X x) (hn : x ≠ "__name__") (hdb : (x == ("__debug__" : Str)) = false)
    (he : starEach (a :: es) X.env = (false, eval a X.env) :: starEach es X.env) (hpl : (backTo pos (starEach es X.env)).any (·.1) = false) (h : Xa X G T e (a :: es) fun ts e1 => Xc X G (.builtin id) T ts e1 Q) : Xp X G T e (.Call (.Name x p) (a :: es) [] pos) Q :=
  .of (pe_callB (wpC_ok _) hg hm hv (pa_self (a :: es)) hn hdb he hpl) fun tv σ H s pos pins sh I => thn (h.run tv σ H s pos pins sh I) fun us s1 ⟨vs, H1, I1, r1, ts, e1, s2, hl, hc⟩ => ⟨vs, H1, I1, r1, hc.run vs tv σ H1 hl.symm s2⟩
theorem x_cty {T0 : String} (hv : bootBuiltins x = some (.type T0)) (hm : X.mg x = none) (hg : Gl X x) (hn : x ≠ "__name__") (hdb : (x == ("__debug__" : Str)) = false)
    (he : starEach (a :: es) X.env = (false, eval a X.env) :: starEach es X.env) (hpl : (backTo pos (starEach es X.env)).any (·.1) = false) (h : Xa X G T e (a :: es) fun ts e1 => Xc X G (.type T0) T ts e1 Q) : Xp X G T e (.Call (.Name x p) (a :: es) [] pos) Q :=
  .of (pe_callTy (wpC_ok _) hg hm hv (pa_self (a :: es)) hn hdb he hpl) fun tv σ H s pos pins sh I => thn (h.run tv σ H s pos pins sh I) fun us s1 ⟨vs, H1, I1, r1, ts, e1, s2, hl, hc⟩ => ⟨vs, H1, I1, r1, hc.run vs tv σ H1 hl.symm s2⟩
theorem boot1_len : bootBuiltins "len" = some (.builtin "len") := by decide +kernel
theorem c_len (hm : X.mg "len" = none) (hg : Gl X "len") (he : starEach (a :: es) X.env = (false, eval a X.env) :: starEach es X.env) (hpl : (backTo pos (starEach es X.env)).any (·.1) = false) (h : Xa X G T e (a :: es) fun ts e1 => Xc X G (.builtin "len") T ts e1 Q) : Xp X G T e (.Call (.Name "len" p) (a :: es) [] pos) Q := x_cb boot1_len hm hg (by decide) (by decide) he hpl h
theorem boot1_min : bootBuiltins "min" = some (.builtin "min") := by decide +kernel
theorem c_min (hm : X.mg "min" = none) (hg : Gl X "min") (he : starEach (a :: es) X.env = (false, eval a X.env) :: starEach es X.env) (hpl : (backTo pos (starEach es X.env)).any (·.1) = false) (h : Xa X G T e (a :: es) fun ts e1 => Xc X G (.builtin "min") T ts e1 Q) : Xp X G T e (.Call (.Name "min" p) (a :: es) [] pos) Q := x_cb boot1_min hm hg (by decide) (by decide) he hpl h
theorem boot1_max : bootBuiltins "max" = some (.builtin "max") := by decide +kernel
theorem c_max (hm : X.mg "max" = none) (hg : Gl X "max") (he : starEach (a :: es) X.env = (false, eval a X.env) :: starEach es X.env) (hpl : (backTo pos (starEach es X.env)).any (·.1) = false) (h : Xa X G T e (a :: es) fun ts e1 => Xc X G (.builtin "max") T ts e1 Q) : Xp X G T e (.Call (.Name "max" p) (a :: es) [] pos) Q := x_cb boot1_max hm hg (by decide) (by decide) he hpl h
theorem boot1_abs : bootBuiltins "abs" = some (.builtin "abs") := by decide +kernel
theorem c_abs (hm : X.mg "abs" = none) (hg : Gl X "abs") (he : starEach (a :: es) X.env = (false, eval a X.env) :: starEach es X.env) (hpl : (backTo pos (starEach es X.env)).any (·.1) = false) (h : Xa X G T e (a :: es) fun ts e1 => Xc X G (.builtin "abs") T ts e1 Q) : Xp X G T e (.Call (.Name "abs" p) (a :: es) [] pos) Q := x_cb boot1_abs hm hg (by decide) (by decide) he hpl h
theorem boot1_sum : bootBuiltins "sum" = some (.builtin "sum") := by decide +kernel
theorem c_sum (hm : X.mg "sum" = none) (hg : Gl X "sum") (he : starEach (a :: es) X.env = (false, eval a X.env) :: starEach es X.env) (hpl : (backTo pos (starEach es X.env)).any (·.1) = false) (h : Xa X G T e (a :: es) fun ts e1 => Xc X G (.builtin "sum") T ts e1 Q) : Xp X G T e (.Call (.Name "sum" p) (a :: es) [] pos) Q := x_cb boot1_sum hm hg (by decide) (by decide) he hpl h
theorem boot1_sorted : bootBuiltins "sorted" = some (.builtin "sorted") := by decide +kernel
theorem c_sorted (hm : X.mg "sorted" = none) (hg : Gl X "sorted") (he : starEach (a :: es) X.env = (false, eval a X.env) :: starEach es X.env) (hpl : (backTo pos (starEach es X.env)).any (·.1) = false) (h : Xa X G T e (a :: es) fun ts e1 => Xc X G (.builtin "sorted") T ts e1 Q) : Xp X G T e (.Call (.Name "sorted" p) (a :: es) [] pos) Q := x_cb boot1_sorted hm hg (by decide) (by decide) he hpl h
theorem boot1_all : bootBuiltins "all" = some (.builtin "all") := by decide +kernel
theorem c_all (hm : X.mg "all" = none) (hg : Gl X "all") (he : starEach (a :: es) X.env = (false, eval a X.env) :: starEach es X.env) (hpl : (backTo pos (starEach es X.env)).any (·.1) = false) (h : Xa X G T e (a :: es) fun ts e1 => Xc X G (.builtin "all") T ts e1 Q) : Xp X G T e (.Call (.Name "all" p) (a :: es) [] pos) Q := x_cb boot1_all hm hg (by decide) (by decide) he hpl h
theorem boot1_any : bootBuiltins "any" = some (.builtin "any") := by decide +kernel
theorem c_any (hm : X.mg "any" = none) (hg : Gl X "any") (he : starEach (a :: es) X.env = (false, eval a X.env) :: starEach es X.env) (hpl : (backTo pos (starEach es X.env)).any (·.1) = false) (h : Xa X G T e (a :: es) fun ts e1 => Xc X G (.builtin "any") T ts e1 Q) : Xp X G T e (.Call (.Name "any" p) (a :: es) [] pos) Q := x_cb boot1_any hm hg (by decide) (by decide) he hpl h
theorem boot1_isinstance : bootBuiltins "isinstance" = some (.builtin "isinstance") := by decide +kernel
theorem c_isinstance (hm : X.mg "isinstance" = none) (hg : Gl X "isinstance") (he : starEach (a :: es) X.env = (false, eval a X.env) :: starEach es X.env) (hpl : (backTo pos (starEach es X.env)).any (·.1) = false) (h : Xa X G T e (a :: es) fun ts e1 => Xc X G (.builtin "isinstance") T ts e1 Q) : Xp X G T e (.Call (.Name "isinstance" p) (a :: es) [] pos) Q := x_cb boot1_isinstance hm hg (by decide) (by decide) he hpl h
theorem boot1_int : bootBuiltins "int" = some (.type "int") := by decide +kernel
theorem c_int (hm : X.mg "int" = none) (hg : Gl X "int") (he : starEach (a :: es) X.env = (false, eval a X.env) :: starEach es X.env) (hpl : (backTo pos (starEach es X.env)).any (·.1) = false) (h : Xa X G T e (a :: es) fun ts e1 => Xc X G (.type "int") T ts e1 Q) : Xp X G T e (.Call (.Name "int" p) (a :: es) [] pos) Q := x_cty boot1_int hm hg (by decide) (by decide) he hpl h
theorem boot1_tuple : bootBuiltins "tuple" = some (.type "tuple") := by decide +kernel
theorem c_tuple (hm : X.mg "tuple" = none) (hg : Gl X "tuple") (he : starEach (a :: es) X.env = (false, eval a X.env) :: starEach es X.env) (hpl : (backTo pos (starEach es X.env)).any (·.1) = false) (h : Xa X G T e (a :: es) fun ts e1 => Xc X G (.type "tuple") T ts e1 Q) : Xp X G T e (.Call (.Name "tuple" p) (a :: es) [] pos) Q := x_cty boot1_tuple hm hg (by decide) (by decide) he hpl h
theorem boot1_list : bootBuiltins "list" = some (.type "list") := by decide +kernel
theorem c_list (hm : X.mg "list" = none) (hg : Gl X "list") (he : starEach (a :: es) X.env = (false, eval a X.env) :: starEach es X.env) (hpl : (backTo pos (starEach es X.env)).any (·.1) = false) (h : Xa X G T e (a :: es) fun ts e1 => Xc X G (.type "list") T ts e1 Q) : Xp X G T e (.Call (.Name "list" p) (a :: es) [] pos) Q := x_cty boot1_list hm hg (by decide) (by decide) he hpl h
theorem boot1_str : bootBuiltins "str" = some (.type "str") := by decide +kernel
theorem c_str (hm : X.mg "str" = none) (hg : Gl X "str") (he : starEach (a :: es) X.env = (false, eval a X.env) :: starEach es X.env) (hpl : (backTo pos (starEach es X.env)).any (·.1) = false) (h : Xa X G T e (a :: es) fun ts e1 => Xc X G (.type "str") T ts e1 Q) : Xp X G T e (.Call (.Name "str" p) (a :: es) [] pos) Q := x_cty boot1_str hm hg (by decide) (by decide) he hpl h
theorem boot1_set : bootBuiltins "set" = some (.type "set") := by decide +kernel
theorem c_set (hm : X.mg "set" = none) (hg : Gl X "set") (he : starEach (a :: es) X.env = (false, eval a X.env) :: starEach es X.env) (hpl : (backTo pos (starEach es X.env)).any (·.1) = false) (h : Xa X G T e (a :: es) fun ts e1 => Xc X G (.type "set") T ts e1 Q) : Xp X G T e (.Call (.Name "set" p) (a :: es) [] pos) Q := x_cty boot1_set hm hg (by decide) (by decide) he hpl h
theorem boot1_dict : bootBuiltins "dict" = some (.type "dict") := by decide +kernel
theorem c_dict (hm : X.mg "dict" = none) (hg : Gl X "dict") (he : starEach (a :: es) X.env = (false, eval a X.env) :: starEach es X.env) (hpl : (backTo pos (starEach es X.env)).any (·.1) = false) (h : Xa X G T e (a :: es) fun ts e1 => Xc X G (.type "dict") T ts e1 Q) : Xp X G T e (.Call (.Name "dict" p) (a :: es) [] pos) Q := x_cty boot1_dict hm hg (by decide) (by decide) he hpl h
theorem boot1_bool : bootBuiltins "bool" = some (.type "bool") := by decide +kernel
theorem c_bool (hm : X.mg "bool" = none) (hg : Gl X "bool") (he : starEach (a :: es) X.env = (false, eval a X.env) :: starEach es X.env) (hpl : (backTo pos (starEach es X.env)).any (·.1) = false) (h : Xa X G T e (a :: es) fun ts e1 => Xc X G (.type "bool") T ts e1 Q) : Xp X G T e (.Call (.Name "bool" p) (a :: es) [] pos) Q := x_cty boot1_bool hm hg (by decide) (by decide) he hpl h
end
/-! ### what the built-ins give -/
section
variable {K : PySem.W.Frag} {H : Hp}
theorem rms_ints : ∀ {ns : List Int} {vs : List V} {f : FP}, RMs K H vs (ns.map M.int) f → vs = ns.map V.int ∧ f = fE
  | [], _, _, h => by cases h; exact ⟨rfl, rfl⟩
  | n :: ns, _, _, h => by
    cases h with
    | cons h1 h2 _ =>
      cases h1
      obtain ⟨e1, e2⟩ := rms_ints h2
      rw [e1, e2]; exact ⟨rfl, fUE⟩
theorem rms_ints' : ∀ (ns : List Int), RMs K H (ns.map V.int) (ns.map M.int) fE
  | [] => .nil
  | n :: ns => by
    have := RMs.cons (RM.int (K := K) (H := H) n) (rms_ints' ns) (dis_e _)
    rw [fUE] at this; exact this
theorem rms_bls : ∀ {ns : List Bool} {vs : List V} {f : FP}, RMs K H vs (ns.map M.bl) f → vs = ns.map V.bl ∧ f = fE
  | [], _, _, h => by cases h; exact ⟨rfl, rfl⟩
  | n :: ns, _, _, h => by
    cases h with
    | cons h1 h2 _ =>
      cases h1
      obtain ⟨e1, e2⟩ := rms_bls h2
      rw [e1, e2]; exact ⟨rfl, fUE⟩
theorem imms_ints : ∀ ns : List Int, M.imms (ns.map M.int) = true
  | [] => rfl
  | n :: ns => by simp [M.imms, M.imm, imms_ints ns]
theorem imms_strs : ∀ ns : List Str, M.imms (ns.map M.str) = true
  | [] => rfl
  | n :: ns => by simp [M.imms, M.imm, imms_strs ns]
theorem imms_map {α : Type} {f : α → M} (h : ∀ x, (f x).imm = true) : ∀ l : List α, M.imms (l.map f) = true
  | [] => rfl
  | n :: ns => by simp [M.imms, h, imms_map h ns]
end
/-- how long -/
def lenM : M → Option Nat
  | .tup ms _ => some ms.length
  | .lst ms => some ms.length
  | .ro ms => some ms.length
  | _ => none
section
variable {X : Cx} {G : Gh} {T : List Tm} {e : Ev} {Q : Tm → Ev → Prop} {t : Tm} {m : M} {i j : Int} {ms : List M}
theorem Xc.of1 {f : Value} {r : List V → Hp → VK → Prop} (h : CallR X f r) (k : ∀ v tv σ H, SRg X.K G (t :: T) (v :: tv) e σ H → r [v] H (kE X.K G T tv σ Q)) : Xc X G f T [t] e Q :=
  .of h fun vs tv σ H hl s => by
    match vs, hl with
    | [v], _ => exact k v tv σ H s
theorem Xc.of2 {f : Value} {r : List V → Hp → VK → Prop} {u : Tm} (h : CallR X f r) (k : ∀ v w tv σ H, SRg X.K G (u :: t :: T) (w :: v :: tv) e σ H → r [v, w] H (kE X.K G T tv σ Q)) : Xc X G f T [t, u] e Q :=
  .of h fun vs tv σ H hl s => by
    match vs, hl with
    | [v, w], _ => exact k v w tv σ H s
theorem v_len {n : Nat} (hs : see e t = some m) (hl : lenM m = some n) (q : Q (.o (.int n)) e) : Xc X G (.builtin "len") T [t] e Q :=
  .of1 call_len fun v tv σ H s => by
    obtain ⟨f, r⟩ := s.see hs
    have fin : ∀ n, Q (.o (.int n)) e → kE X.K G T tv σ Q (.int n) H := fun n q => ⟨_, e, s.pop.push (.int _), q⟩
    cases r with
    | tup hq hr => cases hl; rw [← hr.length] at q; exact ⟨_, _, rfl, .inr ⟨_, hq.sq, rfl⟩, fin _ q⟩
    | lst hq hr _ => cases hl; rw [← hr.length] at q; exact ⟨_, _, rfl, .inl ⟨_, SqL.of hq, rfl⟩, fin _ q⟩
    | ro hq hr => cases hl; rw [← hr.length] at q; exact ⟨_, _, rfl, .inl ⟨_, hq.sq, rfl⟩, fin _ q⟩
    | _ => cases hl
theorem v_lenS {x : Str} (hz : x.length ≤ sizeLine) (q : Q (.o (.int x.length)) e) : Xc X G (.builtin "len") T [.o (.str x)] e Q :=
  .of1 call_len fun v tv σ H s => by obtain ⟨rfl, s1⟩ := s.s1; exact ⟨_, _, rfl, ⟨hz, rfl⟩, _, e, s1.push (.int _), q⟩
theorem v_abs (q : Q (.o (.int (if i < 0 then -i else i))) e) : Xc X G (.builtin "abs") T [.o (.int i)] e Q :=
  .of1 call_abs fun v tv σ H s => by obtain ⟨rfl, s1⟩ := s.i1; exact ⟨i, rfl, _, e, s1.push (.int _), q⟩
theorem v_max (hc : X.calm = true) (q : Q (.o (.int (max i j))) e) : Xc X G (.builtin "max") T [.o (.int i), .o (.int j)] e Q :=
  .of2 (call_max2 hc) fun v w tv σ H s => by
    obtain ⟨rfl, rfl, s1⟩ := s.i2
    refine ⟨i, j, rfl, _, e, s1.push (.int _), ?_⟩
    have : (if j > i then j else i) = max i j := by simp only [Int.max_def]; split <;> split <;> omega
    rw [this]; exact q
theorem v_min (hc : X.calm = true) (q : Q (.o (.int (min i j))) e) : Xc X G (.builtin "min") T [.o (.int i), .o (.int j)] e Q :=
  .of2 (call_min2 hc) fun v w tv σ H s => by
    obtain ⟨rfl, rfl, s1⟩ := s.i2
    refine ⟨i, j, rfl, _, e, s1.push (.int _), ?_⟩
    have : (if j < i then j else i) = min i j := by simp only [Int.min_def]; split <;> split <;> omega
    rw [this]; exact q
theorem v_int (q : Q (.o (.int i)) e) : Xc X G (.type "int") T [.o (.int i)] e Q :=
  .of1 call_int1 fun v tv σ H s => by obtain ⟨rfl, s1⟩ := s.i1; exact .inl ⟨i, rfl, _, e, s1.push (.int _), q⟩
theorem v_intB {k : Bool} (q : Q (.o (.int (if k then 1 else 0))) e) : Xc X G (.type "int") T [.o (.bl k)] e Q :=
  .of1 call_int1 fun v tv σ H s => by obtain ⟨rfl, s1⟩ := s.b1; exact .inr ⟨k, rfl, _, e, s1.push (.int _), q⟩
theorem v_sum (hc : X.calm = true) {ns : List Int} (hs : see e t = some (.lst (ns.map M.int))) (q : Q (.o (.int ns.sum)) e) : Xc X G (.builtin "sum") T [t] e Q :=
  .of1 (cr_sum hc) fun v tv σ H s => by
    obtain ⟨f, r⟩ := s.see hs
    cases r with
    | @lst a vs _ _ hq hr _ =>
      obtain ⟨e1, _⟩ := rms_ints hr
      subst e1
      exact ⟨a, ns, rfl, SqL.of hq, _, e, s.pop.push (.int _), q⟩
theorem v_all (hc : X.calm = true) {bs : List Bool} (hs : see e t = some (.lst (bs.map M.bl))) (q : Q (.o (.bl (bs.all id))) e) : Xc X G (.builtin "all") T [t] e Q :=
  .of1 (cr_all hc) fun v tv σ H s => by
    obtain ⟨f, r⟩ := s.see hs
    cases r with
    | @lst a vs _ _ hq hr _ =>
      obtain ⟨e1, _⟩ := rms_bls hr
      subst e1
      exact ⟨a, bs, rfl, SqL.of hq, _, e, s.pop.push (.bl _), q⟩
/-- tuple(xs), xs a list that is not used any more, or without footprint -/
theorem v_tupL {e2 : Ev} (ho : own e t = some (.lst ms, e2)) (q : Q (.o (.tup ms)) e2) : Xc X G (.type "tuple") T [t] e Q :=
  .of1 call_tuple_of fun v tv σ H s => by
    have s1 := s.own ho
    obtain ⟨a, vs, rfl, hq, hl, s2⟩ := s1.openL
    refine ⟨a, vs, rfl, .inl ⟨SqL.of hq, fun l hn => ⟨_, e2, ?_, q⟩⟩⟩
    obtain ⟨⟨f, g, h1, h2, h3, h4, h5⟩, h6⟩ := s1
    have kn : Keep fE H (upd H l (.tup vs)) := Keep.new hn
    cases h1 with
    | o r h1 hd =>
      cases r with
      | @lst _ vs' _ f1 hq' hr _ =>
        rw [hq] at hq'; cases hq'
        exact .join (.tup (.inl upd_same) (RMs.frame kn _ hr (dis_e' _))) (h1.frame kn (dis_e' _)) (h2.frame kn (dis_e' _)) (dis_u.mp hd).2 (dis_u.mp (dis_u.mp h3).1).2 (dis_u.mp h3).2 h4.left.right h4.right h5 (h6.own Own.e kn)
theorem v_tupI (hs : see e t = some (.lst ms)) (hi : M.imms ms = true) (q : Q (.o (.tup ms)) e) : Xc X G (.type "tuple") T [t] e Q :=
  .of1 call_tuple_of fun v tv σ H s => by
    obtain ⟨a, vs, rfl, hq, hr⟩ := see_lst s hs hi
    exact ⟨a, vs, rfl, .inl ⟨SqL.of hq, fun l hn => ⟨_, e, s.pop.newTup0 hr hn, q⟩⟩⟩
theorem v_tupT {k : Bool} (hs : see e t = some (.tup ms k)) (hi : M.imms ms = true) (q : Q (.o (.tup ms k)) e) : Xc X G (.type "tuple") T [t] e Q :=
  .of1 call_tuple_of fun v tv σ H s => by
    obtain ⟨a, vs, rfl, hq, hr⟩ := see_tup s hs hi
    exact ⟨a, vs, rfl, .inr ⟨hq.sq, _, e, s.pop.push (.tup hq hr), q⟩⟩
theorem v_lstI (hs : see e t = some (.lst ms)) (hi : M.imms ms = true) (q : Q (.o (.lst ms)) e) : Xc X G (.type "list") T [t] e Q :=
  .of1 call_list_of fun v tv σ H s => by
    obtain ⟨a, vs, rfl, hq, hr⟩ := see_lst s hs hi
    exact ⟨a, vs, rfl, .inl (SqL.of hq), fun l hn => ⟨_, e, s.pop.newLst0 hr hn, q⟩⟩
theorem v_lstT {k : Bool} (hs : see e t = some (.tup ms k)) (hi : M.imms ms = true) (q : Q (.o (.lst ms)) e) : Xc X G (.type "list") T [t] e Q :=
  .of1 call_list_of fun v tv σ H s => by
    obtain ⟨a, vs, rfl, hq, hr⟩ := see_tup s hs hi
    exact ⟨a, vs, rfl, .inr hq.sq, fun l hn => ⟨_, e, s.pop.newLst0 hr hn, q⟩⟩
theorem v_str (hz : i.natAbs.log2 < 1920) (q : Q (.o (.str (toString i))) e) : Xc X G (.type "str") T [.o (.int i)] e Q :=
  .of1 call_str_int fun v tv σ H s => by obtain ⟨rfl, s1⟩ := s.i1; exact ⟨i, rfl, hz, _, e, s1.push (.str _), q⟩
/-- list(range(n)) -/
theorem x_lrg1 {a : Expr} {p pos p' pos' : Pos} (hc : X.calm = true) (hl : X.mg "list" = none) (hr : X.mg "range" = none) (gl : Gl X "list") (gr : Gl X "range") (na : starEach [a] X.env = (false, eval a X.env) :: starEach [] X.env)
    (nb : starEach [.Call (.Name "range" p') [a] [] pos'] X.env = (false, eval (.Call (.Name "range" p') [a] [] pos') X.env) :: starEach [] X.env)
    (h : Xp X G T e a (kI fun n e1 => (0 ≤ n ∧ n ≤ 16777216) ∧ Q (.o (.lst (rangeM 0 n.toNat))) e1)) : Xp X G T e (.Call (.Name "list" p) [.Call (.Name "range" p') [a] [] pos'] [] pos) Q :=
  .of (pe_listRg hc gl hl (prg_1 gr hr (pe_self a) na) nb) fun tv σ H s pins sh I => thn (h.run tv σ H s pins sh I) fun u s1 ⟨v, H1, I1, r1, t, e1, s2, n, ht, hz, hQ⟩ => ⟨v, H1, I1, r1, by
    subst ht
    obtain ⟨rfl, s3⟩ := s2.i1
    refine ⟨n, rfl, RgOk.of_le (by omega) hz.2 (by omega) hz.1, fun q hq => ⟨_, e1, ?_, hQ⟩⟩
    have e0 : rgV 0 n = (((List.range n.toNat).map fun k => (0 : Int) + (k : Nat)).map V.int) := by simp [rgV, List.map_map, Function.comp_def]
    have e2 : rangeM 0 n.toNat = (((List.range n.toNat).map fun k => (0 : Int) + (k : Nat)).map M.int) := by simp [rangeM, List.map_map, Function.comp_def]
    rw [e0, e2]
    exact s3.newLst0 (rms_ints' _) hq⟩
end
end SY
namespace SY
open PySem L2

/-! ### a list in a slot is changed -/
section
variable {K : PySem.W.Frag} {G : Gh} {T : List Tm} {e : Ev} {tv : List V} {σ : L2.St} {H : Hp} {v : V} {s0 : Slot} {ms : List M} {k : Nat} {m : M}
theorem SR.lstPut (s : SRg K G (.b k :: T) (v :: tv) e σ H) (hk : e[k]? = some s0) (hm : s0.m? = some (.lst ms)) (hi : M.imms ms = true) : ∃ p vs, v = .ref p ∧ H p = some (.lst vs) ∧ RMs K H vs ms fE ∧
    ∀ vs' ms', RMs K H vs' ms' fE → SRg K G T tv (e.set k (s0.put (.lst ms'))) σ (upd H p (.lst vs')) := by
  obtain ⟨⟨f, g, h1, h2, h3, h4, h5⟩, h6⟩ := s
  cases h1 with
  | b rv h1 =>
    obtain ⟨w, f1, f2, q0, q1, q2, q3, q4, q5⟩ := h2.take hk hm
    subst q0
    rw [q2] at rv; cases rv
    cases q4 with
    | @lst p vs _ fa hq hr hn =>
      have z := RMs.imms _ hr hi
      subst z
      refine ⟨p, vs, rfl, hq, hr, fun vs' ms' r' => ?_⟩
      obtain ⟨d1, d2⟩ := dis_u'.mp h3
      have kp : Keep (fS p) H (upd H p (.lst vs')) := Keep.put rfl (by rw [hq]; rfl)
      have dp : ∀ {F : FP}, Dis F (fU (fS p) fE) → Dis F (fS p) := fun d b x y => d b x (.inl y)
      have q6 := q5.frame kp (dp q1.symm)
      have q7 := q6.fill (i := k) (s := s0.put (.lst ms')) (by rw [List.getElem?_set_self (List.getElem?_eq_some_iff.mp hk).1]) (Slot.m_put hm) q2 (Slot.arg_put q3)
        (.lst upd_same (RMs.frame kp _ r' (dis_e _)) (fun z => z)) (by rw [fU_e']; rw [fU_e'] at q1; exact q1)
      rw [List.set_set] at q7
      refine .mk' (h1.frame kp (dp d1)) q7 (dis_u'.mpr ⟨d1, d2⟩) h4 (h5.left.u h5.right) (h6.own (f := fS p) (fun b z => h5 b (.inl (.inl z))) kp)
theorem RMs.set0 : ∀ {ms : List M} {vs : List V} {v : V} {m : M} (j : Nat), RMs K H vs ms fE → RM K H v m fE → RMs K H (vs.set j v) (ms.set j m) fE := by
  have gen : ∀ {ms : List M} {vs : List V} {f : FP} {v : V} {m : M} (j : Nat), f = fE → RMs K H vs ms f → RM K H v m fE → RMs K H (vs.set j v) (ms.set j m) fE := by
    intro ms
    induction ms with
    | nil => intro vs f v m j hf h r; cases h; exact .nil
    | cons m0 ms ih =>
      intro vs f v m j hf h r
      cases h with
      | @cons _ _ _ _ f1 f2 h1 h2 hd =>
        have z1 : f1 = fE := by funext b; exact propext ⟨fun x => by rw [← hf]; exact .inl x, fun x => x.elim⟩
        have z2 : f2 = fE := by funext b; exact propext ⟨fun x => by rw [← hf]; exact .inr x, fun x => x.elim⟩
        subst z1; subst z2
        cases j with
        | zero => have := RMs.cons r h2 (dis_e _); rw [fUE] at this; exact this
        | succ j => have := RMs.cons h1 (ih j rfl h2 r) (dis_e _); rw [fUE] at this; exact this
  intro ms vs v m j h r
  exact gen j rfl h r
theorem fE_of_sub {f : FP} (h : ∀ b, f b → fE b) : f = fE := by funext b; exact propext ⟨h b, fun x => x.elim⟩
theorem RMs.take0 {vs : List V} (n : Nat) (h : RMs K H vs ms fE) : RMs K H (vs.take n) (ms.take n) fE := by
  obtain ⟨f, q1, q2⟩ := h.take n
  rw [fE_of_sub q2] at q1; exact q1
theorem RMs.drop0 {vs : List V} (n : Nat) (h : RMs K H vs ms fE) : RMs K H (vs.drop n) (ms.drop n) fE := by
  obtain ⟨f, q1, q2⟩ := h.drop n
  rw [fE_of_sub q2] at q1; exact q1
theorem RMs.one (r : RM K H v m fE) : RMs K H [v] [m] fE := by
  have := RMs.cons r .nil (dis_e _); rw [fUE] at this; exact this
theorem RMs.erase0 {vs : List V} (n : Nat) (h : RMs K H vs ms fE) : RMs K H (vs.eraseIdx n) (ms.eraseIdx n) fE := by
  rw [List.eraseIdx_eq_take_drop_succ, List.eraseIdx_eq_take_drop_succ]
  exact (h.take0 n).app0 (h.drop0 (n + 1))
theorem RMs.rev0 {vs : List V} (h : RMs K H vs ms fE) : RMs K H vs.reverse ms.reverse fE := by
  have gen : ∀ {ms : List M} {vs : List V} {f : FP}, f = fE → RMs K H vs ms f → RMs K H vs.reverse ms.reverse fE := by
    intro ms
    induction ms with
    | nil => intro vs f hf h; cases h; exact .nil
    | cons m0 ms ih =>
      intro vs f hf h
      cases h with
      | @cons _ _ _ _ f1 f2 h1 h2 hd =>
        have z1 : f1 = fE := fE_of_sub fun b x => by rw [← hf]; exact .inl x
        have z2 : f2 = fE := fE_of_sub fun b x => by rw [← hf]; exact .inr x
        subst z1; subst z2
        rw [List.reverse_cons, List.reverse_cons]
        exact (ih rfl h2).app0 (.one h1)
  exact gen rfl h
end

section
variable {X : Cx} {G : Gh} {T : List Tm} {e : Ev} {m : M} {ms : List M} {Q : Ev → Prop} {pos : Pos}
/-- o[i] = m, o a list in a slot -/
theorem g_sub {o i : Expr} {tpos : Pos} (hm : m.imm = true)
    (ha : ∀ v, assign (.Subscript o i tpos) X.env v = (do
      let ov ← holding [v] (eval o X.env)
      let iv ← holding [v, ov] (eval i X.env)
      standAt tpos
      holding [v, ov, iv] (setItem ov iv v)
      release [v, ov, iv] []))
    (h : Xp X G (.o m :: T) e o fun to e1 => Xp X G (to :: .o m :: T) e1 i fun ti e2 => ∃ k s0 ms j n, to = .b k ∧ ti = .o (.int j) ∧ e2[k]? = some s0 ∧ s0.m? = some (.lst ms) ∧ M.imms ms = true ∧ ixN ms.length j = some n ∧ Q (e2.set k (s0.put (.lst (ms.set n m))))) : Xg X G T e (.Subscript o i tpos) m [] Q :=
  ⟨fun v tv σ H s pins sh u I r => (pg_sub (pe_self o) (pe_self i) set_list ha).run pins sh σ H v u _ I r fun pins sh I => thn (h.run (v :: tv) σ H s pins sh I) fun u1 s1 ⟨w, H1, I1, r1, to, e1, s2, h2⟩ => ⟨w, H1, I1, r1, fun pins sh I =>
    thn (h2.run (w :: v :: tv) σ H1 s2 pins sh I) fun u2 s3 ⟨z, H2, I2, r2, ti, e2, s4, k, s0, ms, j, n, hto, hti, hk, hs, hi, hn, hQ⟩ => ⟨z, H2, I2, r2, by
      subst hto; subst hti
      obtain ⟨rfl, s5⟩ := s4.i1
      obtain ⟨p, vs, rfl, hp, hr, put⟩ := s5.lstPut hk hs hi
      obtain ⟨f, rm, _⟩ := s5.pop.top
      have zz := rm.imm _ hm
      subst zz
      exact ⟨p, vs, j, n, rfl, rfl, hp, by rw [hr.length]; exact hn, _, (put _ _ (hr.set0 n rm)).pop, hQ, .refl⟩⟩⟩⟩
end

/-! ### methods of built-in types -/
def wpM (X : Cx) (id : String) : V → List V → Hp → VK → Prop := fun x xs H Q => ∀ pins s σ v us, Inv X pins σ H s → RelV x v → Vals xs us → wpAny (model X.prog X.w) X.A (call (.builtin id) (v :: us)) (EP X pins σ Q) X.xe s
theorem wpM_ok {X : Cx} (id : String) : MtR X id (wpM X id) := fun pins s σ H x xs v us Q I rx rv h => h pins s σ v us I rx rv
structure Xm (X : Cx) (G : Gh) (id : String) (T : List Tm) (to : Tm) (ts : List Tm) (e : Ev) (Q : Tm → Ev → Prop) : Prop where
  run : ∀ vo vs tv σ H, vs.length = ts.length → SRg X.K G (ts.reverse ++ (to :: T)) (vs.reverse ++ (vo :: tv)) e σ H → wpM X id vo vs H (kE X.K G T tv σ Q)
/-- the receiver's type -/
def tyM (e : Ev) (t : Tm) : String → Prop
  | "list" => ∃ ms, see e t = some (.lst ms)
  | "str" => ∃ x, t = .o (.str x)
  | "dict" => (∃ ks ms, see e t = some (.dk ks ms)) ∨ ∃ ks ms, see e t = some (.dt ks ms)
  | _ => False
section
variable {X : Cx} {G : Gh} {T : List Tm} {e : Ev} {o a : Expr} {es : List Expr} {Q : Tm → Ev → Prop} {apos cpos : Pos} {name : Str} {id : String}
theorem tyM_list {t : Tm} {tv : List V} {v : V} {σ : L2.St} {H : Hp} (s : SRg X.K G (t :: T) (v :: tv) e σ H) (h : ∃ ms, see e t = some (.lst ms)) : tyV X.K "list" v H := by
  obtain ⟨ms, h⟩ := h
  obtain ⟨f, r⟩ := s.see h
  cases r with
  | lst hq _ _ => exact .inl ⟨rfl, _, SqL.of hq⟩
theorem x_lm (slot : PySem.Slot "list" name id) (hty : typeOf (.builtin id) = pure (.type "method_descriptor"))
    (hbase : attributeBase o name X.env (eval o X.env) = eval o X.env)
    (hfew : ((backTo cpos (starEach (a :: es) X.env)).all (fun x => !x.1) && (backToKw cpos (keywordEach [] X.env)).all (fun x => x.1.isSome)
      && decide ((a :: es).length + ([] : List Keyword).length + (if ([] : List Keyword).isEmpty then 0 else 1) < 30)) = true)
    (hline : (apos.endLine == cpos.line) = true) (hs : starEach (a :: es) X.env = (false, eval a X.env) :: starEach es X.env) (hplain : (backTo cpos (starEach es X.env)).any (·.1) = false)
    (h : Xp X G T e o fun to e0 => (∃ ms, see e0 to = some (.lst ms)) ∧ Xa X G (to :: T) e0 (a :: es) fun ts e1 => Xm X G id T to ts e1 Q) : Xp X G T e (.Call (.Attribute o name apos) (a :: es) [] cpos) Q :=
  .of (pe_bm PySem.F.plainAttrs_list slot hty (wpM_ok id) (pe_self o) (pa_self (a :: es)) hbase hfew hline hs hplain) fun tv σ H s pins sh I => thn (h.run tv σ H s pins sh I) fun u s1 ⟨v, H1, I1, r1, to, e0, s2, ty, h2⟩ => ⟨v, H1, I1, r1, tyM_list s2 ty, fun pos pins sh I =>
    thn (h2.run (v :: tv) σ H1 s2 pos pins sh I) fun us s3 ⟨vs, H2, I2, r2, ts, e1, s4, hl, h4⟩ => ⟨vs, H2, I2, r2, h4.run v vs tv σ H2 hl.symm s4⟩⟩
theorem x_lm0 (slot : PySem.Slot "list" name id) (hty : typeOf (.builtin id) = pure (.type "method_descriptor"))
    (hbase : attributeBase o name X.env (eval o X.env) = eval o X.env) (hline : (apos.endLine == cpos.line) = true)
    (h : Xp X G T e o fun to e0 => (∃ ms, see e0 to = some (.lst ms)) ∧ Xm X G id T to [] e0 Q) : Xp X G T e (.Call (.Attribute o name apos) [] [] cpos) Q :=
  .of (pe_bm0 PySem.F.plainAttrs_list slot hty (wpM_ok id) (pe_self o) hbase hline) fun tv σ H s pins sh I => thn (h.run tv σ H s pins sh I) fun u s1 ⟨v, H1, I1, r1, to, e0, s2, ty, h2⟩ => ⟨v, H1, I1, r1, tyM_list s2 ty, h2.run v [] tv σ H1 rfl s2⟩
theorem Xm.of1 {r : V → List V → Hp → VK → Prop} {to t : Tm} (h : MtR X id r) (k : ∀ vo v tv σ H, SRg X.K G (t :: to :: T) (v :: vo :: tv) e σ H → r vo [v] H (kE X.K G T tv σ Q)) : Xm X G id T to [t] e Q :=
  ⟨fun vo vs tv σ H hl s pins sh σ' v us I rv rs => by
    match vs, hl with
    | [w], _ => exact h pins sh σ' H vo [w] v us _ I rv rs (k vo w tv σ H s)⟩
theorem Xm.of2 {r : V → List V → Hp → VK → Prop} {to t u : Tm} (h : MtR X id r) (k : ∀ vo v w tv σ H, SRg X.K G (u :: t :: to :: T) (w :: v :: vo :: tv) e σ H → r vo [v, w] H (kE X.K G T tv σ Q)) : Xm X G id T to [t, u] e Q :=
  ⟨fun vo vs tv σ H hl s pins sh σ' v us I rv rs => by
    match vs, hl with
    | [w, z], _ => exact h pins sh σ' H vo [w, z] v us _ I rv rs (k vo w z tv σ H s)⟩
theorem Xm.of0 {r : V → List V → Hp → VK → Prop} {to : Tm} (h : MtR X id r) (k : ∀ vo tv σ H, SRg X.K G (to :: T) (vo :: tv) e σ H → r vo [] H (kE X.K G T tv σ Q)) : Xm X G id T to [] e Q :=
  ⟨fun vo vs tv σ H hl s pins sh σ' v us I rv rs => by
    match vs, hl with
    | [], _ => exact h pins sh σ' H vo [] v us _ I rv rs (k vo tv σ H s)⟩
end
section
variable {X : Cx} {G : Gh} {T : List Tm} {e : Ev} {Q : Tm → Ev → Prop} {m : M} {ms : List M} {k : Nat} {s0 : Slot} {i : Int}
/-- xs.append(m), things without footprint -/
theorem m_append {t : Tm} (ht : see e t = some m) (himm : m.imm = true) (hk : e[k]? = some s0) (hs : s0.m? = some (.lst ms)) (hi : M.imms ms = true) (hz : ms.length < sizeLine) (q : Q (.o .non) (e.set k (s0.put (.lst (ms ++ [m]))))) : Xm X G "list.append" T (.b k) [t] e Q :=
  .of1 mt_append fun vo v tv σ H s => by
    obtain ⟨f, rm⟩ := s.see ht
    have zz := rm.imm _ himm
    subst zz
    obtain ⟨p, vs, rfl, hp, hr, put⟩ := s.pop.lstPut hk hs hi
    exact ⟨p, vs, v, rfl, rfl, hp, by rw [hr.length]; exact hz, _, _, (put _ _ (hr.app0 (.one rm))).push .non, q⟩
theorem m_insert {t : Tm} (ht : see e t = some m) (himm : m.imm = true) (hk : e[k]? = some s0) (hs : s0.m? = some (.lst ms)) (hi : M.imms ms = true) (hz : ms.length < sizeLine) (h0 : 0 ≤ i ∧ i < 2 ^ 63) (q : Q (.o .non) (e.set k (s0.put (.lst (ms.take i.toNat ++ [m] ++ ms.drop i.toNat))))) : Xm X G "list.insert" T (.b k) [.o (.int i), t] e Q :=
  .of2 mt_insert fun vo v w tv σ H s => by
    obtain ⟨f, rm⟩ := s.see ht
    have zz := rm.imm _ himm
    subst zz
    obtain ⟨rfl, s1⟩ := s.pop.i1
    obtain ⟨p, vs, rfl, hp, hr, put⟩ := s1.lstPut hk hs hi
    exact ⟨p, vs, i, w, rfl, rfl, hp, by rw [hr.length]; exact hz, h0.1, h0.2, _, _, (put _ _ (((hr.take0 _).app0 (.one rm)).app0 (hr.drop0 _))).push .non, q⟩
/-- xs.pop(i), 0 ≤ i -/
theorem m_popAt (hk : e[k]? = some s0) (hs : s0.m? = some (.lst ms)) (hi : M.imms ms = true) (h0 : 0 ≤ i ∧ i < 2 ^ 63) (hj : ms[i.toNat]? = some m) (q : Q (.o m) (e.set k (s0.put (.lst (ms.eraseIdx i.toNat))))) : Xm X G "list.pop" T (.b k) [.o (.int i)] e Q :=
  .of1 mt_popAt fun vo v tv σ H s => by
    obtain ⟨rfl, s1⟩ := s.i1
    obtain ⟨p, vs, rfl, hp, hr, put⟩ := s1.lstPut hk hs hi
    obtain ⟨v, f', q1, q2, q3⟩ := hr.get hj
    have zz := fE_of_sub q3
    subst zz
    have hlt := (List.getElem?_eq_some_iff.mp q1).1
    have kp : Keep (fS p) H (upd H p (.lst (vs.eraseIdx i.toNat))) := Keep.put rfl (by rw [hp]; rfl)
    exact ⟨p, vs, i, i.toNat, v, rfl, rfl, hp, by omega, h0.2, PySem.seqIndex_of h0.1 (by omega), q1, _, _, (put _ _ (hr.erase0 _)).push (RM.frame kp _ q2 (dis_e _)), q⟩
/-- xs.pop() -/
theorem m_pop (hk : e[k]? = some s0) (hs : s0.m? = some (.lst ms)) (hi : M.imms ms = true) (hj : ms[ms.length - 1]? = some m) (q : Q (.o m) (e.set k (s0.put (.lst ms.dropLast)))) : Xm X G "list.pop" T (.b k) [] e Q :=
  .of0 mt_pop fun vo tv σ H s => by
    obtain ⟨p, vs, rfl, hp, hr, put⟩ := s.lstPut hk hs hi
    obtain ⟨v, f', q1, q2, q3⟩ := hr.get hj
    have zz := fE_of_sub q3
    subst zz
    have kp : Keep (fS p) H (upd H p (.lst vs.dropLast)) := Keep.put rfl (by rw [hp]; rfl)
    refine ⟨p, vs, v, rfl, rfl, hp, by rw [hr.length]; exact q1, _, _, (put vs.dropLast ms.dropLast ?_).push (RM.frame kp _ q2 (dis_e _)), q⟩
    rw [List.dropLast_eq_take, List.dropLast_eq_take, hr.length]
    exact hr.take0 _
/-- xs.clear() -/
theorem m_clear (hk : e[k]? = some s0) (hs : s0.m? = some (.lst ms)) (hi : M.imms ms = true) (q : Q (.o .non) (e.set k (s0.put (.lst [])))) : Xm X G "list.clear" T (.b k) [] e Q :=
  .of0 mt_clear fun vo tv σ H s => by
    obtain ⟨p, vs, rfl, hp, hr, put⟩ := s.lstPut hk hs hi
    exact ⟨p, vs, rfl, rfl, hp, _, _, (put [] [] .nil).push .non, q⟩
/-- xs[::-1] -/
theorem x_rev {a : Expr} {k : Nat} {p1 p2 p3 pos : Pos} (h : Xp X G T e a fun t e1 => ∃ ms, see e1 t = some (.lst ms) ∧ M.imms ms = true ∧ Q (.o (.lst ms.reverse)) e1) : Xp X G T e (.Subscript a (.Slice none none (some (.UnaryOp .USub (.Constant (.int 1) k p1) p2)) p3) pos) Q :=
  .of (pe_revL (pe_self a)) fun tv σ H s pins sh I => thn (h.run tv σ H s pins sh I) fun u s1 ⟨v, H1, I1, r1, t, e1, s2, ms, hs, hi, hQ⟩ => ⟨v, H1, I1, r1, by
    obtain ⟨p, vs, rfl, hp, hr⟩ := see_lst s2 hs hi
    exact ⟨p, vs, rfl, SqL.of hp, fun l hl => ⟨_, e1, s2.pop.newLst0 hr.rev0 hl, hQ⟩⟩⟩
end
end SY
namespace SY
open PySem L2

def wipeE (e : Ev) : List Nat → Ev
  | [] => e
  | v :: vs => (wipeE e vs).set v .un
def noBs (vs : List Nat) (T : List Tm) : Bool := vs.all fun v => noB v T
section
variable {K : PySem.W.Frag} {G : Gh} {T : List Tm} {tv : List V} {e : Ev} {σ : L2.St} {H H' : Hp}
theorem SR.kill {i : Nat} (s : SRg K G T tv e σ H) (hn : noB i T = true) (x : Option V) : SRg K G T tv (e.set i .un) (σ.set i x) H := by
  obtain ⟨⟨f, g, h1, h2, h3, h4, h5⟩, h6⟩ := s
  obtain ⟨g', k1, k2⟩ := h2.drop i
  refine .mk' (tr_set hn h1) ?_ (fun b x y => h3 b x (k1 b y)) h4 (fun b z => h5 b (k1 b z)) h6
  by_cases hi : i < e.length
  · exact k2.set x (by rw [List.getElem?_set_self hi])
  · rw [List.set_eq_of_length_le (by rw [h2.length]; omega)]; exact k2
theorem SR.wipe : ∀ {vs : List Nat}, SRg K G T tv e σ H → noBs vs T = true → SRg K G T tv (wipeE e vs) (L2.wipe σ vs) H
  | [], s, _ => s
  | v :: vs, s, hn => by
    have hn' : noB v T = true ∧ noBs vs T = true := by simpa [noBs] using hn
    exact (SR.wipe s hn'.2).kill hn'.1 none
/-- the same slots, over other values where nothing is known -/
theorem er_same {av : List V} {f : FP} : ∀ {σ σ' : L2.St} {e : Ev}, ER K H av σ e f → σ'.length = σ.length → (∀ (i : Nat) (s : Slot), e[i]? = some s → s ≠ Slot.un → σ'[i]? = σ[i]?) → ER K H av σ' e f := by
  intro σ σ' e h
  induction h generalizing σ' with
  | nil => intro hl _; cases σ' with | nil => exact .nil | cons => cases hl
  | un _ ih =>
    intro hl hs
    cases σ' with
    | nil => cases hl
    | cons y σ' => exact .un (ih (by simpa using hl) fun i s h1 h2 => by simpa using hs (i + 1) s (by simpa using h1) h2)
  | s a0 a1 a2 _ hd ih =>
    intro hl hs
    cases σ' with
    | nil => cases hl
    | cons y σ' =>
      have h0 := hs 0 _ rfl (fun z => by rw [z] at a0; cases a0)
      simp at h0; subst h0
      exact .s a0 a1 a2 (ih (by simpa using hl) fun i s h1 h2 => by simpa using hs (i + 1) s (by simpa using h1) h2) hd
theorem tr_same {f : FP} : ∀ {σ σ' : L2.St} {vs : List V} {T : List Tm}, TR K H σ vs T f → (∀ i, noB i T = false → σ'[i]? = σ[i]?) → TR K H σ' vs T f := by
  intro σ σ' vs T h
  induction h with
  | nil => intro _; exact .nil
  | o r _ d ih => intro hs; exact .o r (ih hs) d
  | @b v i vs ts g r _ ih =>
    intro hs
    refine .b ?_ (ih fun j hj => hs j (by simp [noB, hj]))
    rw [hs i (by simp [noB])]; exact r
theorem wipe_get {σ : L2.St} {i : Nat} : ∀ {vs : List Nat}, i ∉ vs → (L2.wipe σ vs)[i]? = σ[i]? := fun {vs} h => wipe_out h
theorem noB_of {i : Nat} {vs : List Nat} (hn : noBs vs T = true) (h : noB i T = false) : i ∉ vs := fun hm => by
  have := List.all_eq_true.mp hn i hm
  rw [h] at this; cases this
/-- behind a comprehension: the slots as they were -/
theorem SR.unwipe {vs : List Nat} (s : SRg K G T tv e (L2.wipe σ vs) H) (hn : noBs vs T = true) : SRg K G T tv (wipeE e vs) σ H := by
  obtain ⟨⟨f, g, h1, h2, h3, h4, h5⟩, h6⟩ := s
  have drop : ∀ {vs : List Nat} {σ : L2.St} {e : Ev} {g : FP}, ER K H G.av σ e g → ∃ g', (∀ b, g' b → g b) ∧ ER K H G.av σ (wipeE e vs) g' := by
    intro vs
    induction vs with
    | nil => intro σ e g h; exact ⟨g, fun _ z => z, h⟩
    | cons v vs ih =>
      intro σ e g h
      obtain ⟨g1, q1, q2⟩ := ih h
      obtain ⟨g2, q3, q4⟩ := q2.drop v
      exact ⟨g2, fun b z => q1 b (q3 b z), q4⟩
  obtain ⟨g', k1, k2⟩ := drop (vs := vs) h2
  have nun : ∀ {vs : List Nat} {e : Ev} {i : Nat} {s : Slot}, (wipeE e vs)[i]? = some s → s ≠ .un → i ∉ vs := by
    intro vs
    induction vs with
    | nil => intro e i s _ _ h; simp at h
    | cons v vs ih =>
      intro e i s h hne hm
      have h' : ((wipeE e vs).set v .un)[i]? = some s := h
      by_cases hv : v = i
      · subst hv
        by_cases hl : v < (wipeE e vs).length
        · rw [List.getElem?_set_self hl] at h'; cases h'; exact hne rfl
        · rw [List.getElem?_eq_none (by simpa using hl)] at h'; cases h'
      · rw [List.getElem?_set_ne hv] at h'
        rcases List.mem_cons.mp hm with z | z
        · exact hv z.symm
        · exact ih h' hne z
  exact .mk' (tr_same h1 fun i hi => (wipe_get (noB_of hn hi)).symm) (er_same k2 (by rw [wipe_length]) fun i s h1 h2 => (wipe_get (nun h1 h2)).symm) (fun b x y => h3 b x (k1 b y)) h4 (fun b z => h5 b (k1 b z)) h6
end

/-- the context of a comprehension's block -/
abbrev Yx (X : Cx) (scope : Scope) (s : Shared) (H : Hp) (C : Addr) (cl : List (Str × Addr)) (fp : List Addr) : Cx := X.blk s H scope (compEnvC scope cl C X.env) fp
section
variable {X : Cx} {G : Gh} {T : List Tm} {e : Ev} {Q : Tm → Ev → Prop} {pos : Pos} {tg iter elt : Expr} {scope : Scope} {own : List (Str × Nat)}
theorem SR.popmid {K : PySem.W.Frag} {tv : List V} {v : V} {t : Tm} {σ : L2.St} {H : Hp} : ∀ {T' : List Tm} {tv' : List V}, tv'.length = T'.length → SRg K G (T' ++ t :: T) (tv' ++ v :: tv) e σ H → SRg K G (t :: T) (v :: tv) e σ H := fun hl s => SR.popnT hl s
/-- the list that grows, on its place among the pending -/
theorem SR.grow {K : PySem.W.Frag} {tv : List V} {σ : L2.St} {H : Hp} {D : Addr} {acc : List M} {m : M} {y : V} : ∀ {T' : List Tm} {tv' : List V}, tv'.length = T'.length → SRg K G (.o m :: (T' ++ .o (.lst acc) :: T)) (y :: (tv' ++ .ref D :: tv)) e σ H → m.imm = true → M.imms acc = true →
    ∃ vs, H D = some (.lst vs) ∧ vs.length = acc.length ∧ SRg K G (T' ++ .o (.lst (acc ++ [m])) :: T) (tv' ++ .ref D :: tv) e σ (upd H D (.lst (vs ++ [y]))) := by
  intro T' tv' hl s hm ha
  obtain ⟨f0, rm, _⟩ := s.top
  have zz := rm.imm _ hm
  subst zz
  obtain ⟨⟨f, g, h1, h2, h3, h4, h5⟩, h6⟩ := s.pop
  -- the list's place
  have key : ∀ {T' : List Tm} {tv' : List V} {f : FP}, tv'.length = T'.length → TR K H σ (tv' ++ .ref D :: tv) (T' ++ .o (.lst acc) :: T) f → ∃ vs, H D = some (.lst vs) ∧ RMs K H vs acc fE ∧ f D ∧
      ∀ H', Keep (fS D) H H' → H' D = some (.lst (vs ++ [y])) → TR K H' σ (tv' ++ .ref D :: tv) (T' ++ .o (.lst (acc ++ [m])) :: T) f := by
    intro T'
    induction T' with
    | nil =>
      intro tv' f hl h
      cases tv' with
      | cons => cases hl
      | nil =>
        cases h with
        | o r h hd =>
          cases r with
          | @lst a vs _ fa hq hr hn =>
            have z := RMs.imms _ hr ha
            subst z
            refine ⟨vs, hq, hr, .inl (.inl rfl), fun H' k hH => .o (.lst hH (RMs.frame k _ (hr.app0 (.one rm)) (dis_e _)) hn) (h.frame k fun b x z => hd b (.inl z) x) hd⟩
    | cons t T' ih =>
      intro tv' f hl h
      cases tv' with
      | nil => cases hl
      | cons v tv' =>
        cases h with
        | o r h hd =>
          obtain ⟨vs, q1, q2, q3, q4⟩ := ih (by simpa using hl) h
          exact ⟨vs, q1, q2, .inr q3, fun H' k hH => .o (RM.frame k _ r fun b x z => hd b x (by rw [show b = D from z]; exact q3)) (q4 H' k hH) hd⟩
        | b r h =>
          obtain ⟨vs, q1, q2, q3, q4⟩ := ih (by simpa using hl) h
          exact ⟨vs, q1, q2, q3, fun H' k hH => .b r (q4 H' k hH)⟩
  obtain ⟨vs, q1, q2, q3, q4⟩ := key hl h1
  have kp : Keep (fS D) H (upd H D (.lst (vs ++ [y]))) := Keep.put rfl (by rw [q1]; rfl)
  exact ⟨vs, q1, q2.length, .mk' (q4 _ kp upd_same) (h2.frame kp fun b x z => h3 b (by rw [show b = D from z]; exact q3) x) h3 h4 h5 (h6.own (f := fS D) (fun b z => by rw [show b = D from z]; exact h4 _ q3) kp)⟩
theorem wipe_agree {js vs : List Nat} {σ σ2 : L2.St} (h : Agree js (L2.wipe σ vs) σ2) (hs : ∀ j ∈ js, j ∈ vs) : L2.wipe σ2 vs = L2.wipe σ vs := by
  have len : σ2.length = σ.length := by rw [h.1, wipe_length]
  apply List.ext_getElem?
  intro i
  by_cases hi : i ∈ vs
  · have : ∀ {τ : L2.St} {vs : List Nat}, i ∈ vs → (L2.wipe τ vs)[i]? = if i < τ.length then some none else none := by
      intro τ vs
      induction vs with
      | nil => intro h; simp at h
      | cons v vs ih =>
        intro hm
        show ((L2.wipe τ vs).set v none)[i]? = _
        by_cases hv : v = i
        · subst hv
          by_cases hl : v < τ.length
          · rw [List.getElem?_set_self (by rw [wipe_length]; exact hl), if_pos hl]
          · rw [if_neg hl, List.getElem?_eq_none (by rw [List.length_set, wipe_length]; omega)]
        · rw [List.getElem?_set_ne hv]
          rcases List.mem_cons.mp hm with z | z
          · exact absurd z.symm hv
          · exact ih z
    rw [this hi, this hi, len]
  · rw [wipe_get hi, h.2 i fun z => hi (hs i z)]
/-- [elt for tg in iter] and [elt for tg in iter if c]: the words -/
def LcW (X : Cx) (G : Gh) (T : List Tm) (tg elt : Expr) (c : Option Expr) (scope : Scope) (vs : List Nat) (Q : Tm → Ev → Prop) : List Tm → List M → (Ev → Prop) → Ev → Prop := fun T' its P e1 =>
  ∃ I : Nat → List M → Ev → Prop, noBs vs (T' ++ T) = true ∧ I 0 [] (wipeE e1 vs) ∧ (∀ i acc e2, I i acc e2 → P e2 ∧ M.imms acc = true) ∧
    (∀ i acc e2 m, its[i]? = some m → I i acc e2 → ∃ js, (∀ j ∈ js, j ∈ vs) ∧ ∀ s H C cl fp, Xg (Yx X scope s H C cl fp) G (T' ++ .o (.lst acc) :: T) e2 tg m js fun e3 => ∀ s H C cl fp,
      match c with
      | none => Xp (Yx X scope s H C cl fp) G (T' ++ .o (.lst acc) :: T) e3 elt fun t e4 => ∃ m', see e4 t = some m' ∧ m'.imm = true ∧ acc.length < sizeLine ∧ I (i + 1) (acc ++ [m']) (wipeE e4 vs)
      | some c => Xt (Yx X scope s H C cl fp) G (T' ++ .o (.lst acc) :: T) e3 c fun k e4 => (k = true → ∀ s H C cl fp, Xp (Yx X scope s H C cl fp) G (T' ++ .o (.lst acc) :: T) e4 elt fun t e5 => ∃ m', see e5 t = some m' ∧ m'.imm = true ∧ acc.length < sizeLine ∧ I (i + 1) (acc ++ [m']) (wipeE e5 vs)) ∧ (k = false → I (i + 1) acc (wipeE e4 vs))) ∧
    (∀ acc e2, I its.length acc e2 → Q (.o (.lst acc)) (wipeE e2 vs))
def gY (X : Cx) (scope : Scope) (tg : Expr) : TG := fun v σ H Q => ∀ s H0 C cl fp, wpG (Yx X scope s H0 C cl fp) tg v σ H Q
def eY (X : Cx) (scope : Scope) (ex : Expr) : TE := fun σ H Q => ∀ s H0 C cl fp, wpE (Yx X scope s H0 C cl fp) ex σ H Q
def tY (X : Cx) (scope : Scope) (ex : Expr) : TT := fun σ H Q => ∀ s H0 C cl fp, wpT (Yx X scope s H0 C cl fp) ex σ H Q
theorem gY_ok (tg : Expr) : ∀ (s : Shared) (H : Hp) (C : Addr) (cl : List (Str × Addr)) (fp : List Addr), PG (X.blk s H scope (compEnvC scope cl C X.env) fp) tg (gY X scope tg) := fun s H C cl fp => ⟨fun pins sh σ H' v u Q I r h => h s H C cl fp pins sh u I r⟩
theorem eY_ok (ex : Expr) : ∀ (s : Shared) (H : Hp) (C : Addr) (cl : List (Str × Addr)) (fp : List Addr), PE (X.blk s H scope (compEnvC scope cl C X.env) fp) ex (eY X scope ex) := fun s H C cl fp => ⟨fun pins sh σ H' Q I h => h s H C cl fp pins sh I⟩
theorem tY_ok (ex : Expr) : ∀ (s : Shared) (H : Hp) (C : Addr) (cl : List (Str × Addr)) (fp : List Addr), PT (X.blk s H scope (compEnvC scope cl C X.env) fp) ex (tY X scope ex) := fun s H C cl fp => ⟨fun pins sh σ H' Q I h => h s H C cl fp pins sh I⟩
theorem noBs_ins {vs : List Nat} {m : M} : ∀ {T' : List Tm}, noBs vs (T' ++ T) = true → noBs vs (T' ++ .o m :: T) = true := by
  intro T' h
  have one : ∀ {i : Nat} {T' : List Tm}, noB i (T' ++ .o m :: T) = noB i (T' ++ T) := by
    intro i T'
    induction T' with
    | nil => rfl
    | cons t T' ih => cases t <;> simp [noB, ih]
  rw [noBs, List.all_eq_true] at h ⊢
  intro i hi
  rw [one]; exact h i hi
theorem SR.ins {K : PySem.W.Frag} {tv : List V} {σ : L2.St} {H : Hp} {D : Addr} {T' : List Tm} {tv' : List V} (hl : tv'.length = T'.length) (s : SRg K G (T' ++ T) (tv' ++ tv) e σ H) (hD : H D = none) :
    SRg K G (T' ++ .o (.lst []) :: T) (tv' ++ .ref D :: tv) e σ (upd H D (.lst [])) := by
  obtain ⟨⟨f, g, h1, h2, h3, h4, h5⟩, h6⟩ := s
  have kn : Keep fE H (upd H D (.lst [])) := Keep.new hD
  have nf : ∀ {F : FP}, (∀ b, F b → ∃ u, H b = some u) → ¬ F D := fun t z => by
    obtain ⟨u, hu⟩ := t D z
    rw [hD] at hu; cases hu
  have key : ∀ {T' : List Tm} {tv' : List V} {f : FP}, tv'.length = T'.length → TR K H σ (tv' ++ tv) (T' ++ T) f → ∃ f', TR K (upd H D (.lst [])) σ (tv' ++ .ref D :: tv) (T' ++ .o (.lst []) :: T) f' ∧ ∀ b, f' b → f b ∨ b = D := by
    intro T'
    induction T' with
    | nil =>
      intro tv' f hl h
      cases tv' with
      | cons => cases hl
      | nil => exact ⟨_, .o (.lst upd_same .nil (fun z => z)) (h.frame kn (dis_e' _)) (dis_u.mpr ⟨fun b x y => nf h.there (by rw [← (show b = D from x)]; exact y), dis_e _⟩), fun b z => z.elim (fun z => .inr (z.elim id (fun z => z.elim))) .inl⟩
    | cons t T' ih =>
      intro tv' f hl h
      cases tv' with
      | nil => cases hl
      | cons v tv' =>
        cases h with
        | o r h hd =>
          obtain ⟨f', q1, q2⟩ := ih (by simpa using hl) h
          exact ⟨fU _ f', .o (RM.frame kn _ r (dis_e' _)) q1 fun b x y => (q2 b y).elim (hd b x) fun z => nf (RM.there _ r) (by rw [← z]; exact x), fun b z => z.elim (fun z => .inl (.inl z)) fun z => (q2 b z).imp .inr id⟩
        | b r h =>
          obtain ⟨f', q1, q2⟩ := ih (by simpa using hl) h
          exact ⟨f', .b r q1, q2⟩
  obtain ⟨f', q1, q2⟩ := key hl h1
  exact .mk' q1 (h2.frame kn (dis_e' _)) (fun b x y => (q2 b x).elim (fun z => h3 b z y) fun z => nf h2.there (by rw [← z]; exact y)) (fun b x => (q2 b x).elim (h4 b) fun z => by rw [z]; exact own_fresh h6 hD) h5 (h6.own Own.e kn)
def ttY (X : Cx) (scope : Scope) : Option Expr → TT
  | none => tYes
  | some c => tY X scope c
theorem lc_main {c : Option Expr} {vs : List Nat} {tv : List V} {σ : L2.St} {H : Hp} (s : SRg X.K G T tv e σ H) (h : Xr X G T e tg iter (LcW X G T tg elt c scope vs Q)) :
    tLc (wpI X tg iter) (gY X scope tg) (ttY X scope c) (eY X scope elt) vs σ H (kE X.K G T tv σ Q) := by
  refine wpI_mono (h.run tv σ H s) ?_
  rintro J H1 ⟨T', tv', its, P, e1, hl, s1, gv, I, hn, i0, hP, turn, fin⟩ D hD
  have s2 := SR.ins hl s1 hD
  refine ⟨fun i m H => m = its.length - i ∧ i ≤ its.length ∧ ∃ acc e, SRg X.K G (T' ++ .o (.lst acc) :: T) (tv' ++ .ref D :: tv) e (L2.wipe σ vs) H ∧ I i acc e, ⟨_, rfl, Nat.zero_le _, [], _, s2.wipe (noBs_ins hn), i0⟩, ?_⟩
  rintro i m H2 ⟨rfl, hi, acc, e2, s3, iv⟩
  obtain ⟨p2, ai⟩ := hP i acc e2 iv
  obtain ⟨g1, g2⟩ := gv (.o (.lst acc) :: T) (.ref D :: tv) e2 (L2.wipe σ vs) H2 s3 p2 i hi
  by_cases hlt : i < its.length
  · obtain ⟨go, yl⟩ := g2 its[i] (by simp [hlt])
    refine .inr ⟨go, fun H' => ∃ acc e, SRg X.K G (T' ++ .o (.lst acc) :: T) (tv' ++ .ref D :: tv) e (L2.wipe σ vs) H' ∧ I (i + 1) acc e, fun H' ⟨acc, e, s, q⟩ => ⟨_, by omega, rfl, hlt, acc, e, s, q⟩, fun x H' hy => ?_⟩
    have s4 := yl x H' hy
    obtain ⟨js, hjs, tn⟩ := turn i acc e2 its[i] (by simp [hlt]) iv
    intro sx Hx C cl fp pins sh u Ix r
    refine thn ((tn sx Hx C cl fp).run x _ _ _ s4 pins sh u Ix r) fun _ s5 ⟨σ5, H5, I5, e5, s6, h6, ag⟩ => ⟨σ5, H5, I5, wipe_agree ag hjs, ?_⟩
    have wp := wipe_agree ag hjs
    -- the element, appended
    have elem : ∀ {e6 : Ev} {H6 : Hp}, SRg X.K G (T' ++ .o (.lst acc) :: T) (tv' ++ .ref D :: tv) e6 σ5 H6 → (∀ s H C cl fp, Xp (Yx X scope s H C cl fp) G (T' ++ .o (.lst acc) :: T) e6 elt fun t e4 => ∃ m', see e4 t = some m' ∧ m'.imm = true ∧ acc.length < sizeLine ∧ I (i + 1) (acc ++ [m']) (wipeE e4 vs)) →
        eY X scope elt σ5 H6 fun y H4 => ∃ acc, H4 D = some (.lst acc) ∧ acc.length < sizeLine ∧ ∃ acc' e, SRg X.K G (T' ++ .o (.lst acc') :: T) (tv' ++ .ref D :: tv) e (L2.wipe σ vs) (upd H4 D (.lst (acc ++ [y]))) ∧ I (i + 1) acc' e := by
      intro e6 H6 s7 he sx Hx C cl fp pins sh Ix
      refine thn ((he sx Hx C cl fp).run _ σ5 H6 s7 pins sh Ix) fun u s8 ⟨y, H8, I8, r8, t, e8, s9, m', hs, hm, hz, iv'⟩ => ⟨y, H8, I8, r8, ?_⟩
      obtain ⟨f, rm⟩ := s9.see hs
      have zz := rm.imm _ hm
      subst zz
      obtain ⟨ws, q1, q2, q3⟩ := SR.grow hl (s9.pop.push rm) hm ai
      refine ⟨ws, q1, by rw [q2]; exact hz, _, _, ?_, iv'⟩
      rw [← wp]
      exact q3.wipe (noBs_ins hn)
    cases c with
    | none =>
      simp only [ttY, tYes, if_true]
      exact elem s6 h6
    | some c =>
      intro sx Hx C cl fp pins sh Ix
      refine thn ((h6 sx Hx C cl fp).run _ σ5 H5 s6 pins sh Ix) fun k s7 ⟨H7, I7, e7, s8, hk⟩ => ⟨H7, I7, ?_⟩
      cases k with
      | true => exact iteT (elem s8 (hk.1 rfl))
      | false =>
        refine iteF ⟨acc, _, ?_, hk.2 rfl⟩
        rw [← wp]
        exact s8.wipe (noBs_ins hn)
  · have e0 : i = its.length := by omega
    subst e0
    refine .inl ⟨g1 rfl, _, _, (SR.popnT hl s3).unwipe ?_, fin acc e2 iv⟩
    have : ∀ {T' : List Tm}, noBs vs (T' ++ T) = true → noBs vs T = true := by
      intro T' h
      have one : ∀ {i : Nat} {T' : List Tm}, noB i (T' ++ T) = true → noB i T = true := by
        intro i T'
        induction T' with
        | nil => exact id
        | cons t T' ih => intro h; cases t <;> simp [noB] at h <;> first | exact ih h | exact ih h.2
      rw [noBs, List.all_eq_true] at h ⊢
      exact fun i hi => one (h i hi)
    exact noBs_ins (T' := []) (this hn)
/-- [elt for tg in iter] -/
theorem x_lc (hc : X.calm = true) (hN : X.N.Nodup) (ok : BlkOk X.N X.env.scope scope own) (hs : ∀ x, foldedSetIterable iter X.env x = pure x) (h : Xr X G T e tg iter (LcW X G T tg elt none scope (own.map (·.2)) Q)) : Xp X G T e (.ListComp elt [⟨tg, iter, [], 0⟩] scope pos) Q :=
  .of (pe_lc hc hN (pi_self tg iter) ok (gY_ok tg) (fun _ _ _ _ _ => pts_nil) (eY_ok elt) hs) fun tv σ H s => lc_main s h
theorem x_lcif {c : Expr} (hc : X.calm = true) (hN : X.N.Nodup) (ok : BlkOk X.N X.env.scope scope own) (hs : ∀ x, foldedSetIterable iter X.env x = pure x) (h : Xr X G T e tg iter (LcW X G T tg elt (some c) scope (own.map (·.2)) Q)) : Xp X G T e (.ListComp elt [⟨tg, iter, [c], 0⟩] scope pos) Q :=
  .of (pe_lc hc hN (pi_self tg iter) ok (gY_ok tg) (fun s H C cl fp => pts_one (tY_ok c s H C cl fp)) (eY_ok elt) hs) fun tv σ H s => lc_main s h
end
section
variable {X : Cx} {G : Gh} {T : List Tm} {e : Ev} {D : MD} {pos spos py : Pos} {tg iter elt : Expr} {scope : Scope} {own : List (Str × Nat)} {y : Str}
/-- name = [..] on one line, the name a local -/
theorem s_lc (hnb : noB (nix X.N y) T = true) (hc : X.calm = true) (hN : X.N.Nodup) (hy : X.N[nix X.N y]? = some y) (hyl : X.env.scope.names.lookup y = some .local) (hsw : swapsWith (.ListComp elt [⟨tg, iter, [], 0⟩] scope pos) (some (.Name y py)) spos.line X.env = pure true) (ok : BlkOk X.N X.env.scope scope own)
    (hs : ∀ x, foldedSetIterable iter X.env x = pure x) (h : Xr X G T e tg iter (LcW X G T tg elt none scope (own.map (·.2)) (kO fun m e1 => D.nx (e1.set (nix X.N y) (.v m))))) : Xs X G T e (.Assign [.Name y py] (.ListComp elt [⟨tg, iter, [], 0⟩] scope pos) spos) D :=
  ⟨fun tv σ H s pins sh I => (ps_setLc hc hN hy hyl hsw (pi_self tg iter) ok (gY_ok tg) (fun _ _ _ _ _ => pts_nil) (eY_ok elt) hs).run pins sh σ H (low X.K G T tv D) I (by
    have hσ := I.len
    refine wpI_mono (lc_main s h) fun J H1 q D0 hD => ?_
    obtain ⟨W, w0, turn⟩ := q D0 hD
    refine ⟨W, w0, fun i m H w => (turn i m H w).imp (fun ⟨a, t, e1, s1, m1, e2, ho, hq⟩ => ⟨a, ?_⟩) id⟩
    exact ⟨_, (s1.own ho).storeT (ix_lt' hσ (s1.own ho) hy) hnb, hq⟩)⟩
theorem s_lcif {c : Expr} (hnb : noB (nix X.N y) T = true) (hc : X.calm = true) (hN : X.N.Nodup) (hy : X.N[nix X.N y]? = some y) (hyl : X.env.scope.names.lookup y = some .local) (hsw : swapsWith (.ListComp elt [⟨tg, iter, [c], 0⟩] scope pos) (some (.Name y py)) spos.line X.env = pure true) (ok : BlkOk X.N X.env.scope scope own)
    (hs : ∀ x, foldedSetIterable iter X.env x = pure x) (h : Xr X G T e tg iter (LcW X G T tg elt (some c) scope (own.map (·.2)) (kO fun m e1 => D.nx (e1.set (nix X.N y) (.v m))))) : Xs X G T e (.Assign [.Name y py] (.ListComp elt [⟨tg, iter, [c], 0⟩] scope pos) spos) D :=
  ⟨fun tv σ H s pins sh I => (ps_setLc hc hN hy hyl hsw (pi_self tg iter) ok (gY_ok tg) (fun s H C cl fp => pts_one (tY_ok c s H C cl fp)) (eY_ok elt) hs).run pins sh σ H (low X.K G T tv D) I (by
    have hσ := I.len
    refine wpI_mono (lc_main s h) fun J H1 q D0 hD => ?_
    obtain ⟨W, w0, turn⟩ := q D0 hD
    refine ⟨W, w0, fun i m H w => (turn i m H w).imp (fun ⟨a, t, e1, s1, m1, e2, ho, hq⟩ => ⟨a, ?_⟩) id⟩
    exact ⟨_, (s1.own ho).storeT (ix_lt' hσ (s1.own ho) hy) hnb, hq⟩)⟩
end
end SY
/-! enumerate of a tuple; sum of a tuple of ints -/
namespace PySem
open Sem (wp)
open AutoSeq1 (wpAny_loadPart')
theorem sy_meets_enumT (l : Addr) (items : Array Value) (n : Nat) (o : Obj) (ho : o.cls = .type "tuple") (hd : o.data = .seq items n) :
    Meets (Builtin.«enumerate.__new__» ⟨[.type "enumerate", .ref l], []⟩) (fun _ R s => s.heap.get? l = some o ∧
      R (.ok (.ret (.ref (s.heap.push { cls := .type "tuple_iterator", data := .fields #[.ref l, .int 0 0] }).objs.size)))
        { s with heap := (s.heap.push { cls := .type "tuple_iterator", data := .fields #[.ref l, .int 0 0] }).push { cls := .type "enumerate", data := .fields #[.none, .bool false, .ref s.heap.objs.size, rawInt 0, .none, .none] } }) :=
  .of_wp fun prog w A R s h => by
    obtain ⟨hp, g, d, tk, os⟩ := s; obtain ⟨hl, h⟩ := h
    obtain ⟨oc, od, odt, osl⟩ := o
    simp only at ho hd
    subst ho hd
    have hsub := sub_enumerate
    have hL : Heap.IsTuple (Shared.heap ⟨hp, g, d, tk, os⟩) l items := ⟨_, hl, rfl, n, rfl⟩
    wp_walk using wpAny_loadPart' hl
    refine wpAny_stack_any fun st => wpAny_pure ?_
    split
    · rename_i c _ _ _ _ _
      cases (c == Value.type "enumerate")
      · wp_walk using wpAny_loadPart' hl, wpAny_pyIter_tuple hL
        exact ⟨_, rfl, h⟩
      · wp_walk using wpAny_loadPart' hl, wpAny_pyIter_tuple hL
        exact ⟨_, rfl, h⟩
    · wp_walk using wpAny_loadPart' hl, wpAny_pyIter_tuple hL
      exact ⟨_, rfl, h⟩
section
variable {prog : Program} {w : World} {A : Around} {E : Value → Shared → Prop} {s : Shared}
theorem sy_call_enumT {l : Addr} {items : Array Value} {Q : Value → Shared → Prop} (hL : s.heap.IsTuple l items)
    (h : ∀ h', IsEnum h' (s.heap.objs.size + 1) s.heap.objs.size 0 .none → h'.IsTupleIter s.heap.objs.size l 0 → h'.objs.size = s.heap.objs.size + 2 →
      (∀ b o, s.heap.get? b = some o → h'.get? b = some o) → Q (.ref (s.heap.objs.size + 1)) { s with heap := h' }) :
    wpAny (model prog w) A (call (.type "enumerate") [.ref l]) Q E s := by
  obtain ⟨o, hl, hc, n, hd⟩ := hL
  refine callType_new F.called_enumerate (by decide) (F.typeCall_enumerate_1 _) (F.newCall_enumerate_1 _) (fun obj => F.args_object_init_2 obj _) F.entry_enumerate_new
    (sy_meets_enumT l items n o hc hd) ⟨hl, ?_⟩
  have hz : (s.heap.push { cls := .type "tuple_iterator", data := .fields #[.ref l, .int 0 0] }).objs.size = s.heap.objs.size + 1 := Heap.size_push ..
  show _ ∧ _
  rw [hz]
  have he : IsEnum ((s.heap.push { cls := .type "tuple_iterator", data := .fields #[.ref l, .int 0 0] }).push
      { cls := .type "enumerate", data := .fields #[.none, .bool false, .ref s.heap.objs.size, rawInt 0, .none, .none] }) (s.heap.objs.size + 1) s.heap.objs.size 0 .none := by
    have := Heap.get?_push_size (s.heap.push { cls := .type "tuple_iterator", data := .fields #[.ref l, .int 0 0] })
      (o := { cls := .type "enumerate", data := .fields #[.none, .bool false, .ref s.heap.objs.size, rawInt 0, .none, .none] }) rfl
    rw [hz] at this; exact this
  refine ⟨⟨_, he, rfl⟩, h _ he ⟨_, Heap.get?_push_of_some _ (Heap.get?_push_size _ rfl), rfl, rfl⟩ (by rw [Heap.size_push, hz]) fun b o x => Heap.get?_push_of_some _ (Heap.get?_push_of_some _ x)⟩
end
end PySem
namespace SY
open PySem L2 PySem.Spec PyProof.Rows
/-- enumerate of a tuple -/
def IteT (K : PySem.W.Frag) (a : Addr) : It :=
  ⟨fun i H => ∃ (xs : List V) (x : V), SqT K H a xs ∧ xs[i]? = some x, fun i H v H' => ∃ T x, v = .ref T ∧ H T = none ∧ H' = upd H T (.tup [.int (i : Nat), x]) ∧ ∀ xs, SqT K H a xs → xs[i]? = some x, fun i H => ∃ xs : List V, SqT K H a xs ∧ xs.length = i⟩
theorem turn_enumT {P : Program} {w : World} {K : PySem.W.Frag} {elts : List Expr} {kk : Nat} {tpos : Pos} (a e it : Addr) (hae : a ≠ it) (hae' : a ≠ e) :
    Turn P w K (.Tuple elts kk tpos) (IteT K a) [e, it] e (fun i h => (∃ old, IsEnum h e it ((i : Nat) : Int) old) ∧ h.IsTupleIter it a i ∧ e ≠ it) where
  mem := by simp
  obj := fun i h st b hb => by
    obtain ⟨⟨old, he⟩, ⟨o, ho, hc, hd⟩, _⟩ := st
    have e' : b = e ∨ b = it := by simpa using hb
    rcases e' with z | z
    · rw [z]; exact ⟨_, he, fun v q => nomatch q⟩
    · rw [z]; exact ⟨o, ho, fun v q => by rw [hd] at q; cases q⟩
  keep := fun i h h' st k => let ⟨⟨old, he⟩, hi, hne⟩ := st; ⟨⟨old, k e (by simp) _ he⟩, hi.at fun o q => k it (by simp) o q, hne⟩
  item := by
    intro X hP hw hK hc i pins s σ H E I hf st hg
    subst hP hw hK
    obtain ⟨⟨old, he⟩, hit, hne⟩ := st
    obtain ⟨xs, x, hq, hx⟩ := hg
    obtain ⟨its, rv, p, hz⟩ := I.tuple hq
    obtain ⟨u, hu, ru⟩ := rv.get hx
    have hel : e < s.heap.objs.size := Heap.lt_size he
    have hil : it < s.heap.objs.size := by obtain ⟨_, q, _⟩ := hit; exact Heap.lt_size q
    have hlen : i < its.toArray.size := by
      have := (List.getElem?_eq_some_iff.mp hu).1
      simpa using this
    refine wpAny_pyNext_enum_itemD (Draws.tuple (A := X.A.in1) (I.ok.hd hc) it a hae its.toArray) he ⟨hit, p⟩ hlen hne (by simp [hne, Ne.symm hae']) fun x' h' tk hP ho st' hT hsz hk => ?_
    have ex : x' = u := by
      have h1 : its.toArray[i]? = some x' := hP
      rw [show its.toArray[i]? = some u by simpa using hu] at h1
      exact (Option.some.inj h1).symm
    subst ex
    refine ⟨_, rfl, wpAny_letOwnedTupleGo_enum (s := { s with heap := h', toks := tk + 1 }) ho fun h'' he' sb => ?_⟩
    have hT2 : h''.get? s.heap.objs.size = some { cls := .type "tuple", data := .seq #[.int i tk, x'] } := (sb.2 _ (Nat.ne_of_gt hel)).trans hT
    have new : ObjOk X.prog X.w (upd H s.heap.objs.size (.tup [.int (i : Nat), x])) h'' s.heap.objs.size (.tup [.int (i : Nat), x]) :=
      ⟨by show 2 ≤ sizeLine; decide, [.int i tk, x'], .cons ⟨_, rfl⟩ (.cons ru .nil), ⟨_, hT2, rfl, _, rfl⟩⟩
    have I1 : Inv X pins σ (upd H s.heap.objs.size (.tup [.int (i : Nat), x])) { s with heap := h'', toks := tk + 1 } :=
      I.turnedNew (ch := [e, it]) (fun b ob hb q => (sb.2 b (fun z => hb (by simp [z]))).trans (hk b ob (fun z => hb (by simp [z])) (fun z => hb (by simp [z])) q)) hf (Nat.le_refl _) new
    refine ⟨.ref s.heap.objs.size, _, I1, rfl, ⟨_, x, rfl, I.hok.fresh (Nat.le_refl _), rfl, fun ys hy => by rw [I.tuple_inj hy hq]; exact hx⟩, ⟨⟨x', ?_⟩, st'.1.at fun o q => (sb.2 it (Ne.symm hne)).trans q, hne⟩, fun b hb => ?_⟩
    · have e1 : ((i + 1 : Nat) : Int) = (i : Int) + 1 := by omega
      rw [e1]; exact he'
    · have hb' : b < s.heap.objs.size := by
        have e' : b = e ∨ b = it := by simpa using hb
        rcases e' with z | z
        · rw [z]; exact hel
        · rw [z]; exact hil
      rw [upd_ne (Nat.ne_of_lt hb')]
      exact (hf b hb).1
  done := by
    intro X hP hw hK hc i pins s σ H E I hf st hg
    subst hP hw hK
    obtain ⟨⟨old, he⟩, hit, hne⟩ := st
    obtain ⟨xs, hq, hx⟩ := hg
    obtain ⟨its, rv, p, hz⟩ := I.tuple hq
    obtain ⟨f0, f1, f2, f3, f4, f5⟩ := hf it (by simp)
    have hl := rv.length
    have e0 : its.toArray.size = i := by simp; omega
    subst e0
    exact wpAny_pyNext_enum_endD (Draws.tuple (A := X.A.in1) (I.ok.hd hc) it a hae its.toArray) he ⟨hit, p⟩ fun h' eb => ⟨rfl, I.turned (t' := s.toks) (fun b o hb q => eb b o hb q) f0 f1 f3 f4 f5⟩
  self := fun A i s Q E st h => let ⟨⟨_, he⟩, _⟩ := st; wpAny_pyIter_enum he h
def iEnumT (K : PySem.W.Frag) (ta : TA) : TI := fun σ H R => ta σ H fun vs H1 => ∃ a xs, vs = [.ref a] ∧ SqT K H1 a xs ∧ R (IteT K a) H1
theorem pi_enumT {X : Cx} {e : Expr} {ta : TA} {p pos tpos : Pos} {elts : List Expr} {kk : Nat} (hg : Gl X "enumerate") (hm : X.mg "enumerate" = none) (ha : PA X [e] ta) (hs : starEach [e] X.env = [(false, eval e X.env)] := by rfl) :
    PI X (.Tuple elts kk tpos) (.Call (.Name "enumerate" p) [e] [] pos) (iEnumT X.K ta) := by
  refine ⟨fun pins s σ H R I h => ?_⟩
  refine Call_ (ld_blt I hg hm boot_enumerate (PyProof.Rows.callWith_type1 (thn (ha.run pos pins s σ H _ I h) fun us s1 ⟨vs, H1, I1, r1, q1⟩ => ?_) hs rfl))
  obtain ⟨a, xs, ex, hq, q⟩ := q1
  subst ex
  cases r1 with
  | cons r rr =>
    cases rr
    cases r
    obtain ⟨its, rv, p', hz⟩ := I1.tuple hq
    have hal : a < s1.heap.objs.size := by obtain ⟨_, q, _⟩ := id p'; exact Heap.lt_size q
    refine sy_call_enumT p' fun h' he hit hsz hk => wpAny_pyIter_enum he ?_
    have I2 : Inv X pins σ H1 { s1 with heap := h' } := I1.kept (t' := s1.toks) hk
    refine ⟨s1.heap.objs.size + 1, [s1.heap.objs.size + 1, s1.heap.objs.size], _, _, H1, rfl, I2, turn_enumT a (s1.heap.objs.size + 1) s1.heap.objs.size (Nat.ne_of_lt hal) (Nat.ne_of_lt (Nat.lt_succ_of_lt hal)), ⟨⟨.none, he⟩, hit, Nat.succ_ne_self _⟩, fun b hb => ?_, q⟩
    have e' : b = s1.heap.objs.size + 1 ∨ b = s1.heap.objs.size := by simpa using hb
    have hle : s1.heap.objs.size ≤ b := by
      rcases e' with z | z
      · rw [z]; exact Nat.le_add_right _ _
      · rw [z]; exact Nat.le_refl _
    exact I1.fpOk hle (I1.hok.fresh hle)
/-- sum of a tuple of ints -/
theorem cr_sumT {X : Cx} (hc : X.calm = true) : CallR X (.builtin "sum") (fun vs H Q => ∃ (a : Addr) (ns : List Int), vs = [V.ref a] ∧ SqT X.K H a (ns.map V.int) ∧ Q (.int ns.sum) H) := by
  intro pins s σ H vs us Q I r h
  obtain ⟨a, ns, rfl, hs, q⟩ := h
  obtain ⟨its, rv, hl, _⟩ := I.tuple hs
  rw [Vals.ref1 r]
  have hi := rv.ints
  obtain ⟨xs, hx⟩ := hi.allInts.items
  have hn : numsOf its.toArray.toList = ns := by rw [show its.toArray.toList = its from rfl, hi.numsOf]
  have hl' := hl
  rw [hx] at hl' hn
  rw [nums_intItems] at hn
  refine PySem.W.ktm_sumG (I.ok.hd hc) hl' fun h' tk t' hk => ?_
  rw [preSum_eq, List.take_of_length_le (by simp), hn]
  exact ⟨.int _, H, I.kept hk, ⟨_, rfl⟩, q⟩
end SY
namespace SY
open PySem L2
open PyProof.Rows (envOfC)

/-! ### enumerate, zip -/
def enumM (its : List M) : List M := (List.range its.length).map fun (i : Nat) => .tup [.int (i : Nat), its.getD i .non]
def zipM (as bs : List M) : List M := (List.range (min as.length bs.length)).map fun i => .tup [as.getD i .non, bs.getD i .non]
theorem enumM_length (its : List M) : (enumM its).length = its.length := by simp [enumM]
theorem zipM_length (as bs : List M) : (zipM as bs).length = min as.length bs.length := by simp [zipM]
theorem enumM_get {its : List M} {i : Nat} {m : M} (h : (enumM its)[i]? = some m) : ∃ x, its[i]? = some x ∧ m = .tup [.int (i : Nat), x] := by
  have hi : i < its.length := by have := (List.getElem?_eq_some_iff.mp h).1; rwa [enumM_length] at this
  rw [enumM, List.getElem?_map, List.getElem?_range hi] at h
  exact ⟨its[i], by simp [hi], by rw [← Option.some.inj h]; simp [hi]⟩
theorem zipM_get {as bs : List M} {i : Nat} {m : M} (h : (zipM as bs)[i]? = some m) : ∃ x y, as[i]? = some x ∧ bs[i]? = some y ∧ m = .tup [x, y] := by
  have hi : i < min as.length bs.length := by have := (List.getElem?_eq_some_iff.mp h).1; rwa [zipM_length] at this
  rw [zipM, List.getElem?_map, List.getElem?_range hi] at h
  have h1 : i < as.length := by omega
  have h2 : i < bs.length := by omega
  exact ⟨as[i], bs[i], by simp [h1], by simp [h2], by rw [← Option.some.inj h]; simp [h1, h2]⟩
theorem RMs.two {K : PySem.W.Frag} {H : Hp} {v w : V} {m n : M} (r : RM K H v m fE) (r' : RM K H w n fE) : RMs K H [v, w] [m, n] fE := RMs.app0 (.one r) (.one r')
theorem rms_at {K : PySem.W.Frag} {H : Hp} {ms : List M} {vs : List V} {i : Nat} {m : M} (r : RMs K H vs ms fE) (h : ms[i]? = some m) : ∃ v, vs[i]? = some v ∧ RM K H v m fE := by
  obtain ⟨v, f', q1, q2, q3⟩ := r.get h
  rw [fE_of_sub q3] at q2
  exact ⟨v, q1, q2⟩
section
variable {X : Cx} {G : Gh} {T : List Tm} {e : Ev} {Q : List Tm → List M → (Ev → Prop) → Ev → Prop}
theorem r_enum {a : Expr} {p pos tpos : Pos} {elts : List Expr} {kk : Nat} (hm : X.mg "enumerate" = none) (hg : Gl X "enumerate") (hs : starEach [a] X.env = [(false, eval a X.env)])
    (h : Xp X G T e a fun t e1 => ∃ its, see e1 t = some (.lst its) ∧ M.imms its = true ∧ Q [t] (enumM its) (fun e => see e t = some (.lst its)) e1) : Xr X G T e (.Tuple elts kk tpos) (.Call (.Name "enumerate" p) [a] [] pos) Q :=
  .of (pi_enum hg hm (pa_cons (pe_self a) pa_nil (by rw [hs]; rfl)) hs) fun tv σ H s pins sh I => thn (h.run tv σ H s pins sh I) fun u s1 ⟨v, H1, I1, r1, t, e1, s2, its, hs, hi, hQ⟩ => ⟨v, H1, I1, r1, by
    obtain ⟨a, vs, rfl, hq, hr⟩ := see_lst s2 hs hi
    refine ⟨a, vs, rfl, SqL.of hq, [t], [.ref a], _, _, e1, rfl, s2, ?_, hQ⟩
    intro T tv e σ H s hP i hi'
    obtain ⟨a', vs, ea, hq, hr⟩ := see_lst s hP hi
    cases ea
    refine ⟨fun h => ⟨vs, SqL.of hq, by rw [hr.length, h, enumM_length]; exact Nat.le_refl _⟩, fun m hm => ?_⟩
    obtain ⟨x, h1, rfl⟩ := enumM_get hm
    obtain ⟨v, q1, q2⟩ := rms_at hr h1
    refine ⟨⟨vs, v, SqL.of hq, q1⟩, fun y H' hy => ?_⟩
    obtain ⟨p, x', rfl, hp, rfl, hx⟩ := hy
    have := hx vs (SqL.of hq)
    rw [q1] at this; cases this
    exact s.newTup0 (.two (.int _) q2) hp⟩
theorem r_enumT {a : Expr} {p pos tpos : Pos} {elts : List Expr} {kk : Nat} (hm : X.mg "enumerate" = none) (hg : Gl X "enumerate") (hs : starEach [a] X.env = [(false, eval a X.env)])
    (h : Xp X G T e a fun t e1 => ∃ its k, see e1 t = some (.tup its k) ∧ M.imms its = true ∧ Q [t] (enumM its) (fun e => see e t = some (.tup its k)) e1) : Xr X G T e (.Tuple elts kk tpos) (.Call (.Name "enumerate" p) [a] [] pos) Q :=
  .of (pi_enumT hg hm (pa_cons (pe_self a) pa_nil (by rw [hs]; rfl)) hs) fun tv σ H s pins sh I => thn (h.run tv σ H s pins sh I) fun u s1 ⟨v, H1, I1, r1, t, e1, s2, its, k, hs, hi, hQ⟩ => ⟨v, H1, I1, r1, by
    obtain ⟨a, vs, rfl, hq, hr⟩ := see_tup s2 hs hi
    refine ⟨a, vs, rfl, hq.sq, [t], [.ref a], _, _, e1, rfl, s2, ?_, hQ⟩
    intro T tv e σ H s hP i hi'
    obtain ⟨a', vs, ea, hq, hr⟩ := see_tup s hP hi
    cases ea
    refine ⟨fun h => ⟨vs, hq.sq, by rw [hr.length, h, enumM_length]⟩, fun m hm => ?_⟩
    obtain ⟨x, h1, rfl⟩ := enumM_get hm
    obtain ⟨v, q1, q2⟩ := rms_at hr h1
    refine ⟨⟨vs, v, hq.sq, q1⟩, fun y H' hy => ?_⟩
    obtain ⟨p, x', rfl, hp, rfl, hx⟩ := hy
    have := hx vs hq.sq
    rw [q1] at this; cases this
    exact s.newTup0 (.two (.int _) q2) hp⟩
/-- zip of two tuples -/
theorem r_zipT {a b : Expr} {p pos tpos : Pos} {elts : List Expr} {kk : Nat} (hm : X.mg "zip" = none) (hg : Gl X "zip") (hs : starEach [a, b] X.env = (false, eval a X.env) :: starEach [b] X.env) (hpl : (backTo pos (starEach [b] X.env)).any (·.1) = false)
    (h : Xa X G T e [a, b] fun ts e1 => ∃ t u as bs k k', ts = [t, u] ∧ see e1 t = some (.tup as k) ∧ see e1 u = some (.tup bs k') ∧ M.imms as = true ∧ M.imms bs = true ∧ Q [u, t] (zipM as bs) (fun e => see e t = some (.tup as k) ∧ see e u = some (.tup bs k')) e1) : Xr X G T e (.Tuple elts kk tpos) (.Call (.Name "zip" p) [a, b] [] pos) Q :=
  .of (RZ.pi_zipA hg hm (pa_self [a, b]) hs hpl) fun tv σ H s pos pins sh I => thn (h.run tv σ H s pos pins sh I) fun us s1 ⟨vs, H1, I1, r1, ts, e1, s2, hl, t, u, as, bs, k, k', ht, h1, h2, i1, i2, hQ⟩ => ⟨vs, H1, I1, r1, by
    subst ht
    match vs, hl with
    | [va, vb], _ =>
      have s3 : SRg X.K G (u :: t :: T) (vb :: va :: tv) e1 σ H1 := s2
      obtain ⟨b, ws, rfl, hb, rb⟩ := see_tup s3 h2 i2
      obtain ⟨a, vs, rfl, ha, ra⟩ := see_tup s3.pop h1 i1
      refine ⟨a, b, vs, ws, rfl, .inr ⟨ha.sq, hb.sq, [u, t], [.ref b, .ref a], _, _, e1, rfl, s3, ?_, hQ⟩⟩
      intro T tv e σ H s hP i hi'
      obtain ⟨b', ws, eb, hb, rb⟩ := see_tup (T := t :: T) (tv := .ref a :: tv) s hP.2 i2
      obtain ⟨a', vs, ea, ha, ra⟩ := see_tup (T := T) (tv := tv) (SR.pop (T := t :: T) (tv := .ref a :: tv) s) hP.1 i1
      cases eb; cases ea
      refine ⟨fun h => ⟨vs, ws, ha.sq, hb.sq, by rw [ra.length, rb.length]; rw [zipM_length] at h; omega⟩, fun m hm => ?_⟩
      obtain ⟨x, y, g1, g2, rfl⟩ := zipM_get hm
      obtain ⟨v, q1, q2⟩ := rms_at ra g1
      obtain ⟨w, q3, q4⟩ := rms_at rb g2
      refine ⟨⟨vs, ws, v, w, ha.sq, hb.sq, q1, q3⟩, fun y H' hy => ?_⟩
      obtain ⟨p, x', y', rfl, hp, rfl, hx, hy⟩ := hy
      have e1 := hx vs ha.sq
      have e2 := hy ws hb.sq
      rw [q1] at e1; rw [q3] at e2; cases e1; cases e2
      exact s.newTup0 (.two q2 q4) hp⟩
/-- zip of two lists -/
theorem r_zipL {a b : Expr} {p pos tpos : Pos} {elts : List Expr} {kk : Nat} (hm : X.mg "zip" = none) (hg : Gl X "zip") (hs : starEach [a, b] X.env = (false, eval a X.env) :: starEach [b] X.env) (hpl : (backTo pos (starEach [b] X.env)).any (·.1) = false)
    (h : Xa X G T e [a, b] fun ts e1 => ∃ t u as bs, ts = [t, u] ∧ see e1 t = some (.lst as) ∧ see e1 u = some (.lst bs) ∧ M.imms as = true ∧ M.imms bs = true ∧ Q [u, t] (zipM as bs) (fun e => see e t = some (.lst as) ∧ see e u = some (.lst bs)) e1) : Xr X G T e (.Tuple elts kk tpos) (.Call (.Name "zip" p) [a, b] [] pos) Q :=
  .of (RZ.pi_zipA hg hm (pa_self [a, b]) hs hpl) fun tv σ H s pos pins sh I => thn (h.run tv σ H s pos pins sh I) fun us s1 ⟨vs, H1, I1, r1, ts, e1, s2, hl, t, u, as, bs, ht, h1, h2, i1, i2, hQ⟩ => ⟨vs, H1, I1, r1, by
    subst ht
    match vs, hl with
    | [va, vb], _ =>
      have s3 : SRg X.K G (u :: t :: T) (vb :: va :: tv) e1 σ H1 := s2
      obtain ⟨b, ws, rfl, hb, rb⟩ := see_lst s3 h2 i2
      obtain ⟨a, vs, rfl, ha, ra⟩ := see_lst s3.pop h1 i1
      refine ⟨a, b, vs, ws, rfl, .inl ⟨SqL.of ha, SqL.of hb, [u, t], [.ref b, .ref a], _, _, e1, rfl, s3, ?_, hQ⟩⟩
      intro T tv e σ H s hP i hi'
      obtain ⟨b', ws, eb, hb, rb⟩ := see_lst (T := t :: T) (tv := .ref a :: tv) s hP.2 i2
      obtain ⟨a', vs, ea, ha, ra⟩ := see_lst (T := T) (tv := tv) (SR.pop (T := t :: T) (tv := .ref a :: tv) s) hP.1 i1
      cases eb; cases ea
      refine ⟨fun h => ⟨vs, ws, SqL.of ha, SqL.of hb, by rw [ra.length, rb.length]; rw [zipM_length] at h; omega⟩, fun m hm => ?_⟩
      obtain ⟨x, y, g1, g2, rfl⟩ := zipM_get hm
      obtain ⟨v, q1, q2⟩ := rms_at ra g1
      obtain ⟨w, q3, q4⟩ := rms_at rb g2
      refine ⟨⟨vs, ws, v, w, SqL.of ha, SqL.of hb, q1, q3⟩, fun y H' hy => ?_⟩
      obtain ⟨p, x', y', rfl, hp, rfl, hx, hy⟩ := hy
      have e1 := hx vs (SqL.of ha)
      have e2 := hy ws (SqL.of hb)
      rw [q1] at e1; rw [q3] at e2; cases e1; cases e2
      exact s.newTup0 (.two q2 q4) hp⟩
end

/-! ### in, not in: ints among ints, texts among texts -/
/-- the items of a list or a tuple -/
def seqM : M → Option (List M)
  | .lst ms => some ms
  | .tup ms _ => some ms
  | .ro ms => some ms
  | _ => none
section
variable {X : Cx} {G : Gh} {T : List Tm} {e : Ev} {Q : Tm → Ev → Prop} {t u : Tm} {m : M} {ms : List M}
theorem see_seq {K : PySem.W.Frag} {tv : List V} {σ : L2.St} {H : Hp} {v : V} (s : SRg K G (t :: T) (v :: tv) e σ H) (hs : (see e t).bind seqM = some ms) (hi : M.imms ms = true) : ∃ a vs, v = .ref a ∧ (SqL K H a vs ∨ SqT K H a vs) ∧ RMs K H vs ms fE := by
  obtain ⟨m, h1, h2⟩ := Option.bind_eq_some_iff.mp hs
  obtain ⟨f, r⟩ := s.see h1
  cases r with
  | lst hq hr _ =>
    cases h2
    have z := RMs.imms _ hr hi
    subst z
    exact ⟨_, _, rfl, .inl (SqL.of hq), hr⟩
  | tup hq hr =>
    cases h2
    have z := RMs.imms _ hr hi
    subst z
    exact ⟨_, _, rfl, .inr hq.sq, hr⟩
  | ro hq hr => cases h2; exact ⟨_, _, rfl, .inl hq.sq, hr⟩
  | _ => cases h2
theorem inV_int (n : Int) : ∀ ns : List Int, inV (.int n) (ns.map V.int) = decide (n ∈ ns)
  | [] => rfl
  | x :: ns => by
    have ih := inV_int n ns
    unfold inV at ih ⊢
    rw [List.map_cons, List.any_cons, ih]
    show (x == n || _) = _
    by_cases h : x = n
    · subst h; simp
    · rw [show (x == n) = false by simp [h]]
      simp [Ne.symm h]
theorem inV_str (n : Str) : ∀ ns : List Str, inV (.str n) (ns.map V.str) = decide (n ∈ ns)
  | [] => rfl
  | x :: ns => by
    have ih := inV_str n ns
    unfold inV at ih ⊢
    rw [List.map_cons, List.any_cons, ih]
    show (x == n || _) = _
    by_cases h : x = n
    · subst h; simp
    · rw [show (x == n) = false by simp [h]]
      simp [Ne.symm h]
theorem rms_strs {K : PySem.W.Frag} {H : Hp} : ∀ {ns : List Str} {vs : List V} {f : FP}, RMs K H vs (ns.map M.str) f → vs = ns.map V.str ∧ f = fE
  | [], _, _, h => by cases h; exact ⟨rfl, rfl⟩
  | n :: ns, _, _, h => by
    cases h with
    | cons h1 h2 _ =>
      cases h1
      obtain ⟨e1, e2⟩ := rms_strs h2
      rw [e1, e2]; exact ⟨rfl, fUE⟩
theorem flat_ints (ns : List Int) : (ns.map V.int).all flatV = true := by simp [flatV]
theorem flat_strs (ns : List Str) : (ns.map V.str).all flatV = true := by simp [flatV]
theorem o_inI {n : Int} {ns : List Int} (hs : (see e u).bind seqM = some (ns.map M.int)) (q : Q (.o (.bl (decide (n ∈ ns)))) e) : Xo X G (.cmp .In) T (.o (.int n)) u e Q :=
  .of op_in_seq fun va vb tv σ H s => by
    obtain ⟨a, vs, rfl, hq, hr⟩ := see_seq s hs (imms_ints ns)
    obtain ⟨rfl, s1⟩ := s.pop.i1
    obtain ⟨rfl, _⟩ := rms_ints hr
    refine ⟨a, _, rfl, hq, rfl, flat_ints ns, ?_⟩
    rw [if_neg (by decide), inV_int]
    exact ⟨_, e, s1.push (.bl _), q⟩
theorem o_niI {n : Int} {ns : List Int} (hs : (see e u).bind seqM = some (ns.map M.int)) (q : Q (.o (.bl (!decide (n ∈ ns)))) e) : Xo X G (.cmp .NotIn) T (.o (.int n)) u e Q :=
  .of op_notIn_seq fun va vb tv σ H s => by
    obtain ⟨a, vs, rfl, hq, hr⟩ := see_seq s hs (imms_ints ns)
    obtain ⟨rfl, s1⟩ := s.pop.i1
    obtain ⟨rfl, _⟩ := rms_ints hr
    refine ⟨a, _, rfl, hq, rfl, flat_ints ns, ?_⟩
    rw [if_pos rfl, inV_int]
    exact ⟨_, e, s1.push (.bl _), q⟩
theorem o_inS {n : Str} {ns : List Str} (hs : (see e u).bind seqM = some (ns.map M.str)) (q : Q (.o (.bl (decide (n ∈ ns)))) e) : Xo X G (.cmp .In) T (.o (.str n)) u e Q :=
  .of op_in_seq fun va vb tv σ H s => by
    obtain ⟨a, vs, rfl, hq, hr⟩ := see_seq s hs (imms_strs ns)
    obtain ⟨rfl, s1⟩ := s.pop.s1
    obtain ⟨rfl, _⟩ := rms_strs hr
    refine ⟨a, _, rfl, hq, rfl, flat_strs ns, ?_⟩
    rw [if_neg (by decide), inV_str]
    exact ⟨_, e, s1.push (.bl _), q⟩
theorem o_niS {n : Str} {ns : List Str} (hs : (see e u).bind seqM = some (ns.map M.str)) (q : Q (.o (.bl (!decide (n ∈ ns)))) e) : Xo X G (.cmp .NotIn) T (.o (.str n)) u e Q :=
  .of op_notIn_seq fun va vb tv σ H s => by
    obtain ⟨a, vs, rfl, hq, hr⟩ := see_seq s hs (imms_strs ns)
    obtain ⟨rfl, s1⟩ := s.pop.s1
    obtain ⟨rfl, _⟩ := rms_strs hr
    refine ⟨a, _, rfl, hq, rfl, flat_strs ns, ?_⟩
    rw [if_pos rfl, inV_str]
    exact ⟨_, e, s1.push (.bl _), q⟩
theorem v_sumT (hc : X.calm = true) {ns : List Int} {k : Bool} (hs : see e t = some (.tup (ns.map M.int) k)) (q : Q (.o (.int ns.sum)) e) : Xc X G (.builtin "sum") T [t] e Q :=
  .of1 (cr_sumT hc) fun v tv σ H s => by
    obtain ⟨a, vs, rfl, hq, hr⟩ := see_tup s hs (imms_ints ns)
    obtain ⟨rfl, _⟩ := rms_ints hr
    exact ⟨a, ns, rfl, hq.sq, _, e, s.pop.push (.int _), q⟩

/-! ### == and != of data -/
mutual
def M.data : M → Option PyData
  | .non => some .none
  | .bl b => some (.bool b)
  | .int i => some (.int i)
  | .str x => some (.str x)
  | .tup ms _ => (M.datas ms).map .tuple
  | .lst ms => (M.datas ms).map .list
  | .ro ms => (M.datas ms).map .list
  | _ => none
def M.datas : List M → Option (List PyData)
  | [] => some []
  | m :: ms => m.data.bind fun d => (M.datas ms).map (d :: ·)
end
mutual
theorem RM.dp {K : PySem.W.Frag} {H : Hp} : ∀ (m : M) {v : V} {f : FP} {d : PyData}, RM K H v m f → m.data = some d → Dp K H v d
  | .non, _, _, _, h, e => by cases h; cases e; exact .non
  | .bl _, _, _, _, h, e => by cases h; cases e; exact .bl _
  | .int _, _, _, _, h, e => by cases h; cases e; exact .int _
  | .str _, _, _, _, h, e => by cases h; cases e; exact .str _
  | .tup ms k, _, _, _, h, e => by
    cases h with
    | tup hq hr =>
      obtain ⟨ds, h1, rfl⟩ := Option.map_eq_some_iff.mp (show (M.datas ms).map PyData.tuple = some _ from e)
      exact .tup hq.sq (RMs.dp ms hr h1)
  | .lst ms, _, _, _, h, e => by
    cases h with
    | lst hq hr _ =>
      obtain ⟨ds, h1, rfl⟩ := Option.map_eq_some_iff.mp (show (M.datas ms).map PyData.list = some _ from e)
      exact .lst (SqL.of hq) (RMs.dp ms hr h1)
  | .ro ms, _, _, _, h, e => by
    cases h with
    | ro hq hr =>
      obtain ⟨ds, h1, rfl⟩ := Option.map_eq_some_iff.mp (show (M.datas ms).map PyData.list = some _ from e)
      exact .lst hq.sq (RMs.dp ms hr h1)
  | .dk _ _, _, _, _, _, e => nomatch e
  | .dt _ _, _, _, _, _, e => nomatch e
  | .raw _, _, _, _, _, e => nomatch e
  | .obj _, _, _, _, _, e => nomatch e
theorem RMs.dp {K : PySem.W.Frag} {H : Hp} : ∀ (ms : List M) {vs : List V} {f : FP} {ds : List PyData}, RMs K H vs ms f → M.datas ms = some ds → DpAll K H vs ds
  | [], _, _, _, h, e => by cases h; cases e; exact .nil
  | m :: ms, _, _, _, h, e => by
    cases h with
    | cons h1 h2 _ =>
      obtain ⟨d, q1, q2⟩ := Option.bind_eq_some_iff.mp (show m.data.bind (fun d => (M.datas ms).map (d :: ·)) = some _ from e)
      obtain ⟨ds', q3, rfl⟩ := Option.map_eq_some_iff.mp q2
      exact .cons (RM.dp m h1 q1) (RMs.dp ms h2 q3)
end
theorem o_eqD {n : M} {d d' : PyData} (hu : X.A.units + 64 < cLine) (h1 : see e t = some m) (h2 : see e u = some n) (d1 : m.data = some d) (d2 : n.data = some d') (sh : (SeqAt.shaped d && SeqAt.shaped d') = true) (q : Q (.o (.bl (PyData.eqv d d'))) e) : Xo X G (.cmp .Eq) T t u e Q :=
  .of (op_eqD hu) fun va vb tv σ H s => by
    obtain ⟨f, r⟩ := s.see h2
    obtain ⟨f', r'⟩ := s.pop.see h1
    exact ⟨d, d', r'.dp _ d1, r.dp _ d2, (Bool.and_eq_true_iff.mp sh).1, (Bool.and_eq_true_iff.mp sh).2, _, e, s.pop.pop.push (.bl _), q⟩
theorem o_neD {n : M} {d d' : PyData} (hu : X.A.units + 64 < cLine) (h1 : see e t = some m) (h2 : see e u = some n) (d1 : m.data = some d) (d2 : n.data = some d') (sh : (SeqAt.shaped d && SeqAt.shaped d') = true) (q : Q (.o (.bl (!PyData.eqv d d'))) e) : Xo X G (.cmp .NotEq) T t u e Q :=
  .of (op_neD hu) fun va vb tv σ H s => by
    obtain ⟨f, r⟩ := s.see h2
    obtain ⟨f', r'⟩ := s.pop.see h1
    exact ⟨d, d', r'.dp _ d1, r.dp _ d2, (Bool.and_eq_true_iff.mp sh).1, (Bool.and_eq_true_iff.mp sh).2, _, e, s.pop.pop.push (.bl _), q⟩

/-! ### isinstance -/
/-- a built-in class as a value -/
theorem x_tyn {x : Str} {n : String} {pos : Pos} (hm : X.mg x = none) (hg : Gl X x) (hv : bootBuiltins x = some (.type n)) (hn : x ≠ "__name__") (hd : (x == ("__debug__" : Str)) = false) (q : Q (.o (.raw (.ty n))) e) : Xp X G T e (.Name x pos) Q :=
  .of (pe_bltn hg hm hv (v := .ty n) rfl hn hd) fun tv σ H s => ⟨_, e, s.push (.raw _), q⟩
theorem x_glob {x : Str} {a : Addr} {pos : Pos} (hg : Gl X x) (hm : X.mg x = some (.ref a)) (hd : (x == ("__debug__" : Str)) = false) (q : Q (.o (.raw (.ref a))) e) : Xp X G T e (.Name x pos) Q :=
  .of (pe_glob hg hm (v := .ref a) rfl hd) fun tv σ H s => ⟨_, e, s.push (.raw _), q⟩
def tyN : M → Option String
  | .non => some "NoneType"
  | .bl _ => some "bool"
  | .int _ => some "int"
  | .str _ => some "str"
  | .tup _ _ => some "tuple"
  | .lst _ => some "list"
  | .ro _ => some "list"
  | .dk _ _ => some "dict"
  | .dt _ _ => some "dict"
  | _ => none
theorem tyX_of {K : PySem.W.Frag} {H : Hp} {v : V} {f : FP} {n : String} (r : RM K H v m f) (h : tyN m = some n) : TyX K H v (.type n) := by
  cases r with
  | non => cases h; exact .base .non
  | bl => cases h; exact .base (.bl _)
  | int => cases h; exact .base (.int _)
  | str => cases h; exact .base (.str _)
  | tup hq _ =>
    cases h
    rcases hq.sq with (hq | ⟨o, hq⟩) | ⟨o, its, n, hq, hc, _⟩
    · exact .base (.tup hq)
    · exact .fTuple hq
    · exact .kTuple hq hc
  | lst hq _ _ => cases h; exact .base (.lst hq)
  | ro hq _ =>
    cases h
    rcases hq with ⟨o, hq⟩ | ⟨o, its, n, hq, hc, _⟩
    · exact .base (.frz hq)
    · exact .kList hq hc
  | dk hq _ _ _ => cases h; exact .base (.dK hq)
  | dt hq _ _ _ => cases h; exact .base (.dT hq)
  | _ => cases h
theorem v_isi {n k : String} {b : Bool} (hs : see e t = some m) (hn : tyN m = some n) (hk : kitB n k = some b) (q : Q (.o (.bl b)) e) : Xc X G (.builtin "isinstance") T [t, .o (.raw (.ty k))] e Q :=
  .of2 call_isi fun v w tv σ H s => by
    obtain ⟨f, r, _⟩ := s.top
    cases r
    obtain ⟨g, r'⟩ := s.pop.see hs
    exact ⟨v, .ty k, _, _, b, rfl, .ty k, tyX_of r' hn, kit_ty hk, _, e, s.pop.pop.push (.bl _), q⟩
end
end SY
namespace SY
open PySem L2

/-! ### xs[i] = m, the other items anything; xs[i] op= e -/
section
variable {K : PySem.W.Frag} {G : Gh} {T : List Tm} {e : Ev} {tv : List V} {σ : L2.St} {H : Hp} {v : V} {s0 : Slot} {ms : List M} {k : Nat} {m : M}
theorem SR.lstPutG (s : SRg K G (.b k :: T) (v :: tv) e σ H) (hk : e[k]? = some s0) (hm : s0.m? = some (.lst ms)) : ∃ p vs f, v = .ref p ∧ H p = some (.lst vs) ∧ RMs K H vs ms f ∧ ¬ f p ∧
    ∀ vs' ms', RMs K H vs' ms' f → SRg K G T tv (e.set k (s0.put (.lst ms'))) σ (upd H p (.lst vs')) := by
  obtain ⟨⟨f, g, h1, h2, h3, h4, h5⟩, h6⟩ := s
  cases h1 with
  | b rv h1 =>
    obtain ⟨w, f1, f2, q0, q1, q2, q3, q4, q5⟩ := h2.take hk hm
    subst q0
    rw [q2] at rv; cases rv
    cases q4 with
    | @lst p vs _ fa hq hr hn =>
      refine ⟨p, vs, fa, rfl, hq, hr, hn, fun vs' ms' r' => ?_⟩
      obtain ⟨d1, d2⟩ := dis_u'.mp h3
      have kp : Keep (fS p) H (upd H p (.lst vs')) := Keep.put rfl (by rw [hq]; rfl)
      have dp : ∀ {F : FP}, Dis F (fU (fS p) fa) → Dis F (fS p) := fun d b x y => d b x (.inl y)
      have dfa : Dis fa (fS p) := fun b x y => hn (by rw [← (show b = p from y)]; exact x)
      have q6 := q5.frame kp (dp q1.symm)
      have q7 := q6.fill (i := k) (s := s0.put (.lst ms')) (by rw [List.getElem?_set_self (List.getElem?_eq_some_iff.mp hk).1]) (Slot.m_put hm) q2 (Slot.arg_put q3)
        (.lst upd_same (RMs.frame kp _ r' dfa) hn) q1
      rw [List.set_set] at q7
      exact .mk' (h1.frame kp (dp d1)) q7 (dis_u'.mpr ⟨d1, d2⟩) h4 (h5.left.u h5.right) (h6.own (f := fS p) (fun b z => h5 b (.inl (.inl z))) kp)
theorem RMs.setI : ∀ {ms : List M} {vs : List V} {f : FP} {v : V} {m m0 : M} (j : Nat), RMs K H vs ms f → ms[j]? = some m0 → m0.imm = true → RM K H v m fE → RMs K H (vs.set j v) (ms.set j m) f
  | [], _, _, _, _, _, _, h, e, _, _ => by simp at e
  | m1 :: ms, _, _, v, m, m0, j, h, e, hi, r => by
    cases h with
    | @cons _ _ _ _ f1 f2 h1 h2 hd =>
      cases j with
      | zero =>
        simp at e; subst e
        have z := h1.imm _ hi
        subst z
        exact .cons r h2 (dis_e _)
      | succ j => exact .cons h1 (RMs.setI j h2 (by simpa using e) hi r) hd
end
section
variable {X : Cx} {G : Gh} {T : List Tm} {e : Ev} {m : M} {ms : List M} {Q : Ev → Prop} {pos : Pos}
/-- o[i] = m, o a list in a slot -/
theorem g_subN {o i : Expr} {tpos : Pos} (hm : m.imm = true)
    (ha : ∀ v, assign (.Subscript o i tpos) X.env v = (do
      let ov ← holding [v] (eval o X.env)
      let iv ← holding [v, ov] (eval i X.env)
      standAt tpos
      holding [v, ov, iv] (setItem ov iv v)
      release [v, ov, iv] []))
    (h : Xp X G (.o m :: T) e o fun to e1 => Xp X G (to :: .o m :: T) e1 i fun ti e2 => ∃ k s0 ms j n m0, to = .b k ∧ ti = .o (.int j) ∧ e2[k]? = some s0 ∧ s0.m? = some (.lst ms) ∧ ixN ms.length j = some n ∧ ms[n]? = some m0 ∧ m0.imm = true ∧ Q (e2.set k (s0.put (.lst (ms.set n m))))) : Xg X G T e (.Subscript o i tpos) m [] Q :=
  ⟨fun v tv σ H s pins sh u I r => (pg_sub (pe_self o) (pe_self i) set_list ha).run pins sh σ H v u _ I r fun pins sh I => thn (h.run (v :: tv) σ H s pins sh I) fun u1 s1 ⟨w, H1, I1, r1, to, e1, s2, h2⟩ => ⟨w, H1, I1, r1, fun pins sh I =>
    thn (h2.run (w :: v :: tv) σ H1 s2 pins sh I) fun u2 s3 ⟨z, H2, I2, r2, ti, e2, s4, k, s0, ms, j, n, m0, hto, hti, hk, hs, hn, h0, hi, hQ⟩ => ⟨z, H2, I2, r2, by
      subst hto; subst hti
      obtain ⟨rfl, s5⟩ := s4.i1
      obtain ⟨p, vs, f, rfl, hp, hr, hnp, put⟩ := s5.lstPutG hk hs
      obtain ⟨f, rm, _⟩ := s5.pop.top
      have zz := rm.imm _ hm
      subst zz
      exact ⟨p, vs, j, n, rfl, rfl, hp, by rw [hr.length]; exact hn, _, (put _ _ (hr.setI n h0 hi rm)).pop, hQ, .refl⟩⟩⟩⟩
end
theorem get_list {X : Cx} : PGet X (rIxL X.K) := by
  intro pins s σ H o i ov iv Q I rx ry h
  obtain ⟨p, xs, j, z, rfl, rfl, hq, he, q⟩ := h
  cases rx
  obtain ⟨t, rfl⟩ := ry
  obtain ⟨its, r, pl, hz⟩ := I.list hq
  obtain ⟨n, h1, h2, h3, h4, h5⟩ := atI_get he
  obtain ⟨w, ew, rw'⟩ := r.get h2
  have hl := r.length
  have hn := line63
  have fin : EP X pins σ Q w s := ⟨z, H, I, rw', q⟩
  by_cases h0 : 0 ≤ j
  · have hj : j.toNat = n := by
      rw [seqIndex_of h0 h5] at h1
      exact Option.some.inj h1
    exact wpAny_getItem_list pl.isList h0 (by omega) (by rw [hj]; simpa using ew) fin
  · have hj : (j + (its.toArray.size : Int)).toNat = n := by
      rw [seqIndex_neg (by omega) h4] at h1
      rw [List.size_toArray, ← hl]
      exact Option.some.inj h1
    exact wpAny_getItem_list_neg pl.isList (by omega) (by rw [List.size_toArray] <;> omega) (by omega) (by rw [hj]; simpa using ew) fin
section
variable {X : Cx} {G : Gh} {T : List Tm} {e : Ev} {D : MD} {pos : Pos}
/-- o[i] op= e, o a list in a slot -/
theorem s_augsub {o i ex : Expr} {op : Operator} {tpos : Pos}
    (ha : ∀ ov iv new, augStore i ov iv new = (do holding [new, ov, iv] (setItem ov iv new); release [new, ov, iv] []; pure .next))
    (h : Xp X G T e o fun to e1 => Xp X G (to :: T) e1 i fun ti e2 => ∃ k s0 ms j n m0, to = .b k ∧ ti = .o (.int j) ∧ e2[k]? = some s0 ∧ s0.m? = some (.lst ms) ∧ ixN ms.length j = some n ∧ ms[n]? = some m0 ∧ m0.imm = true ∧
      Xp X G (.o m0 :: ti :: to :: T) e2 ex fun t e3 => Xo X G (.inp op) (ti :: to :: T) (.o m0) t e3 (kO fun m' e4 => m'.imm = true ∧ ∃ s1 ms1 m1, e4[k]? = some s1 ∧ s1.m? = some (.lst ms1) ∧ ixN ms1.length j = some n ∧ ms1[n]? = some m1 ∧ m1.imm = true ∧ D.nx (e4.set k (s1.put (.lst (ms1.set n m')))))) :
    Xs X G T e (.AugAssign (.Subscript o i tpos) op ex pos) D :=
  .of (ps_augS (pe_self o) (pe_self i) get_list (pe_self ex) (tip := wpO X (inplaceOp op)) (fun pins s σ H x y v u Q I rx ry hh => hh pins s σ v u I rx ry) set_list ha) fun tv σ H s pins sh I =>
    thn (h.run tv σ H s pins sh I) fun u s1 ⟨v, H1, I1, r1, to, e1, s2, h2⟩ => ⟨v, H1, I1, r1, fun pins sh I =>
    thn (h2.run (v :: tv) σ H1 s2 pins sh I) fun u s3 ⟨w, H2, I2, r2, ti, e2, s4, k, s0, ms, j, n, m0, hto, hti, hk, hs, hn, h0, hi, h5⟩ => ⟨w, H2, I2, r2, by
      subst hto; subst hti
      obtain ⟨rfl, s5⟩ := s4.i1
      obtain ⟨p, vs, f, rfl, hp, hr, hnp, put⟩ := s5.lstPutG hk hs
      obtain ⟨x0, f', q1, q2, _⟩ := hr.get h0
      have zz := q2.imm _ hi
      subst zz
      refine ⟨p, vs, j, x0, rfl, rfl, SqL.of hp, by unfold atI; rw [hr.length, hn]; exact q1, fun pins sh I => ?_⟩
      refine thn (h5.run (x0 :: .int j :: .ref p :: tv) σ H2 (s4.push q2) pins sh I) fun u s6 ⟨y, H3, I3, r3, t, e3, s7, h6⟩ => ⟨y, H3, I3, r3, fun pins sh σ' v' u' I' r1 r2 =>
        thn (h6.run x0 y (.int j :: .ref p :: tv) σ H3 s7 pins sh σ' v' u' I' r1 r2) fun u s8 ⟨z, H4, I4, r4, t', e5, s9, m', e4, ho, him, s1', ms1, m1, hk1, hs1, hn1, h01, hi1, hQ⟩ => ⟨z, H4, I4, r4, ?_⟩⟩
      have sA := s9.own ho
      obtain ⟨f3, rm, _⟩ := sA.top
      have zz := rm.imm _ him
      subst zz
      obtain ⟨_, sB⟩ := sA.pop.i1
      obtain ⟨p', vs', f4, ep, hp', hr', _, put'⟩ := sB.lstPutG hk1 hs1
      cases ep
      exact ⟨p, vs', j, n, rfl, rfl, hp', by rw [hr'.length]; exact hn1, _, put' _ _ (hr'.setI n h01 hi1 rm), hQ⟩⟩⟩
end

/-! ### x[c][x[d]], len(x[c]): a list in a list that a slot holds -/
section
variable {X : Cx} {G : Gh} {T : List Tm} {e : Ev} {Q : Tm → Ev → Prop} {ms ms' : List M} {m : M}
theorem inner_at {K : PySem.W.Frag} {tv : List V} {σ : L2.St} {H : Hp} {i : Nat} {s0 : Slot} {c : Int} (s : SRg K G T tv e σ H) (he : e[i]? = some s0) (hm : s0.m? = some (.lst ms)) (h1 : atI ms c = some (.lst ms')) :
    ∃ a vs b ws, σ[i]? = some (some (.ref a)) ∧ H a = some (.lst vs) ∧ (∃ f, RMs K H vs ms f) ∧ atI vs c = some (.ref b) ∧ H b = some (.lst ws) ∧ ∃ f, RMs K H ws ms' f := by
  obtain ⟨v, f, q1, q2⟩ := s.slot he hm
  cases q2 with
  | @lst a vs _ fa hq hr _ =>
    obtain ⟨w, f', p1, p2⟩ := atI_rel hr h1
    cases p2 with
    | @lst b ws _ fb hq' hr' _ => exact ⟨a, vs, b, ws, q1, hq, ⟨_, hr⟩, p1, hq', _, hr'⟩
theorem x_cell {x : Str} {s0 : Slot} {c d j : Int} {u1 u2 : Nat} {p1 p2 p3 p4 p5 p6 pos : Pos} (he : e[nix X.N x]? = some s0) (hm : s0.m? = some (.lst ms)) (hN : X.N[nix X.N x]? = some x) (hv : Vis X.env.scope x)
    (hd : ((x == ("__debug__" : Str)) || (x == ("__classdict__" : Str))) = false) (hs1 : PlainIx (.Constant (.int c) u1 p2)) (hs2 : PlainIx (.Constant (.int d) u2 p5)) (hs3 : PlainIx (.Subscript (.Name x p4) (.Constant (.int d) u2 p5) p6))
    (h1 : atI ms c = some (.lst ms')) (h2 : atI ms d = some (.int j)) (h3 : atI ms' j = some m) (hi : m.imm = true) (q : Q (.o m) e) :
    Xp X G T e (.Subscript (.Subscript (.Name x p1) (.Constant (.int c) u1 p2) p3) (.Subscript (.Name x p4) (.Constant (.int d) u2 p5) p6) pos) Q := by
  have hd1 := (Bool.or_eq_false_iff.mp hd).1
  have hd2 := (Bool.or_eq_false_iff.mp hd).2
  refine .of (pe_ix ix_list (pe_ix ix_list (pe_var hN hv hd1 hd2) pe_int hs1) (pe_ix ix_list (pe_var hN hv hd1 hd2) pe_int hs2) hs3) fun tv σ H s => ?_
  obtain ⟨a, vs, b, ws, g1, g2, ⟨f, g3⟩, g4, g5, f', g6⟩ := inner_at s he hm h1
  obtain ⟨w, f2, k1, k2⟩ := atI_rel g3 h2
  cases k2
  obtain ⟨y, f3, k3, k4⟩ := atI_rel g6 h3
  have z := k4.imm _ hi
  subst z
  exact ⟨.ref a, g1, a, vs, c, .ref b, rfl, rfl, SqL.of g2, g4, .ref a, g1, a, vs, d, .int j, rfl, rfl, SqL.of g2, k1, b, ws, j, y, rfl, rfl, SqL.of g5, k3, .o m, e, s.push k4, q⟩
theorem x_lencell {x : Str} {s0 : Slot} {c : Int} {u1 : Nat} {p0 p1 p2 p3 pos : Pos} (he : e[nix X.N x]? = some s0) (hm : s0.m? = some (.lst ms)) (hN : X.N[nix X.N x]? = some x) (hv : Vis X.env.scope x)
    (hd : ((x == ("__debug__" : Str)) || (x == ("__classdict__" : Str))) = false) (hs1 : PlainIx (.Constant (.int c) u1 p2)) (hmg : X.mg "len" = none) (hg : Gl X "len")
    (hse : starEach [.Subscript (.Name x p1) (.Constant (.int c) u1 p2) p3] X.env = (false, eval (.Subscript (.Name x p1) (.Constant (.int c) u1 p2) p3) X.env) :: starEach [] X.env) (hpl : (backTo pos (starEach [] X.env)).any (·.1) = false)
    (h1 : atI ms c = some (.lst ms')) (q : Q (.o (.int ms'.length)) e) :
    Xp X G T e (.Call (.Name "len" p0) [.Subscript (.Name x p1) (.Constant (.int c) u1 p2) p3] [] pos) Q := by
  have hd1 := (Bool.or_eq_false_iff.mp hd).1
  have hd2 := (Bool.or_eq_false_iff.mp hd).2
  refine .of (pe_callB call_len hg hmg boot1_len (pa_cons (pe_ix ix_list (pe_var hN hv hd1 hd2) pe_int hs1) pa_nil hse) (by decide) (by decide) hse hpl) fun tv σ H s => ?_
  obtain ⟨a, vs, b, ws, g1, g2, ⟨f, g3⟩, g4, g5, f', g6⟩ := inner_at s he hm h1
  refine ⟨.ref a, g1, a, vs, c, .ref b, rfl, rfl, SqL.of g2, g4, ?_⟩
  refine ⟨.ref b, _, rfl, .inl ⟨ws, SqL.of g5, rfl⟩, .o (.int ms'.length), e, ?_, q⟩
  rw [← g6.length]
  exact s.push (.int _)
end
end SY
namespace SY
open PySem L2

/-! ### dicts: tables of things without footprint -/
section
variable {κ α : Type} [DecidableEq κ]
def valA (l : List (κ × α)) (k : κ) : Option α := (l.find? fun kv => decide (kv.1 = k)).map (·.2)
def putA (l : List (κ × α)) (k : κ) (v : α) : List (κ × α) := if (l.any fun kv => decide (kv.1 = k)) = true then l.map (fun kv => if kv.1 = k then (kv.1, v) else kv) else l ++ [(k, v)]
theorem valA_cons (p : κ × α) (l : List (κ × α)) (k : κ) : valA (p :: l) k = if p.1 = k then some p.2 else valA l k := by
  unfold valA
  rw [List.find?_cons]
  by_cases h : p.1 = k
  · rw [decide_eq_true h, if_pos h]; rfl
  · rw [decide_eq_false h, if_neg h]
theorem valA_put (l : List (κ × α)) (k j : κ) (v : α) : valA (putA l k v) j = if j = k then some v else valA l j := by
  have map : ∀ l : List (κ × α), valA (l.map fun kv => if kv.1 = k then (kv.1, v) else kv) j = (valA l j).map fun x => if j = k then v else x := by
    intro l
    induction l with
    | nil => rfl
    | cons p l ih =>
      rw [List.map_cons, valA_cons, valA_cons, ih]
      by_cases h : p.1 = k
      · by_cases e : p.1 = j
        · have : j = k := e.symm.trans h
          simp [h, this]
        · have : ¬ k = j := fun z => e (h.trans z)
          simp [h, this]
      · by_cases e : p.1 = j
        · have : ¬ j = k := fun z => h (e.trans z)
          simp [h, e, this]
        · simp [h, e]
  have snoc : ∀ l : List (κ × α), (∀ p ∈ l, ¬ p.1 = k) → valA (l ++ [(k, v)]) j = if j = k then some v else valA l j := by
    intro l hl
    unfold valA
    rw [List.find?_append]
    by_cases e : j = k
    · subst e
      have : l.find? (fun kv => decide (kv.1 = j)) = none := by
        rw [List.find?_eq_none]
        intro p hp; simpa using hl p hp
      simp [this]
    · rw [if_neg e]
      cases h : l.find? (fun kv => decide (kv.1 = j)) with
      | some p => simp
      | none => simp [show ¬ k = j from fun z => e z.symm]
  unfold putA
  split
  · rename_i h
    rw [map]
    by_cases e : j = k
    · subst e
      have : ∃ x, valA l j = some x := by
        rw [List.any_eq_true] at h
        obtain ⟨p, hp, hk⟩ := h
        unfold valA
        cases q : l.find? (fun kv => decide (kv.1 = j)) with
        | some p => exact ⟨p.2, rfl⟩
        | none => rw [List.find?_eq_none] at q; exact absurd hk (q p hp)
      obtain ⟨x, hx⟩ := this
      rw [hx]; simp
    · rw [if_neg e]
      cases valA l j <;> simp [e]
  · rename_i h
    refine snoc l fun p hp hk => h ?_
    rw [List.any_eq_true]
    exact ⟨p, hp, by simpa using hk⟩
theorem putA_length (l : List (κ × α)) (k : κ) (v : α) : (putA l k v).length ≤ l.length + 1 := by
  unfold putA
  split <;> simp
theorem rel_val {K : PySem.W.Frag} {H : Hp} (k : κ) : ∀ {kms : List (κ × M)} {kvs : List (κ × V)}, kvs.map (·.1) = kms.map (·.1) → RMs K H (kvs.map (·.2)) (kms.map (·.2)) fE → (valV kvs k = none ∧ valA kms k = none) ∨ ∃ v m, valV kvs k = some v ∧ valA kms k = some m ∧ RM K H v m fE
  | [], [], _, _ => .inl ⟨rfl, rfl⟩
  | (k1, m1) :: kms, (k2, v1) :: kvs, e, r => by
    simp only [List.map_cons, List.cons.injEq] at e
    obtain ⟨rfl, e⟩ := e
    obtain ⟨v, hv, q⟩ := rms_at (i := 0) r rfl
    cases hv
    have r' : RMs K H (kvs.map (·.2)) (kms.map (·.2)) fE := by simpa using r.drop0 1
    unfold valV valA
    rw [List.find?_cons, List.find?_cons]
    by_cases h : k2 = k
    · simp only [h, decide_true]
      exact .inr ⟨v1, m1, rfl, rfl, q⟩
    · simp only [h, decide_false]
      exact rel_val k e r'
  | [], _ :: _, e, _ => by simp at e
  | _ :: _, [], e, _ => by simp at e
theorem rel_put {K : PySem.W.Frag} {H : Hp} (k : κ) {v : V} {m : M} (q : RM K H v m fE) {kms : List (κ × M)} {kvs : List (κ × V)} (e : kvs.map (·.1) = kms.map (·.1)) (r : RMs K H (kvs.map (·.2)) (kms.map (·.2)) fE) :
    (putK kvs k v).map (·.1) = (putA kms k m).map (·.1) ∧ RMs K H ((putK kvs k v).map (·.2)) ((putA kms k m).map (·.2)) fE := by
  have hany : (kvs.any fun kv => decide (kv.1 = k)) = (kms.any fun kv => decide (kv.1 = k)) := by
    have : ∀ {β : Type} (l : List (κ × β)), (l.any fun kv => decide (kv.1 = k)) = (l.map (·.1)).any fun x => decide (x = k) := fun l => by rw [List.any_map]; rfl
    rw [this, this, e]
  unfold putK putA
  rw [hany]
  split
  · constructor
    · rw [List.map_map, List.map_map]
      have : ∀ {β : Type} (x : β) (l : List (κ × β)), l.map ((·.1) ∘ fun kv => if kv.1 = k then (kv.1, x) else kv) = l.map (·.1) := fun x l => by
        apply List.map_congr_left
        intro p _
        simp only [Function.comp]
        split <;> rfl
      rw [this, this, e]
    · have gen : ∀ {kms : List (κ × M)} {kvs : List (κ × V)}, kvs.map (·.1) = kms.map (·.1) → RMs K H (kvs.map (·.2)) (kms.map (·.2)) fE → RMs K H ((kvs.map fun kv => if kv.1 = k then (kv.1, v) else kv).map (·.2)) ((kms.map fun kv => if kv.1 = k then (kv.1, m) else kv).map (·.2)) fE := by
        intro kms
        induction kms with
        | nil => intro kvs e r; cases kvs with | nil => exact r | cons => simp at e
        | cons p kms ih =>
          intro kvs e r
          cases kvs with
          | nil => simp at e
          | cons p' kvs =>
            obtain ⟨k1, m1⟩ := p
            obtain ⟨k2, v1⟩ := p'
            simp only [List.map_cons, List.cons.injEq] at e
            obtain ⟨rfl, e⟩ := e
            obtain ⟨v', hv, q'⟩ := rms_at (i := 0) r rfl
            cases hv
            have r' := ih e (by simpa using r.drop0 1)
            have hd : RM K H (if k2 = k then (k2, v) else (k2, v1)).2 (if k2 = k then (k2, m) else (k2, m1)).2 fE := by split <;> assumption
            have := RMs.cons hd r' (dis_e _)
            rw [fUE] at this
            exact this
      exact gen e r
  · constructor
    · simp [e]
    · rw [List.map_append, List.map_append]
      exact r.app0 (.one q)
end
def dkM (l : List (Key × M)) : M := .dk (l.map (·.1)) (l.map (·.2))
def dtM (l : List (List Key × M)) : M := .dt (l.map (·.1)) (l.map (·.2))
/-- a key as a thing -/
def keyM : Key → M
  | .inl i => .int i
  | .inr x => .str x
theorem rm_key {K : PySem.W.Frag} {H : Hp} {k : Key} {v : V} {f : FP} (r : RM K H v (keyM k) f) : v = kV k := by
  cases k with
  | inl i => cases r; rfl
  | inr x => cases r; rfl
theorem keyM_imm (k : Key) : (keyM k).imm = true := by cases k <;> rfl
theorem rms_key {K : PySem.W.Frag} {H : Hp} : ∀ {ks : List Key} {vs : List V} {f : FP}, RMs K H vs (ks.map keyM) f → vs = ks.map kV
  | [], _, _, h => by cases h; rfl
  | k :: ks, _, _, h => by
    cases h with
    | cons h1 h2 _ => rw [rm_key h1, rms_key h2]; rfl
/-- a dict with keys (told by what they are as things) -/
inductive DM : M → M → List (M × M) → Prop where
  | k (l : List (Key × M)) (k : Key) : DM (dkM l) (keyM k) (l.map fun p => (keyM p.1, p.2))
section
variable {K : PySem.W.Frag} {G : Gh} {T : List Tm} {e : Ev} {tv : List V} {σ : L2.St} {H : Hp} {v : V} {s0 : Slot} {k : Nat} {m : M} {t : Tm}
theorem see_dk {l : List (Key × M)} (s : SRg K G (t :: T) (v :: tv) e σ H) (hs : see e t = some (dkM l)) (hi : M.imms (l.map (·.2)) = true) : ∃ a kvs, v = .ref a ∧ H a = some (.dK kvs) ∧ kvs.map (·.1) = l.map (·.1) ∧ RMs K H (kvs.map (·.2)) (l.map (·.2)) fE := by
  obtain ⟨f, r⟩ := s.see hs
  cases r with
  | @dk a kvs _ _ f hq he hr _ =>
    have z := RMs.imms _ hr hi
    subst z
    exact ⟨a, kvs, rfl, hq, he, hr⟩
theorem see_dt {l : List (List Key × M)} (s : SRg K G (t :: T) (v :: tv) e σ H) (hs : see e t = some (dtM l)) (hi : M.imms (l.map (·.2)) = true) : ∃ a kvs, v = .ref a ∧ H a = some (.dT kvs) ∧ kvs.map (·.1) = l.map (·.1) ∧ RMs K H (kvs.map (·.2)) (l.map (·.2)) fE := by
  obtain ⟨f, r⟩ := s.see hs
  cases r with
  | @dt a kvs _ _ f hq he hr _ =>
    have z := RMs.imms _ hr hi
    subst z
    exact ⟨a, kvs, rfl, hq, he, hr⟩
/-- a mutable thing with footprint of its own place alone is put anew -/
theorem SR.putG {m m' : M} {o' : HO} {p : Addr} (s : SRg K G (.b k :: T) (.ref p :: tv) e σ H) (hk : e[k]? = some s0) (hm : s0.m? = some m) (ho : mutH (H p) = true) (hf : ∀ {f}, RM K H (.ref p) m f → f = fS p) (r' : RM K (upd H p o') (.ref p) m' (fS p)) : SRg K G T tv (e.set k (s0.put m')) σ (upd H p o') := by
  obtain ⟨⟨f, g, h1, h2, h3, h4, h5⟩, h6⟩ := s
  cases h1 with
  | b rv h1 =>
    obtain ⟨w, f1, f2, q0, q1, q2, q3, q4, q5⟩ := h2.take hk hm
    subst q0
    rw [q2] at rv; cases rv
    have z := hf q4
    subst z
    obtain ⟨d1, d2⟩ := dis_u'.mp h3
    have kp : Keep (fS p) H (upd H p o') := Keep.put rfl ho
    have q6 := q5.frame kp q1.symm
    have q7 := q6.fill (i := k) (s := s0.put m') (by rw [List.getElem?_set_self (List.getElem?_eq_some_iff.mp hk).1]) (Slot.m_put hm) q2 (Slot.arg_put q3) r' q1
    rw [List.set_set] at q7
    exact .mk' (h1.frame kp d1) q7 (dis_u'.mpr ⟨d1, d2⟩) h4 (h5.left.u h5.right) (h6.own (f := fS p) (fun b z => h5 b (.inl z)) kp)
theorem rm_dk0 {p : Addr} {l : List (Key × M)} (hi : M.imms (l.map (·.2)) = true) {f : FP} (r : RM K H (.ref p) (dkM l) f) : f = fS p := by
  cases r with
  | dk hq he hr _ =>
    have z := RMs.imms _ hr hi
    subst z
    exact fU_e' _
theorem rm_dt0 {p : Addr} {l : List (List Key × M)} (hi : M.imms (l.map (·.2)) = true) {f : FP} (r : RM K H (.ref p) (dtM l) f) : f = fS p := by
  cases r with
  | dt hq he hr _ =>
    have z := RMs.imms _ hr hi
    subst z
    exact fU_e' _
theorem RM.dk0 {p : Addr} {l : List (Key × M)} {kvs : List (Key × V)} (hq : H p = some (.dK kvs)) (he : kvs.map (·.1) = l.map (·.1)) (hr : RMs K H (kvs.map (·.2)) (l.map (·.2)) fE) : RM K H (.ref p) (dkM l) (fS p) := by
  have := RM.dk hq he hr (fun z => z)
  rw [fU_e'] at this
  exact this
theorem RM.dt0 {p : Addr} {l : List (List Key × M)} {kvs : List (List Key × V)} (hq : H p = some (.dT kvs)) (he : kvs.map (·.1) = l.map (·.1)) (hr : RMs K H (kvs.map (·.2)) (l.map (·.2)) fE) : RM K H (.ref p) (dtM l) (fS p) := by
  have := RM.dt hq he hr (fun z => z)
  rw [fU_e'] at this
  exact this
theorem imms_put {κ : Type} [DecidableEq κ] {l : List (κ × M)} {k : κ} (hi : M.imms (l.map (·.2)) = true) (hm : m.imm = true) : M.imms ((putA l k m).map (·.2)) = true := by
  rw [M.imms_iff] at hi ⊢
  intro x hx
  obtain ⟨p, hp, rfl⟩ := List.mem_map.mp hx
  unfold putA at hp
  split at hp
  · obtain ⟨q, hq, rfl⟩ := List.mem_map.mp hp
    split
    · exact hm
    · exact hi _ (List.mem_map.mpr ⟨q, hq, rfl⟩)
  · rcases List.mem_append.mp hp with hp | hp
    · exact hi _ (List.mem_map.mpr ⟨p, hp, rfl⟩)
    · rw [List.mem_singleton.mp hp]; exact hm
end
section
variable {X : Cx} {G : Gh} {T : List Tm} {e : Ev} {Q : Tm → Ev → Prop} {pos : Pos}
theorem x_dnewK (q : Q (.o (dkM [])) e) : Xp X G T e (.Dict [] [] pos) Q :=
  .of pe_dnewK fun tv σ H s p hp => ⟨_, e, s.new hp (RM.dk0 (l := []) upd_same rfl .nil) (fun b z => z), q⟩
theorem x_dnewT (q : Q (.o (dtM [])) e) : Xp X G T e (.Dict [] [] pos) Q :=
  .of pe_dnewT fun tv σ H s p hp => ⟨_, e, s.new hp (RM.dt0 (l := []) upd_same rfl .nil) (fun b z => z), q⟩
/-- which dict, which key, what the key stands for -/
inductive DictK (e : Ev) (td ty : Tm) : (M → Option M → Prop) → Prop where
  | k {l : List (Key × M)} {k : Key} (hd : see e td = some (dkM l)) (hk : see e ty = some (keyM k)) (hi : M.imms (l.map (·.2)) = true) : DictK e td ty fun d o => d = dkM l ∧ o = valA l k
  | t {l : List (List Key × M)} {k : List Key} (hd : see e td = some (dtM l)) (hk : see e ty = some (.tup (k.map keyM))) (hi : M.imms (l.map (·.2)) = true) : DictK e td ty fun d o => d = dtM l ∧ o = valA l k
theorem imms_keys : ∀ ks : List Key, M.imms (ks.map keyM) = true
  | [] => rfl
  | k :: ks => by simp [M.imms, keyM_imm, imms_keys ks]
theorem dget_of {K : PySem.W.Frag} {tv : List V} {σ : L2.St} {H : Hp} {vd vy : V} {td ty : Tm} {R : M → Option M → Prop} (sd : SRg K G (td :: T) (vd :: tv) e σ H) (sy : SRg K G (ty :: T) (vy :: tv) e σ H) (h : DictK e td ty R) :
    ∃ a o mo md, vd = .ref a ∧ DGet H a vy o ∧ R md mo ∧ ((o = none ∧ mo = none) ∨ ∃ v m, o = some v ∧ mo = some m ∧ RM K H v m fE) := by
  cases h with
  | @k l k hd hk hi =>
    obtain ⟨a, kvs, rfl, hq, he, hr⟩ := see_dk sd hd hi
    obtain ⟨f, r⟩ := sy.see hk
    have e1 := rm_key r
    subst e1
    exact ⟨a, _, _, _, rfl, DGet.k hq, ⟨rfl, rfl⟩, rel_val k he hr⟩
  | @t l k hd hk hi =>
    obtain ⟨a, kvs, rfl, hq, he, hr⟩ := see_dt sd hd hi
    obtain ⟨b, ws, rfl, hb, rb⟩ := see_tup sy hk (imms_keys k)
    have e1 := rms_key rb
    subst e1
    exact ⟨a, _, _, _, rfl, DGet.t hq hb.own, ⟨rfl, rfl⟩, rel_val k he hr⟩
theorem isD_of {K : PySem.W.Frag} {tv : List V} {σ : L2.St} {H : Hp} {vd : V} {td : Tm} (sd : SRg K G (td :: T) (vd :: tv) e σ H) (h : (∃ l, see e td = some (dkM l)) ∨ ∃ l, see e td = some (dtM l)) : ∃ a, vd = .ref a ∧ IsD H a := by
  rcases h with ⟨l, h⟩ | ⟨l, h⟩
  · obtain ⟨f, r⟩ := sd.see h
    cases r with
    | dk hq _ _ _ => exact ⟨_, rfl, .inl ⟨_, .inl hq⟩⟩
  · obtain ⟨f, r⟩ := sd.see h
    cases r with
    | dt hq _ _ _ => exact ⟨_, rfl, .inr ⟨_, .inl hq⟩⟩
/-- d.get(k, m) -/
theorem x_dget2 {o a b : Expr} {apos : Pos} {cpos : Pos} (hu : X.A.units + 1 < cLine) (m2 : M2 X o "get" apos a b cpos)
    (h : Xp X G T e o fun to e0 => ((∃ l, see e0 to = some (dkM l)) ∨ ∃ l, see e0 to = some (dtM l)) ∧ Xp X G (to :: T) e0 a fun ta e1 => Xp X G (ta :: to :: T) e1 b fun tb e2 => ∃ R mb, DictK e2 to ta R ∧ see e2 tb = some mb ∧ mb.imm = true ∧ ∀ md mo, R md mo → Q (.o (mo.getD mb)) e2) :
    Xp X G T e (.Call (.Attribute o "get" apos) [a, b] [] cpos) Q :=
  .of (pe_dget2 hu (pe_self o) (pe_self a) (pe_self b) m2) fun tv σ H s pins sh I => thn (h.run tv σ H s pins sh I) fun u s1 ⟨v, H1, I1, r1, to, e0, s2, hD, h2⟩ => ⟨v, H1, I1, r1, by
    obtain ⟨p, rfl, hp⟩ := isD_of s2 hD
    exact ⟨p, rfl, hp, fun pins sh I => thn (h2.run (.ref p :: tv) σ H1 s2 pins sh I) fun u s3 ⟨w, H2, I2, r2, ta, e1, s4, h4⟩ => ⟨w, H2, I2, r2, fun pins sh I =>
      thn (h4.run (w :: .ref p :: tv) σ H2 s4 pins sh I) fun u s5 ⟨z, H3, I3, r3, tb, e2, s6, R, mb, hd, hb, hi, hQ⟩ => ⟨z, H3, I3, r3, by
        obtain ⟨f, rb⟩ := s6.see hb
        have zz := rb.imm _ hi
        subst zz
        obtain ⟨a', o, mo, md, ea, g, hR, hv⟩ := dget_of (T := T) (tv := tv) s6.pop.pop (SR.pop2 s6.pop) hd
        cases ea
        refine ⟨o, g, ?_⟩
        rcases hv with ⟨rfl, rfl⟩ | ⟨v, m, rfl, rfl, rv⟩
        · exact ⟨_, e2, s6.pop.pop.pop.push rb, hQ _ _ hR⟩
        · exact ⟨_, e2, s6.pop.pop.pop.push rv, hQ _ _ hR⟩⟩⟩⟩⟩
/-- d[k], there -/
theorem x_dsub {o i : Expr} (hu : X.A.units + 1 < cLine) (hs : NoSl i)
    (h : Xp X G T e o fun to e0 => Xp X G (to :: T) e0 i fun ta e1 => ∃ R, DictK e1 to ta R ∧ ∀ md mo, R md mo → ∃ m, mo = some m ∧ Q (.o m) e1) : Xp X G T e (.Subscript o i pos) Q :=
  .of (pe_dget hu (pe_self o) (pe_self i) hs) fun tv σ H s pins sh I => thn (h.run tv σ H s pins sh I) fun u s1 ⟨v, H1, I1, r1, to, e0, s2, h2⟩ => ⟨v, H1, I1, r1, fun pins sh I =>
    thn (h2.run (v :: tv) σ H1 s2 pins sh I) fun u s3 ⟨w, H2, I2, r2, ta, e1, s4, R, hd, hQ⟩ => ⟨w, H2, I2, r2, by
      obtain ⟨a', o, mo, md, rfl, g, hR, hv⟩ := dget_of (T := T) (tv := tv) s4.pop (SR.pop2 s4) hd
      obtain ⟨m, rfl, q⟩ := hQ _ _ hR
      rcases hv with ⟨_, z⟩ | ⟨v, m', rfl, e0, rv⟩
      · cases z
      · cases e0
        exact ⟨a', v, rfl, g, _, e1, s4.pop.pop.push rv, q⟩⟩⟩
/-- where a dict in a slot is written -/
inductive DictP (e : Ev) (k : Nat) (ty : Tm) (m : M) : M → Prop where
  | k {l : List (Key × M)} {key : Key} {s0 : Slot} (hs : e[k]? = some s0) (hm : s0.m? = some (dkM l)) (hk : see e ty = some (keyM key)) (hi : M.imms (l.map (·.2)) = true) (hz : l.length < sizeLine) : DictP e k ty m (dkM (putA l key m))
  | t {l : List (List Key × M)} {key : List Key} {s0 : Slot} (hs : e[k]? = some s0) (hm : s0.m? = some (dtM l)) (hk : see e ty = some (.tup (key.map keyM))) (hi : M.imms (l.map (·.2)) = true) (hz : l.length < sizeLine) : DictP e k ty m (dtM (putA l key m))
theorem g_dsub {o i : Expr} {tpos : Pos} {m : M} {Q : Ev → Prop} (hu : X.A.units + 1 < cLine) (hm : m.imm = true)
    (ha : ∀ v, assign (.Subscript o i tpos) X.env v = (do
      let ov ← holding [v] (eval o X.env)
      let iv ← holding [v, ov] (eval i X.env)
      standAt tpos
      holding [v, ov, iv] (setItem ov iv v)
      release [v, ov, iv] []))
    (h : Xp X G (.o m :: T) e o fun to e1 => Xp X G (to :: .o m :: T) e1 i fun ti e2 => ∃ k s0 d', to = .b k ∧ e2[k]? = some s0 ∧ DictP e2 k ti m d' ∧ Q (e2.set k (s0.put d'))) : Xg X G T e (.Subscript o i tpos) m [] Q :=
  ⟨fun v tv σ H s pins sh u I r => (pg_sub (pe_self o) (pe_self i) (set_dict hu) ha).run pins sh σ H v u _ I r fun pins sh I => thn (h.run (v :: tv) σ H s pins sh I) fun u1 s1 ⟨w, H1, I1, r1, to, e1, s2, h2⟩ => ⟨w, H1, I1, r1, fun pins sh I =>
    thn (h2.run (w :: v :: tv) σ H1 s2 pins sh I) fun u2 s3 ⟨z, H2, I2, r2, ti, e2, s4, k, s0, d', hto, hk, hP, hQ⟩ => ⟨z, H2, I2, r2, by
      subst hto
      obtain ⟨f, rm, _⟩ := s4.pop.pop.top
      have zz := rm.imm _ hm
      subst zz
      have s5 := SR.pop2 s4
      cases hP with
      | @k l key s0' hs hms hk' hi hz =>
        rw [hk] at hs; cases hs
        obtain ⟨a, kvs, rfl, hq, he, hr⟩ := see_dk s4.pop (t := .b k) (by show e2[k]?.bind Slot.m? = _; rw [hk]; exact hms) hi
        obtain ⟨f', r'⟩ := s4.see hk'
        have ek := rm_key r'
        subst ek
        obtain ⟨p1, p2⟩ := rel_put key rm he hr
        have kp : Keep (fS a) H2 (upd H2 a (.dK (putK kvs key v))) := Keep.put rfl (by rw [hq]; rfl)
        refine ⟨a, _, rfl, .k hq (by have h1 := congrArg List.length he; simp only [List.length_map] at h1; omega), _, ?_, hQ, .refl⟩
        exact SR.pop (t := .o m) (SR.putG s4.pop hk hms (by rw [hq]; rfl) (rm_dk0 hi) (RM.dk0 upd_same p1 (RMs.frame kp _ p2 (dis_e _))))
      | @t l key s0' hs hms hk' hi hz =>
        rw [hk] at hs; cases hs
        obtain ⟨a, kvs, rfl, hq, he, hr⟩ := see_dt s4.pop (t := .b k) (by show e2[k]?.bind Slot.m? = _; rw [hk]; exact hms) hi
        obtain ⟨b, ws, rfl, hb, rb⟩ := see_tup s4 hk' (imms_keys key)
        have ek := rms_key rb
        subst ek
        obtain ⟨p1, p2⟩ := rel_put key rm he hr
        have kp : Keep (fS a) H2 (upd H2 a (.dT (putK kvs key v))) := Keep.put rfl (by rw [hq]; rfl)
        refine ⟨a, _, rfl, .t hq hb.own (by have h1 := congrArg List.length he; simp only [List.length_map] at h1; omega), _, ?_, hQ, .refl⟩
        exact SR.pop (t := .o m) (SR.putG s4.pop hk hms (by rw [hq]; rfl) (rm_dt0 hi) (RM.dt0 upd_same p1 (RMs.frame kp _ p2 (dis_e _))))⟩⟩⟩
end
end SY
namespace SY
open PySem L2 PySem.Spec PyProof.Rows

/-! ### an own exception is made -/
/-- .. no field yet -/
def exoA (C : Addr) : Asrt where
  P := fun v H f => ∃ a : Addr, v = .ref a ∧ H a = some (exo a C none) ∧ f = fS a
  st := fun ⟨a, h1, h2, h5⟩ k n => by
    subst h5
    exact ⟨a, h1, k.k _ _ h2 (n a rfl), rfl⟩
  th := fun ⟨a, h1, h2, h5⟩ b z => by
    subst h5
    exact ⟨_, by rw [show b = a from z]; exact h2⟩
/-- .. with its fields -/
def exdA (C : Addr) (fs : List (Str × V)) : Asrt where
  P := fun v H f => ∃ a d : Addr, v = .ref a ∧ H a = some (exo a C (some d)) ∧ H d = some (exd d fs) ∧ a ≠ d ∧ f = fU (fS a) (fS d)
  st := fun ⟨a, d, h1, h2, h3, h4, h5⟩ k n => by
    subst h5
    exact ⟨a, d, h1, k.k _ _ h2 (n a (.inl rfl)), k.k _ _ h3 (n d (.inr rfl)), h4, rfl⟩
  th := fun ⟨a, d, h1, h2, h3, h4, h5⟩ b z => by
    subst h5
    rcases z with z | z
    · exact ⟨_, by rw [show b = a from z]; exact h2⟩
    · exact ⟨_, by rw [show b = d from z]; exact h3⟩
section
variable {X : Cx}
/-- S.__init__(self, ..), S an own class without own __init__ -/
theorem pe_sinit {S : Addr} {mc : Value} {x : Str} {e : Expr} {es : List Expr} {ta : TA} {p1 p2 pos : Pos} {pl : Sem Bool} (hg : Gl X x) (hm : X.mg x = some (.ref S)) (hS : PySem.W.specialIn X.K (.ref S) "__getattribute__" = some (some (.builtin "type.__getattribute__"))) (hr : PySem.W.readsIn X.K S mc = true)
    (vV : PySem.W.findCls X.K (.ref S) mc "__init__" = some (.val (.builtin "ValueError.__init__"))) (hdb : (x == ("__debug__" : Str)) = false) (ha : PA X (e :: es) ta)
    (hc : eval (.Call (.Attribute (.Name x p1) "__init__" p2) (e :: es) [] pos) X.env = (do
      let ov ← eval (.Name x p1) X.env
      standAt p2.atName
      let (f, first) ← holding [ov] (getMethod ov "__init__" pl)
      callWith pos f first (backTo pos (starEach (e :: es) X.env)) (backToKw pos (keywordEach [] X.env))))
    (he : starEach (e :: es) X.env = (false, eval e X.env) :: starEach es X.env) (hpl : (backTo pos (starEach es X.env)).any (·.1) = false) :
    PE X (.Call (.Attribute (.Name x p1) "__init__" p2) (e :: es) [] pos) (tVeI X.K ta) := by
  refine ⟨fun pins s σ H Q I h => ?_⟩
  refine PySem.W.methodCall_KW (ld_glob I hg hm ?_ hdb) hc
  refine PySem.W.method_cls I.kIn hS (PySem.W.cls_value I.kIn hr vV (by decide +kernel) ?_)
  show wpAny _ _ (callWith pos (Value.builtin "ValueError.__init__") [] (backTo pos (starEach (e :: es) X.env)) []) _ _ _
  refine PyProof.Rows.callWith_method1 (thn (ha.run pos pins _ σ H _ (I.tok _) h) fun us s1 ⟨vs, H1, I1, r1, a, C, ws, ev, hl, T, ea, q⟩ => ?_) he hpl
  subst ev
  cases r1 with
  | @cons _ u0 _ ur ra rw' =>
    obtain rfl : u0 = Value.ref a := ra
    have hlen : ur.length ≤ sizeLine := by
      rw [← Paired.length rw', sizeLine_eq]
      omega
    exact oinit_ok T I1 ea hlen fun s' J => ⟨.non, H1, J, rfl, q⟩
end
section
variable {X : Cx} {G : Gh} {T : List Tm} {e : Ev} {Q : Tm → Ev → Prop}
theorem x_sinit {S C : Addr} {mc : Value} {x : Str} {a : Expr} {es : List Expr} {p1 p2 pos : Pos} {pl : Sem Bool} (hg : Gl X x) (hm : X.mg x = some (.ref S)) (hS : PySem.W.specialIn X.K (.ref S) "__getattribute__" = some (some (.builtin "type.__getattribute__"))) (hr : PySem.W.readsIn X.K S mc = true)
    (vV : PySem.W.findCls X.K (.ref S) mc "__init__" = some (.val (.builtin "ValueError.__init__"))) (hdb : (x == ("__debug__" : Str)) = false)
    (hc : eval (.Call (.Attribute (.Name x p1) "__init__" p2) (a :: es) [] pos) X.env = (do
      let ov ← eval (.Name x p1) X.env
      standAt p2.atName
      let (f, first) ← holding [ov] (getMethod ov "__init__" pl)
      callWith pos f first (backTo pos (starEach (a :: es) X.env)) (backToKw pos (keywordEach [] X.env))))
    (he : starEach (a :: es) X.env = (false, eval a X.env) :: starEach es X.env) (hpl : (backTo pos (starEach es X.env)).any (·.1) = false) (OC : OexC X.K C)
    (h : Xa X G T e (a :: es) fun ts e1 => ∃ t0 t1, ts = [t0, t1] ∧ see e1 t0 = some (.obj (exoA C)) ∧ Q (.o .non) e1) : Xp X G T e (.Call (.Attribute (.Name x p1) "__init__" p2) (a :: es) [] pos) Q :=
  .of (pe_sinit hg hm hS hr vV hdb (pa_self (a :: es)) hc he hpl) fun tv σ H s pos pins sh I => thn (h.run tv σ H s pos pins sh I) fun us s1 ⟨vs, H1, I1, r1, ts, e1, s2, hl, t0, t1, ht, hs, hQ⟩ => ⟨vs, H1, I1, r1, by
    subst ht
    match vs, hl with
    | [v, w], _ =>
      have s3 : SRg X.K G (t1 :: t0 :: T) (w :: v :: tv) e1 σ H1 := s2
      obtain ⟨f, r⟩ := s3.pop.see hs
      cases r with
      | obj r =>
        obtain ⟨b, rfl, hb, _⟩ := r
        exact ⟨b, C, [w], rfl, (by show 1 ≤ 1000; omega), OC, hb, .o .non, e1, s3.pop.pop.push .non, hQ⟩⟩
theorem own_fresh' {G : Gh} {H : Hp} {d : Addr} (h6 : Keep G.f0 G.H0 H) (hD : H d = none) : Own G.f0 G.H0 (fS d) := fun b z => by rw [show b = d from z]; exact own_fresh h6 hD
/-- a new object comes, and the thing in slot k holds it from now on -/
theorem SR.putNew {K : PySem.W.Frag} {tv : List V} {σ : L2.St} {H : Hp} {k : Nat} {m m' : M} {o1 o2 : HO} {p d : Addr} {s0 : Slot} (s : SRg K G (.b k :: T) (.ref p :: tv) e σ H) (hk : e[k]? = some s0) (hm : s0.m? = some m) (ho : mutH (H p) = true) (hd : H d = none) (hdp : d ≠ p) (hf : ∀ {f}, RM K H (.ref p) m f → f = fS p)
    (r' : RM K (upd (upd H d o1) p o2) (.ref p) m' (fU (fS p) (fS d))) : SRg K G T tv (e.set k (s0.put m')) σ (upd (upd H d o1) p o2) := by
  obtain ⟨⟨f, g, h1, h2, h3, h4, h5⟩, h6⟩ := s
  cases h1 with
  | b rv h1 =>
    obtain ⟨w, f1, f2, q0, q1, q2, q3, q4, q5⟩ := h2.take hk hm
    subst q0
    rw [q2] at rv; cases rv
    have z := hf q4
    subst z
    obtain ⟨d1, d2⟩ := dis_u'.mp h3
    have k1 : Keep fE H (upd H d o1) := Keep.new hd
    have k2 : Keep (fS p) (upd H d o1) (upd (upd H d o1) p o2) := Keep.put rfl (by rw [upd_ne (Ne.symm hdp)]; exact ho)
    have kp : Keep (fS p) H (upd (upd H d o1) p o2) := ⟨fun b o e n => k2.k b o (k1.k b o e (fun z => z)) n, fun b xs e => k2.t b xs (k1.t b xs e), fun b o u e => k2.z b o u (k1.z b o u e)⟩
    have nd : ∀ {F : FP}, (∀ b, F b → ∃ u, H b = some u) → Dis (fS d) F := fun t b x y => by
      obtain ⟨u, hu⟩ := t b y
      rw [show b = d from x, hd] at hu; cases hu
    have q6 := q5.frame kp q1.symm
    have q7 := q6.fill (i := k) (s := s0.put m') (by rw [List.getElem?_set_self (List.getElem?_eq_some_iff.mp hk).1]) (Slot.m_put hm) q2 (Slot.arg_put q3) r' (dis_u.mpr ⟨q1, nd q5.there⟩)
    rw [List.set_set] at q7
    exact .mk' (h1.frame kp d1) q7 (dis_u'.mpr ⟨dis_u'.mpr ⟨d1, (nd h1.there).symm⟩, d2⟩) h4 ((h5.left.u (own_fresh' h6 hd)).u h5.right) (h6.own (f := fS p) (fun b z => h5 b (.inl z)) kp)
/-- a scalar's value -/
def scalV : M → Option V
  | .non => some .non
  | .bl b => some (.bl b)
  | .int i => some (.int i)
  | .str x => some (.str x)
  | _ => none
theorem scal_val {K : PySem.W.Frag} {H : Hp} {v y : V} {m : M} {f : FP} (r : RM K H v m f) (h : scalV m = some y) : v = y := by
  cases r <;> first | (cases h; rfl) | cases h
theorem scal_rm {K : PySem.W.Frag} {H : Hp} {y : V} {m : M} (h : scalV m = some y) : RM K H y m fE := by
  cases m <;> first | (cases h; constructor) | cases h
end
section
variable {X : Cx} {G : Gh} {T : List Tm} {e : Ev} {D : MD} {pos : Pos}
/-- self.f = e, the first field -/
theorem s_ost {o ex : Expr} {f : Str} {p' : Pos} (hs : swapsWith ex (some (.Attribute o f p')) pos.line X.env = pure false)
    (h : Xp X G T e ex fun t e1 => ∃ m y, see e1 t = some m ∧ scalV m = some y ∧ Xp X G (t :: T) e1 o fun to e2 => ∃ k s0 C, to = .b k ∧ e2[k]? = some s0 ∧ s0.m? = some (.obj (exoA C)) ∧ noB k (t :: T) = true ∧ OexC X.K C ∧ PySem.W.findIn X.K (.ref C) f = some none ∧ D.nx (e2.set k (s0.put (.obj (exdA C [(f, y)]))))) :
    Xs X G T e (.Assign [.Attribute o f p'] ex pos) D :=
  .of (ps_ost (pe_self o) (pe_self ex) hs) fun tv σ H s pins sh I => thn (h.run tv σ H s pins sh I) fun u s1 ⟨v, H1, I1, r1, t, e1, s2, m, y, hm, hy, h2⟩ => ⟨v, H1, I1, r1, fun pins sh I =>
    thn (h2.run (v :: tv) σ H1 s2 pins sh I) fun u s3 ⟨w, H2, I2, r2, to, e2, s4, k, s0, C, hto, hk, hs0, hnb, OC, hno, hQ⟩ => ⟨w, H2, I2, r2, by
      subst hto
      obtain ⟨g, r⟩ := s2.see hm
      have ev := scal_val r hy
      subst ev
      have s5 := SR.see (t := .b k) (m := .obj (exoA C)) s4 (by show e2[k]?.bind Slot.m? = _; rw [hk]; exact hs0)
      obtain ⟨g, r⟩ := s5
      cases r with
      | obj r =>
        obtain ⟨a, rfl, ha, _⟩ := r
        refine ⟨a, C, rfl, OC, hno, .inl ⟨ha, fun dx hn hne => ⟨_, ?_, hQ⟩⟩⟩
        refine SR.pop (t := t) (SR.putNew (m' := .obj (exdA C [(f, v)])) s4 hk hs0 (by rw [ha]; rfl) hn hne (fun {f} r => by cases r with | obj r => obtain ⟨b, eb, _, e3⟩ := r; cases eb; exact e3) (.obj ?_))
        exact ⟨a, dx, rfl, upd_same, by rw [upd_ne hne]; exact upd_same, Ne.symm hne, rfl⟩⟩⟩
/-- what an own __init__ promises: the fields by the arguments -/
def mkS (C : Addr) (ok : List M → List (Str × V) → Prop) : MSp := fun ms Q E => ∃ args fs, ms = .obj (exoA C) :: args ∧ ok args fs ∧ Q (.obj (exdA C fs) :: args) .non
/-- fields as things -/
def Flds (fs : List (Str × V)) (fm : List (Str × M)) : Prop := ∀ (K : PySem.W.Frag) (H : Hp), fs.map (·.1) = fm.map (·.1) ∧ RMs K H (fs.map (·.2)) (fm.map (·.2)) fE
theorem flds1 {f : Str} {y : V} {m : M} (h : scalV m = some y) : Flds [(f, y)] [(f, m)] := fun K H => ⟨rfl, .one (scal_rm h)⟩
theorem flds0 : Flds [] [] := fun K H => ⟨rfl, .nil⟩
/-- raise C(e, ..), C an own class with an own __init__ that is walked -/
theorem s_raise {x : Str} {a : Expr} {es : List Expr} {p pos' : Pos} {C fI : Addr} {fd : FuncData} {ps : List Str} {k : Nat} {ok : List M → List (Str × V) → Prop} {Em : Addr → List (Str × M) → Ev → Prop} (hc : X.calm = true) (tk : Takes X (WS X.K G Em))
    (OC : OexC X.K C) (iC : PySem.W.findIn X.K (.ref C) "__init__" = some (some (.ref fI))) (tI : PySem.W.typeIn X.K (.ref fI) = some (.type "function")) (F1 : FnOk X.prog X.w X.K X.mg X.base (L2.CX X.prog X.w) k fI fd ps (toSp X.K (mkS C ok))) (hr : Room (k + 1) X.A) (hb : Binds X.K fd ps [])
    (hg : Gl X x) (hm : X.mg x = some (.ref C)) (hdb : (x == ("__debug__" : Str)) = false) (he : starEach (a :: es) X.env = (false, eval a X.env) :: starEach es X.env) (hpl : (backTo pos' (starEach es X.env)).any (·.1) = false)
    (h : Xa X G T e (a :: es) fun ts e1 => ∃ ms e2 fs fm, takesR e1 ts.reverse = some (ms.reverse, e2) ∧ ms.length ≤ 900 ∧ M.imms ms = true ∧ ok ms fs ∧ Flds fs fm ∧ Em C fm e2) : Xs X G T e (.Raise (some (.Call (.Name x p) (a :: es) [] pos')) none pos) D :=
  .of (ps_raise hc tk (pmk_oex OC iC tI F1 hr hb .nil passL hg hm (pa_self (a :: es)) hdb he hpl)) fun tv σ H s pos pins sh I => thn (h.run tv σ H s pos pins sh I) fun us s1 ⟨vs, H1, I1, r1, ts, e1, s2, hl, ms, e2, fs, fm, ht, hz, hi, hok, hfl, hE⟩ => ⟨vs, H1, I1, r1, by
    obtain ⟨fa, f, g, q1, q2, q3, d1, d2, d3, o1, o2, o3, kp⟩ := s2.split hl ht
    have z := RMs.imms _ q1 hi
    subst z
    refine ⟨by rw [q1.length]; omega, fun b hb => ?_⟩
    have k0 : Keep fE H1 (upd H1 b (exo b C none)) := Keep.new hb
    rw [List.append_nil]
    refine ⟨.obj (exoA C) :: ms, fU (fS b) fE, fun ms' m => ms' = .obj (exdA C fs) :: ms ∧ m = .non, fun _ _ => False, .cons (.obj ⟨b, rfl, upd_same, rfl⟩) (RMs.frame k0 _ q1 (dis_e _)) (dis_e' _), ⟨ms, fs, rfl, hok, rfl, rfl⟩, fun ms' m ⟨e1', e2'⟩ v H' f' r kk ow => ?_, fun _ _ z => z.elim⟩
    subst e1'; subst e2'
    cases r with
    | cons rv r =>
      cases rv
      refine ⟨rfl, ?_⟩
      cases r with
      | cons ro r =>
        cases ro with
        | obj ro =>
          obtain ⟨b', d, eb, hb', hd', hne, hf⟩ := ro
          cases eb
          subst hf
          have hd1 : H1 d = none := by
            rcases ow d (.inr (.inl (.inr rfl))) with z | z
            · rcases z with z | z
              · exact absurd (show d = b from z).symm hne
              · exact z.elim
            · rwa [upd_ne (Ne.symm hne)] at z
          refine ⟨d, fs, hb', hd', hd1, C, fm, d, e2, rfl, rfl, hE, ?_⟩
          have kH : Keep fE H1 (upd (del H' b) d (.xd fs)) := by
            have nb : ∀ {c : Addr} {o : HO}, H1 c = some o → c ≠ b := fun q z => by rw [z, hb] at q; cases q
            have ndd : ∀ {c : Addr} {o : HO}, H1 c = some o → c ≠ d := fun q z => by rw [z, hd1] at q; cases q
            refine ⟨fun c o q _ => ?_, fun c xs q => ?_, fun c o u q => ?_⟩
            · rw [upd_ne (ndd q), del_ne (nb q)]
              exact kk.k c o (by rw [upd_ne (nb q)]; exact q) (fun z => z.elim (fun z => nb q z) (fun z => z))
            · rw [upd_ne (ndd q), del_ne (nb q)]
              exact kk.t c xs (by rw [upd_ne (nb q)]; exact q)
            · rw [upd_ne (ndd q), del_ne (nb q)]
              exact kk.z c o u (by rw [upd_ne (nb q)]; exact q)
          have hdis : Dis (fS d) g := fun c x y => by
            obtain ⟨u, hu⟩ := q3.there c y
            rw [show c = d from x, hd1] at hu; cases hu
          obtain ⟨n1, n2⟩ := hfl X.K (upd (del H' b) d (.xd fs))
          exact .mk' (f := fU (fS d) fE) (.o (.obj ⟨d, fs, rfl, upd_same, n1, n2, rfl⟩) .nil (dis_e' _)) (q3.frame kH (dis_e' _)) (dis_u.mpr ⟨hdis, dis_e _⟩) ((own_fresh' kp hd1).u .e) o3 (kp.own Own.e kH)⟩
end

/-! ### an own exception is caught and kept -/
/-- a caught exception -/
def ExK (cls : Value) (d : Option Addr) (a : Addr) : HO := .ext fun h => ∃ (oe : Obj) (vs : Array Value), h.get? a = some oe ∧ Zc cls d oe ∧ oe.data = .fields vs
theorem exK_ok {P : Program} {w : World} {H : Hp} {h : Heap} {a : Addr} {cls : Value} {d : Option Addr} {oe : Obj} {vs : Array Value} (e : h.get? a = some oe) (z : Zc cls d oe) (hd : oe.data = .fields vs) : ObjOk P w H h a (ExK cls d a) :=
  ⟨⟨oe, vs, e, z, hd⟩, ⟨oe, e⟩, fun _ _ ⟨o, v, q, r⟩ k => ⟨o, v, k o q, r⟩⟩
theorem exK_at {P : Program} {w : World} {H : Hp} {h : Heap} {a : Addr} {cls : Value} {d : Option Addr} (hok : HOk P w H h) (e : H a = some (ExK cls d a)) : ∃ (oe : Obj) (vs : Array Value), h.get? a = some oe ∧ Zc cls d oe ∧ oe.data = .fields vs := by
  have x : ObjOk P w H h a (.ext fun h => ∃ (oe : Obj) (vs : Array Value), h.get? a = some oe ∧ Zc cls d oe ∧ oe.data = .fields vs) := hok a _ e
  exact x.1
section
variable {X : Cx} {pins : List (Addr × Obj)} {σ : L2.St} {H : Hp} {sI s s' : Shared} {B : Heap}
/-- back on the ground, the exception tracked from now on -/
theorem inv_landedX {a : Addr} {o : HO} (I : Inv X pins σ H sI) (nb : ∀ b o, sI.heap.get? b = some o → b ∉ frs X.stack → B.get? b = some o) (st : B.StaysIn s'.heap) (up : sI.heap.UpToSlots s'.heap) (os : s'.os = sI.os) (ag : AllBare s'.gens)
    (na : H a = none) (nB : sI.heap.get? a = none) (new : ObjOk X.prog X.w (upd H a o) s'.heap a o) : Inv X pins σ (upd H a o) s' := by
  have nf : ∀ b ∈ frs X.stack, ∀ o, sI.heap.get? b = some o → ∃ sl, s'.heap.get? b = some { o with slots := sl } := fun b hb o e => by
    obtain ⟨_, o', e', hd⟩ := I.stack.mem hb
    rw [e] at e'; cases e'
    exact up b o e hd
  have ne : ∀ {b : Addr} {o : Obj}, sI.heap.get? b = some o → b ≠ a := fun e z => by rw [z, nB] at e; cases e
  have hok0 : HOk X.prog X.w H s'.heap := (I.inGround nb).kept st
  have hok : HOk X.prog X.w (upd H a o) s'.heap := fun b u e => by
    by_cases hb : b = a
    · subst hb
      rw [upd_same] at e
      cases e
      exact new
    · rw [upd_ne hb] at e
      exact (hok0 b u e).stay (fun c v _ q => q) (fun c q => by rw [upd_ne (ne_of_none q na)]; exact q) fun c xs q => by rw [upd_ne (ne_of_none q na)]; exact q
  have J := I.call (ch := []) (h' := s'.heap) (g' := s'.gens) (t' := s'.toks) (d' := s'.drawn) (H' := upd H a o)
    ⟨fun b o e _ hb _ => st b o (nb b o e hb), fun b o e _ hb _ => nf b hb o e, fun b o e n _ => by rw [upd_ne (ne e)]; exact n, fun b o e _ => by
      by_cases hb : b ∈ frs X.stack
      · obtain ⟨sl, q⟩ := nf b hb o e
        exact ⟨_, q⟩
      · exact ⟨o, st b o (nb b o e hb)⟩, fun b xs e => by rw [upd_ne (ne_of_none e na)]; exact e, fun b o u e => by rw [upd_ne (ne_of_none e na)]; exact e, fun b ps e => ⟨#[], by rw [upd_ne (ne_of_none e na), e]; simp⟩⟩
    hok ag (fun _ z => nomatch z)
  obtain ⟨a1, a2, a3, a4, a5⟩ := s'
  have e5 : a5 = sI.os := os
  subst e5
  exact J
theorem inv_suite0 (I : Inv X pins σ H s) (a : Addr) : Inv (X.suite a (X.pn ++ pins)) [] σ H s :=
  ⟨I.ok.suite _ _, I.os, I.bare, I.base, I.loc, I.cell, I.free, I.freeC, fun p hp => I.pin p (by rw [List.append_nil] at hp; exact hp), I.hok, I.len⟩
theorem inv_unsuite0 {a : Addr} {pn' : List (Addr × Obj)} (I : Inv (X.suite a (X.pn ++ pins)) pn' σ H s) (ok : X.Ok) : Inv X pins σ H s :=
  ⟨ok, I.os, I.bare, I.base, I.loc, I.cell, I.free, I.freeC, fun p hp => I.pin p (List.mem_append_left _ hp), I.hok, I.len⟩
end
/-- what the clause 'except x as n' wishes: the exception is of the class, and the suite goes on with it -/
def wAsK (K : PySem.W.Frag) (c : Value) (i : Nat) (ts : Addr → TS) (D : Ends) : WX := fun cls d σ H =>
  PySem.W.exmOne K cls c = some true ∧ ∀ a, H a = none → ts a { nx := fun σ' H' => D.nx (σ'.set i none) H', rt := D.rt, bk := fun σ' H' => D.bk (σ'.set i none) H', ct := fun σ' H' => D.ct (σ'.set i none) H' } (σ.set i (some (.ref a))) (upd H a (ExK cls d a))
section
variable {X : Cx} {x n : Str} {c : Value} {i : Nat} {body suite : List Stmt} {b₀ : Stmt} {np pos pos' : Pos} {tb : WX → TS} {ts : Addr → TS}
theorem ps_try_keep (hs : X.stack = X.env :: X.outer) (hf : X.env.frame = some X.env.locals) (hN : X.N.Nodup) (hi : X.N[i]? = some n) (hln : X.env.kindOf n = some .local) (hc : Names X x c)
    (hb : ∀ (W : WX) (pn : List (Addr × Obj)) (xe : Value → Shared → Prop), Takes (X.tr pn xe) W → PassesOwn (model X.prog X.w) X.A X.env xe → PSs (X.tr pn xe) body (tb W))
    (hsu : ∀ (a : Addr) (pn : List (Addr × Obj)), PSs (X.suite a pn) (b₀ :: suite) (ts a)) :
    PS X (.Try body [.ExceptHandler (some (.Name x np)) (some n) (b₀ :: suite) pos'] [] [] pos) (fun D σ H => tb (wAsK X.K c i ts D) D σ H) := by
  refine ⟨fun pins s σ H D I h => ?_⟩
  have ok := I.ok
  have hfr : X.A.frames = some (X.env :: X.outer) := by rw [ok.frames, hs]
  have hloc : Loc X.env.scope n := .inl hln
  refine wpAny_Try_except ?_
  refine wpAny_mono ((hb (wAsK X.K c i ts D) (X.pn ++ pins) (fun e s₁ => wpAny (model X.prog X.w) X.A (noteFrame e X.env) (fun _ s₂ => wpAny (model X.prog X.w) X.A (setFlight e none) (fun _ s₃ =>
    wpAny (model X.prog X.w) X.A (handleBy e X.env [.ExceptHandler (some (.Name x np)) (some n) (b₀ :: suite) pos']) (SP X pins D) X.xe s₃) X.xe s₂) X.xe s₁) (fun u s' xx => ?_) PassesOwn.looking).run [] s σ H D (I.toTry _) h) (fun f s1 hsp => ?_) (fun e s1 he => he)
  · obtain ⟨a, B, sI, pins', σ', H', cls, d, rfl, J', nb, up, sky, na, os, ag, hb1, hyes⟩ := xx
    have J : Inv X pins σ' H' sI := J'.ofTry ok
    have sky' : Sky B (X.env :: X.outer) a (Zc cls d) X.env.locals s'.heap := by rw [← hs]; exact sky
    show wpAny (model X.prog X.w) X.A (noteFrame (.ref a) X.env) _ _ _
    refine Sky.land Zc.steady hfr hf sky' fun h3 fl3 up3 => ?_
    have J3 : Inv X pins σ' H' { s' with heap := h3 } := J.landed nb fl3.1 (up.trans up3) os ag
    obtain ⟨oe3, vs3, he3, hz3, hd3⟩ := fl3.there
    have notFr : ∀ {h : Heap} {o : Obj} {vs : Array Value}, h.FunFrames B (X.env :: X.outer) → h.get? a = some o → o.data = .fields vs → a ∉ frs (X.env :: X.outer) := fun {h o vs} ff e dd hm => by
      obtain ⟨_, o', e', hnf⟩ := ff.mem hm
      rw [e] at e'; cases e'
      exact hnf _ dd
    have nfr := notFr fl3.2.2.1 he3 hd3
    have nL : a ≠ X.env.locals := fun z => nfr (List.mem_filterMap.mpr ⟨X.env, List.mem_cons_self, by rw [hf, z]⟩)
    have nF : a ∉ X.fs := fun hm => by
      obtain ⟨e, he, q⟩ := List.mem_filterMap.mp hm
      exact nfr (List.mem_filterMap.mpr ⟨e, List.mem_cons_of_mem _ he, q⟩)
    have nB : sI.heap.get? a = none := by
      cases q : sI.heap.get? a with
      | none => rfl
      | some o =>
        have z := nb a o q (by rw [hs]; exact nfr)
        rw [fl3.2.1] at z; cases z
    have S3 := J3.suite he3 hd3 na nL nF
    refine wpAny_handleBy_cons (codeAny_handlers_test ?_) (by intro q; cases q)
    have LT : PySem.W.Looks (model X.prog X.w) h3 (typeOf (.ref a)) cls := fun A Q E s k q => wpAny_typeOf_ref (k _ _ he3) (by rw [hz3.1]; exact q)
    have LM := PySem.W.exm_one (M := model X.prog X.w) (J3.kIn) LT hb1
    have test : ∀ {Q : Value → Shared → Prop} {E : Value → Shared → Prop}, Q c { s' with heap := h3 } → wpAny (model X.prog X.w) (X.A.mark (some (.ref a))) (eval (.Name x np) X.env) Q E { s' with heap := h3 } := fun {Q E} q => by
      obtain ⟨hg, hdbg, hm | ⟨hm, hv, hnn⟩⟩ := hc
      · exact ld_glob (X := X.suite a ((a, oe3) :: (X.pn ++ pins))) S3 hg hm q hdbg
      · exact ld_blt (X := X.suite a ((a, oe3) :: (X.pn ++ pins))) S3 hg hm hv q hnn hdbg
    refine test (LM.here ?_)
    refine codeAny_handlers_suite_as ?_
    refine HandSPX.lands_againZ fl3 fun h4 fl4 up4 => ?_
    obtain ⟨oe4, vs4, he4, hz4, hd4⟩ := fl4.there
    have J4 : Inv X pins σ' (upd H' a (ExK cls d a)) { s' with heap := h4 } := inv_landedX (s' := { s' with heap := h4 }) J nb fl4.1 ((up.trans up3).trans up4) os ag na nB (exK_ok he4 hz4 hd4)
    have S4 := inv_suite0 J4 a
    refine store_ok (X := X.suite a (X.pn ++ pins)) (v := .ref a) S4 hN hi hloc rfl (fun s5 S5 => ?_) (.inr hln)
    refine wpAny_mono ((hsu a (X.pn ++ pins)).run [] s5 _ _ _ S5 (hyes a na)) (fun f s6 hsp => ?_) (fun _ _ z => False.elim z)
    have end_ : ∀ {σ6 : L2.St} {H6 : Hp} {Q : Shared → Prop}, Inv (X.suite a (X.pn ++ pins)) [] σ6 H6 s6 → (∀ s7, Inv X pins (σ6.set i none) H6 s7 → Q s7) →
        wpAny (model X.prog X.w) X.A (do bindName X.env n .none; unbindBehindTheSuite X.env n pos') (fun _ s7 => Q s7) X.xe s6 := fun {σ6 H6 Q} S6 hq => gone_ok (inv_unsuite0 S6 ok) hN hi hln hq
    cases f with
    | next =>
      obtain ⟨σ6, H6, S6, q6⟩ := hsp
      exact end_ S6 fun s7 J7 => ⟨_, _, J7, q6⟩
    | brk =>
      obtain ⟨σ6, H6, S6, q6⟩ := hsp
      exact end_ S6 fun s7 J7 => ⟨_, _, J7, q6⟩
    | cont =>
      obtain ⟨σ6, H6, S6, q6⟩ := hsp
      exact end_ S6 fun s7 J7 => ⟨_, _, J7, q6⟩
    | ret u =>
      obtain ⟨v6, σ6, H6, S6, r6, q6⟩ := hsp
      exact end_ S6 fun s7 J7 => ⟨_, _, _, J7, r6, q6⟩
  · cases f with
    | next =>
      obtain ⟨σ', H', J', q⟩ := hsp
      exact wpAny_execs_nil ⟨σ', H', J'.ofTry ok, q⟩
    | brk =>
      obtain ⟨σ', H', J', q⟩ := hsp
      exact ⟨σ', H', J'.ofTry ok, q⟩
    | cont =>
      obtain ⟨σ', H', J', q⟩ := hsp
      exact ⟨σ', H', J'.ofTry ok, q⟩
    | ret u =>
      obtain ⟨v, σ', H', J', r, q⟩ := hsp
      exact ⟨v, σ', H', J'.ofTry ok, r, q⟩
end
end SY
namespace SY
open PySem L2 PySem.Spec PyProof.Rows

/-- a caught exception that is kept: its class, its fields -/
def excA (K : PySem.W.Frag) (C : Addr) (fs : List (Str × M)) : Asrt where
  P := fun v H f => ∃ (a d : Addr) (xs : List (Str × V)), v = .ref a ∧ H a = some (ExK (.ref C) (some d) a) ∧ H d = some (.xd xs) ∧ xs.map (·.1) = fs.map (·.1) ∧ RMs K H (xs.map (·.2)) (fs.map (·.2)) fE ∧ a ≠ d ∧ f = fU (fS a) (fS d)
  st := fun ⟨a, d, xs, h1, h2, h3, h4, h5, h6, h7⟩ k n => by
    subst h7
    exact ⟨a, d, xs, h1, k.k _ _ h2 (n a (.inl rfl)), k.k _ _ h3 (n d (.inr rfl)), h4, RMs.frame k _ h5 (dis_e _), h6, rfl⟩
  th := fun ⟨a, d, xs, h1, h2, h3, h4, h5, h6, h7⟩ b z => by
    subst h7
    rcases z with z | z
    · exact ⟨_, by rw [show b = a from z]; exact h2⟩
    · exact ⟨_, by rw [show b = d from z]; exact h3⟩
section
variable {X : Cx} {G : Gh} {e : Ev} {D : MD}
theorem sr_nil {K : PySem.W.Frag} {tv : List V} {σ : L2.St} {H : Hp} (s : SRg K G [] tv e σ H) : tv = [] := by
  obtain ⟨⟨f, g, h1, _⟩, _⟩ := s
  cases h1; rfl
theorem sr_kill0 {K : PySem.W.Frag} {σ : L2.St} {H : Hp} {i : Nat} (s : SRg K G [] [] e σ H) : SRg K G [] [] (e.set i .un) (σ.set i none) H := s.kill rfl none
theorem s_try {x n : Str} {c : Value} {body suite : List Stmt} {b₀ : Stmt} {np pos pos' : Pos} (hs : X.stack = X.env :: X.outer) (hf : X.env.frame = some X.env.locals) (hN : X.N.Nodup) (hi : X.N[nix X.N n]? = some n) (hln : X.env.kindOf n = some .local) (hc : Names X x c)
    (hb : ∀ (pn : List (Addr × Obj)) (xe : Value → Shared → Prop), Takes (X.tr pn xe) (WS X.K G fun C fs e1 => PySem.W.exmOne X.K (.ref C) c = some true ∧ ∀ a pn, Xb (X.suite a pn) G [] (e1.set (nix X.N n) (.v (.obj (excA X.K C fs)))) (b₀ :: suite) { nx := fun e2 => D.nx (e2.set (nix X.N n) .un), rt := D.rt, bk := fun e2 => D.bk (e2.set (nix X.N n) .un), ct := fun e2 => D.ct (e2.set (nix X.N n) .un) }) →
      PassesOwn (model X.prog X.w) X.A X.env xe → Xb (X.tr pn xe) G [] e body D) :
    Xs X G [] e (.Try body [.ExceptHandler (some (.Name x np)) (some n) (b₀ :: suite) pos'] [] [] pos) D :=
  .of (ps_try_keep (tb := fun W D σ H => ∀ pn xe, Takes (X.tr pn xe) W → PassesOwn (model X.prog X.w) X.A X.env xe → wpB (X.tr pn xe) body D σ H) (ts := fun a D σ H => ∀ pn, wpB (X.suite a pn) (b₀ :: suite) D σ H) hs hf hN hi hln hc
      (fun W pn xe tk po => ⟨fun pins s σ H Q I h => h pn xe tk po pins s I⟩) (fun a pn => ⟨fun pins s σ H Q I h => h pn pins s I⟩)) fun tv σ H s => by
    have et := sr_nil s
    subst et
    intro pn xe tk po
    refine (hb pn xe (tk.imp fun cls d σ1 H1 w => ?_) po).run [] σ H s
    obtain ⟨C, fs, d', e1, rfl, rfl, ⟨hx, hsu⟩, s1⟩ := w
    refine ⟨hx, fun a na pn => ?_⟩
    have s2 : SRg X.K G [] [] (e1.set (nix X.N n) (.v (.obj (excA X.K C fs)))) (σ1.set (nix X.N n) (some (.ref a))) (upd H1 a (ExK (.ref C) (some d') a)) := by
      have s3 : SRg X.K G [.o (.obj (excA X.K C fs))] [.ref a] e1 σ1 (upd H1 a (ExK (.ref C) (some d') a)) := by
        obtain ⟨⟨f, g, h1, h2, h3, h4, h5⟩, h6⟩ := s1
        cases h1 with
        | o r h1 hd =>
          cases h1
          cases r with
          | obj r =>
            obtain ⟨d, xs, ed, k1, k2, k3, k4⟩ := r
            cases ed
            subst k4
            have kn : Keep fE H1 (upd H1 a (ExK (.ref C) (some d') a)) := Keep.new na
            have hne : a ≠ d' := fun z => by rw [z, k1] at na; cases na
            have dg : Dis (fS a) g := fun b x y => by
              obtain ⟨u, hu⟩ := h2.there b y
              rw [show b = a from x, na] at hu; cases hu
            exact .mk' (f := fU (fU (fS a) (fS d')) fE) (.o (.obj ⟨a, d', xs, rfl, upd_same, by rw [upd_ne (Ne.symm hne)]; exact k1, k2, RMs.frame kn _ k3 (dis_e _), hne, rfl⟩) .nil (dis_e' _)) (h2.frame kn (dis_e' _))
              (dis_u.mpr ⟨dis_u.mpr ⟨dg, (dis_u.mp h3).1⟩, dis_e _⟩) (((own_fresh' h6 na).u h4.left).u .e) h5 (h6.own Own.e kn)
      by_cases hl : nix X.N n < e1.length
      · exact s3.storeT hl rfl
      · have el : e1.length = σ1.length := by
          obtain ⟨⟨f, g, h1, h2, _⟩, _⟩ := s1
          exact h2.length.symm
        rw [List.set_eq_of_length_le (by omega), List.set_eq_of_length_le (by omega)]
        exact s3.pop
    intro pins sh I
    refine thn ((hsu a pn).run [] _ _ s2 pins sh I) fun f s4 q => ?_
    cases f with
    | next =>
      obtain ⟨σ', H', I', e', s', q'⟩ := q
      exact ⟨σ', H', I', _, sr_kill0 s', q'⟩
    | cont =>
      obtain ⟨σ', H', I', e', s', q'⟩ := q
      exact ⟨σ', H', I', _, sr_kill0 s', q'⟩
    | brk =>
      obtain ⟨σ', H', I', e', s', q'⟩ := q
      exact ⟨σ', H', I', _, sr_kill0 s', q'⟩
    | ret v => exact q
end

/-! ### what is asked of a kept exception -/
def rIsX (K : PySem.W.Frag) : List V → Hp → VK → Prop := fun xs H Q => ∃ (a d C : Addr) (fs : List (Str × V)) (c : V) (cv : Value) (b : Bool), xs = [.ref a, c] ∧ H a = some (ExK (.ref C) (some d) a) ∧ H d = some (.xd fs) ∧ ExcC K C ∧ ClsV c cv ∧ PySem.W.kitOne K (.ref C) cv = some b ∧ Q (.bl b) H
theorem inst_x {X : Cx} {pins : List (Addr × Obj)} {σ : L2.St} {H : Hp} {s : Shared} {a d C : Addr} {fs : List (Str × V)} (I : Inv X pins σ H s) (ha : H a = some (ExK (.ref C) (some d) a)) (hd : H d = some (.xd fs)) :
    ∃ (oe : Obj) (mA : Str → Option Value) (od : Obj), PySem.W.InstAt s.heap a oe C (some od) ∧ (∀ n, PySem.W.lookIn n od = some (mA n)) ∧ ∀ n, RelO (fs.lookup n) (mA n) := by
  obtain ⟨oe, vs, h1, ⟨h2, h3⟩, h4⟩ := exK_at I.hok ha
  have hx : ObjOk X.prog X.w H s.heap d (.xd fs) := I.hok d _ hd
  obtain ⟨mA, hns, hr⟩ := hx
  obtain ⟨od, ho, hl⟩ := lookIn_ns hns
  exact ⟨oe, mA, od, ⟨h1, h2, by unfold PySem.W.notCls; rw [h4] <;> rfl, by rw [h3]; exact ho⟩, hl, hr⟩
theorem call_isX {X : Cx} : CallR X (.builtin "isinstance") (rIsX X.K) := by
  intro pins s σ H xs us Q I r h
  obtain ⟨a, d, C, fs, c, cv, b, rfl, ha, hd, EC, k, e, q⟩ := h
  obtain ⟨u1, u2, rfl, r1, r2⟩ := vals2 r
  cases (show u1 = Value.ref a from r1)
  have e2 := k.eq r2
  subst e2
  obtain ⟨oe, mA, od, J, _, _⟩ := inst_x I ha hd
  have hcl : (PySem.W.clsIn X.K C).isSome = true := by obtain ⟨cd, hc, _⟩ := PySem.W.any_some EC.hd; rw [hc]; rfl
  exact PySem.W.kia_one (PySem.W.kitx_exc (od := some od) hcl EC.hg EC.hk EC.hs EC.ha EC.hn EC.ht EC.hm) I.kIn J e (fun z => nomatch z) fun tk => ⟨.bl b, H, I.tok tk, rfl, q⟩
section
variable {X : Cx} {G : Gh} {T : List Tm} {e : Ev} {Q : Tm → Ev → Prop} {t u : Tm}
theorem v_isX {C : Addr} {fs : List (Str × M)} {c : V} {cv : Value} {b : Bool} (EC : ExcC X.K C) (hs : see e t = some (.obj (excA X.K C fs))) (hk : ClsV c cv) (hb : PySem.W.kitOne X.K (.ref C) cv = some b) (q : Q (.o (.bl b)) e) : Xc X G (.builtin "isinstance") T [t, .o (.raw c)] e Q :=
  .of2 call_isX fun v w tv σ H s => by
    obtain ⟨f, r, _⟩ := s.top
    cases r
    obtain ⟨g, r'⟩ := s.pop.see hs
    cases r' with
    | obj r' =>
      obtain ⟨a, d, xs, rfl, h1, h2, _⟩ := r'
      exact ⟨a, d, C, xs, c, cv, b, rfl, h1, h2, EC, hk, hb, _, e, s.pop.pop.push (.bl _), q⟩
theorem o_isX {C : Addr} {fs : List (Str × M)} (hs : see e t = some (.obj (excA X.K C fs))) (q : Q (.o (.bl false)) e) : Xo X G (.cmp .Is) T t (.o .non) e Q :=
  .of op_isN fun va vb tv σ H s => by
    obtain ⟨f, r, _⟩ := s.top
    cases r
    obtain ⟨g, r'⟩ := s.pop.see hs
    cases r' with
    | obj r' =>
      obtain ⟨a, d, xs, rfl, h1, h2, _⟩ := r'
      exact ⟨rfl, _, e, s.pop.pop.push (.bl _), q⟩
theorem o_isnX {C : Addr} {fs : List (Str × M)} (hs : see e t = some (.obj (excA X.K C fs))) (q : Q (.o (.bl true)) e) : Xo X G (.cmp .IsNot) T t (.o .non) e Q :=
  .of op_notN fun va vb tv σ H s => by
    obtain ⟨f, r, _⟩ := s.top
    cases r
    obtain ⟨g, r'⟩ := s.pop.see hs
    cases r' with
    | obj r' =>
      obtain ⟨a, d, xs, rfl, h1, h2, _⟩ := r'
      exact ⟨rfl, _, e, s.pop.pop.push (.bl _), q⟩
/-- caught.f -/
theorem pe_xfK {ex : Expr} {te : TE} {n : Str} {pos : Pos} (he : PE X ex te) (hb : attributeBase ex n X.env (eval ex X.env) = eval ex X.env) :
    PE X (.Attribute ex n pos) (fun σ H Q => te σ H fun x H1 => ∃ (a d C : Addr) (fs : List (Str × V)) (v : V), x = .ref a ∧ H1 a = some (ExK (.ref C) (some d) a) ∧ H1 d = some (.xd fs) ∧ XfC X.K C ∧ PySem.W.findIn X.K (.ref C) n = some none ∧ fs.lookup n = some v ∧ Q v H1) := by
  refine ⟨fun pins s σ H Q I h => ?_⟩
  refine attr_of hb (thn (he.run pins s σ H _ I h) fun u s1 hh => ?_)
  obtain ⟨x, H1, I1, rx, a, d, C, fs, v, rfl, ha, hd, TC, hno, hl, q⟩ := hh
  obtain rfl : u = Value.ref a := rx
  obtain ⟨oe, mA, od, J, hlk, hr⟩ := inst_x I1 ha hd
  obtain ⟨u, hu, ru⟩ := RelO.some_of (v := v) (o := mA n) (by rw [← hl]; exact hr n)
  exact HandSPX.exc_get I1.kIn J TC.ga TC.gg TC.exC (PySem.W.findObj_own TC.hdC hno rfl (by rw [hlk, hu])) (handed_of ru) ⟨v, H1, I1.tok _, ru, q⟩
theorem rms_lookup {K : PySem.W.Frag} {H : Hp} {n : Str} {m : M} : ∀ {fs : List (Str × M)} {xs : List (Str × V)}, xs.map (·.1) = fs.map (·.1) → RMs K H (xs.map (·.2)) (fs.map (·.2)) fE → fs.lookup n = some m → ∃ v, xs.lookup n = some v ∧ RM K H v m fE
  | [], _, _, _, h => nomatch h
  | (k, m0) :: fs, [], e, _, _ => by simp at e
  | (k, m0) :: fs, (k', v0) :: xs, e, r, h => by
    simp only [List.map_cons, List.cons.injEq] at e
    obtain ⟨rfl, e⟩ := e
    obtain ⟨v, hv, q⟩ := rms_at (i := 0) r rfl
    cases hv
    rw [lookup_put] at *
    rw [List.lookup_cons] at h
    by_cases hk : n = k'
    · subst hk
      rw [if_pos rfl]
      rw [beq_self_eq_true] at h
      cases h
      exact ⟨v0, rfl, q⟩
    · rw [if_neg hk]
      rw [show (n == k') = false by simpa using hk] at h
      exact rms_lookup e (by simpa using r.drop0 1) h
theorem x_xf {ex : Expr} {n : Str} {pos : Pos} (hb : attributeBase ex n X.env (eval ex X.env) = eval ex X.env)
    (h : Xp X G T e ex fun t e1 => ∃ C fs m, see e1 t = some (.obj (excA X.K C fs)) ∧ fs.lookup n = some m ∧ XfC X.K C ∧ PySem.W.findIn X.K (.ref C) n = some none ∧ Q (.o m) e1) : Xp X G T e (.Attribute ex n pos) Q :=
  .of (pe_xfK (pe_self ex) hb) fun tv σ H s pins sh I => thn (h.run tv σ H s pins sh I) fun u s1 ⟨v, H1, I1, r1, t, e1, s2, C, fs, m, hs, hl, TC, hno, hQ⟩ => ⟨v, H1, I1, r1, by
    obtain ⟨g, r'⟩ := s2.see hs
    cases r' with
    | obj r' =>
      obtain ⟨a, d, xs, rfl, h1, h2, h3, h4, _⟩ := r'
      obtain ⟨v, q1, q2⟩ := rms_lookup h3 h4 hl
      exact ⟨a, d, C, xs, v, rfl, h1, h2, TC, hno, q1, _, e1, s2.pop.push q2, hQ⟩⟩
end
end SY
namespace SY
open PySem L2 PySem.Spec PyProof.Rows

/-! ### sorted pairs -/
def leP (p q : Int × Int) : Prop := p.1 < q.1 ∨ (p.1 = q.1 ∧ p.2 ≤ q.2)
theorem leP_no {p q : Int × Int} (h : SrtO.lexB q p = false) : leP p q := by
  unfold SrtO.lexB at h
  unfold leP
  split at h <;> simp at h <;> omega
def insP (p : Int × Int) : List (Int × Int) → List (Int × Int)
  | [] => [p]
  | q :: r => if SrtO.lexB q p then q :: insP p r else p :: q :: r
def sortP (l : List (Int × Int)) : List (Int × Int) := l.foldr insP []
theorem insP_perm (p : Int × Int) : ∀ l, (insP p l).Perm (p :: l)
  | [] => .refl _
  | q :: r => by
    unfold insP
    split
    · exact ((insP_perm p r).cons q).trans (.swap p q r)
    · exact .refl _
theorem sortP_perm : ∀ l, (sortP l).Perm l
  | [] => .refl _
  | p :: l => (insP_perm p _).trans ((sortP_perm l).cons p)
theorem leP_trans {a b c : Int × Int} (h : leP a b) (h' : leP b c) : leP a c := by unfold leP at *; omega
theorem insP_sorted (p : Int × Int) : ∀ l, l.Pairwise leP → (insP p l).Pairwise leP
  | [], _ => by simp [insP]
  | q :: r, h => by
    obtain ⟨h1, h2⟩ := List.pairwise_cons.mp h
    unfold insP
    split
    · rename_i hb
      refine List.pairwise_cons.mpr ⟨fun x hx => ?_, insP_sorted p r h2⟩
      rcases List.mem_cons.mp ((insP_perm p r).mem_iff.mp hx) with e | hx
      · subst e
        unfold SrtO.lexB at hb
        unfold leP
        split at hb <;> simp at hb <;> omega
      · exact h1 x hx
    · rename_i hb
      have hp := leP_no (by simpa using hb : SrtO.lexB q p = false)
      refine List.pairwise_cons.mpr ⟨fun x hx => ?_, h⟩
      rcases List.mem_cons.mp hx with e | hx
      · subst e; exact hp
      · exact leP_trans hp (h1 x hx)
theorem sortP_sorted : ∀ l, (sortP l).Pairwise leP
  | [] => .nil
  | p :: l => insP_sorted p _ (sortP_sorted l)
theorem sortP_uniq {l m : List (Int × Int)} (h : m.Perm l) (s : m.Pairwise leP) : m = sortP l := by
  refine List.Perm.eq_of_pairwise (le := leP) (fun a b _ _ h1 h2 => ?_) s (sortP_sorted l) (h.trans (sortP_perm l).symm)
  unfold leP at h1 h2
  exact Prod.ext (by omega) (by omega)
def pairM (p : Int × Int) : M := .tup [.int p.1, .int p.2]
theorem pairs_imm (ps : List (Int × Int)) : M.imms (ps.map pairM) = true := imms_map (fun _ => rfl) ps
/-- the pair that a value stands for -/
def kP (H : Hp) : V → Int × Int
  | .ref t => match H t with
    | some (.tup [.int i, .int j]) => (i, j)
    | _ => (0, 0)
  | _ => (0, 0)
theorem rm_pair {K : PySem.W.Frag} {H : Hp} {v : V} {p : Int × Int} {f : FP} (r : RM K H v (pairM p) f) : ∃ t, v = .ref t ∧ H t = some (.tup [.int p.1, .int p.2]) ∧ kP H v = p := by
  cases r with
  | @tup a vs _ _ _ hq hr =>
    have e : vs = [.int p.1, .int p.2] := (rms_ints (ns := [p.1, p.2]) hr).1
    subst e
    exact ⟨a, rfl, hq.own, by show (match H a with | some (.tup [.int i, .int j]) => (i, j) | _ => (0, 0)) = p; rw [hq.own]⟩
theorem rms_pairs {K : PySem.W.Frag} {H : Hp} : ∀ {ps : List (Int × Int)} {vs : List V} {f : FP}, RMs K H vs (ps.map pairM) f → (∀ x ∈ vs, ∃ t, x = V.ref t ∧ H t = some (.tup [.int (kP H x).1, .int (kP H x).2])) ∧ vs.map (kP H) = ps
  | [], _, _, h => by cases h; exact ⟨fun _ z => by simp at z, rfl⟩
  | p :: ps, _, _, h => by
    cases h with
    | cons h1 h2 _ =>
      obtain ⟨t, rfl, ht, hk⟩ := rm_pair h1
      obtain ⟨q1, q2⟩ := rms_pairs h2
      refine ⟨fun x hx => ?_, by rw [List.map_cons, hk, q2]⟩
      rcases List.mem_cons.mp hx with e | hx
      · subst e; exact ⟨t, rfl, by rw [hk]; exact ht⟩
      · exact q1 x hx
theorem rms_of_pairs {K : PySem.W.Frag} {H : Hp} : ∀ {vs : List V}, (∀ x ∈ vs, ∃ t, x = V.ref t ∧ H t = some (.tup [.int (kP H x).1, .int (kP H x).2])) → RMs K H vs ((vs.map (kP H)).map pairM) fE
  | [], _ => .nil
  | v :: vs, h => by
    obtain ⟨t, e, ht⟩ := h v (List.mem_cons_self ..)
    have r := rms_of_pairs (K := K) (vs := vs) fun x hx => h x (List.mem_cons_of_mem _ hx)
    have r1 : RM K H v (pairM (kP H v)) fE := by
      have e2 : RM K H (.ref t) (pairM (kP H v)) fE := .tup (.inl ht) (rms_ints' [(kP H v).1, (kP H v).2])
      rw [← e] at e2; exact e2
    have := RMs.cons r1 r (dis_e _)
    rw [fUE] at this
    exact this
section
variable {X : Cx} {G : Gh} {T : List Tm} {e : Ev} {Q : Tm → Ev → Prop} {t : Tm}
theorem v_sortP {ps : List (Int × Int)} (hs : see e t = some (.lst (ps.map pairM))) (q : Q (.o (.lst ((sortP ps).map pairM))) e) : Xc X G (.builtin "sorted") T [t] e Q :=
  .of1 cr_sortedPO fun v tv σ H s => by
    obtain ⟨a, vs, rfl, hq, hr⟩ := see_lst s hs (pairs_imm ps)
    obtain ⟨h1, h2⟩ := rms_pairs hr
    refine ⟨a, vs, kP H, rfl, SqL.of hq, h1, fun ys p hsrt hstb hp => ?_⟩
    have h3 : ∀ x ∈ ys, ∃ t, x = V.ref t ∧ H t = some (.tup [.int (kP H x).1, .int (kP H x).2]) := fun x hx => h1 x (hstb.perm.mem_iff.mp hx)
    have e1 : ys.map (kP H) = sortP ps := by
      refine sortP_uniq (by rw [← h2]; exact hstb.perm.map _) ?_
      rw [List.pairwise_map]
      exact List.Pairwise.imp (fun {a b} h => leP_no h) hsrt
    have r := rms_of_pairs (K := X.K) h3
    rw [e1] at r
    exact ⟨_, e, s.pop.newLst0 r hp, q⟩
end

/-! ### list.count, list.index of flat things -/
theorem mt_countF {X : Cx} : MtR X "list.count" (fun x xs H Q => ∃ (p : Addr) (ys : List V) (y : V), x = .ref p ∧ xs = [y] ∧ SqL X.K H p ys ∧ flatV y = true ∧ ys.all flatV = true ∧ Q (.int ((ys.countP fun z => eqV z y : Nat) : Int)) H) := by
  intro pins s σ H x xs v us Q I rx rxs h
  obtain ⟨p, ys, y, rfl, rfl, hs, fy, fys, q⟩ := h
  cases rx
  obtain ⟨u, rfl, ru⟩ := rxs.one
  obtain ⟨its, rv, ⟨⟨cls, dd, data, sl⟩, n, ho, hc, hdn, hd⟩, hlen⟩ := I.list hs
  simp only at hc hd
  subst hc hd
  refine call_meets PySem.F.slot_list_count ⟨_, ho, rfl⟩ PySem.F.entry_list_count (PySem.F.args_list_count_2 _ _)
    (SeqAt.list_countAt p its.toArray n dd sl u (eqU y)) ⟨ho, fun z hz => mem_eqAt ru fy rv fys z (by simpa using hz), ?_⟩
  have ec : ∀ {zs : List V} {ws : List Value}, Vals zs ws → zs.all flatV = true → ws.countP (eqU y) = zs.countP fun z => eqV z y := by
    intro zs
    induction zs with
    | nil => intro ws r _; cases r; rfl
    | cons z zs ih =>
      intro ws r f
      cases r with
      | cons r1 r2 =>
        rw [List.all_cons, Bool.and_eq_true] at f
        rw [List.countP_cons, List.countP_cons, ih r2 f.2, eqU_of r1 f.1]
  refine ⟨.int _, H, I.tok _, ⟨s.toks, ?_⟩, q⟩
  show Value.int ((its.toArray.toList.countP (eqU y) : Nat) : Int) s.toks = _
  rw [show its.toArray.toList = its from rfl, ec rv fys]
section
variable {X : Cx} {G : Gh} {T : List Tm} {e : Ev} {Q : Tm → Ev → Prop} {to : Tm}
theorem flat_bls (bs : List Bool) : (bs.map V.bl).all flatV = true := by simp [flatV]
theorem count_bl (b : Bool) : ∀ bs : List Bool, (bs.map V.bl).countP (fun z => eqV z (.bl b)) = bs.count b
  | [] => rfl
  | c :: bs => by
    rw [List.map_cons, List.countP_cons, List.count_cons, count_bl b bs]
    rfl
theorem m_countB {bs : List Bool} {b : Bool} (hs : see e to = some (.lst (bs.map M.bl))) (q : Q (.o (.int ((bs.count b : Nat) : Int))) e) : Xm X G "list.count" T to [.o (.bl b)] e Q :=
  .of1 mt_countF fun vo v tv σ H s => by
    obtain ⟨rfl, s1⟩ := s.b1
    obtain ⟨f, r⟩ := s1.see hs
    cases r with
    | @lst p vs _ _ hq hr _ =>
      obtain ⟨rfl, _⟩ := rms_bls hr
      refine ⟨p, _, _, rfl, rfl, SqL.of hq, rfl, flat_bls bs, ?_⟩
      rw [count_bl]
      exact ⟨_, e, s1.pop.push (.int _), q⟩
theorem m_indexB {bs : List Bool} {b : Bool} {j : Nat} (hs : see e to = some (.lst (bs.map M.bl))) (hj : bs[j]? = some b) (hno : (bs.take j).all (fun c => c != b) = true) (q : Q (.o (.int (j : Nat))) e) : Xm X G "list.index" T to [.o (.bl b)] e Q :=
  .of1 mt_index fun vo v tv σ H s => by
    obtain ⟨rfl, s1⟩ := s.b1
    obtain ⟨f, r⟩ := s1.see hs
    cases r with
    | @lst p vs _ _ hq hr _ =>
      obtain ⟨rfl, _⟩ := rms_bls hr
      refine ⟨p, _, .bl b, j, .bl b, rfl, rfl, SqL.of hq, rfl, flat_bls bs, by rw [List.getElem?_map, hj]; rfl, (by show (b == b) = true; exact beq_self_eq_true b), fun m z' hm hz => ?_, _, e, s1.pop.push (.int _), q⟩
      rw [List.getElem?_map] at hz
      obtain ⟨c, hc, rfl⟩ := Option.map_eq_some_iff.mp hz
      have h1 := List.all_eq_true.mp hno c (List.mem_of_getElem? (i := m) (by rw [List.getElem?_take, if_pos hm]; exact hc))
      show (c == b) = false
      simpa using h1
end
end SY
namespace SY
open PySem L2
theorem own_bind {e e2 : Ev} {t : Tm} {m : M} {β : Type} {f : M × Ev → Option β} (h : own e t = some (m, e2)) : (own e t).bind f = f (m, e2) := by rw [h]; rfl

theorem kAs_0 {e0 : Ev} {Q : List M → Ev → Prop} (q : Q [] e0) : kAs Q [] e0 :=
  ⟨[], e0, by
    show takesR e0 [] = some ([], e0)
    unfold takesR
    rfl, q⟩
theorem kAs_1 {e0 e1 : Ev} {t1 : Tm} {m1 : M} {Q : List M → Ev → Prop} (h1 : own e0 t1 = some (m1, e1)) (q : Q [m1] e1) : kAs Q [t1] e0 :=
  ⟨[m1], e1, by
    show takesR e0 [t1] = some ([m1], e1)
    unfold takesR
    simp only [own_bind h1]; unfold takesR; rfl, q⟩
theorem kAs_2 {e0 e1 e2 : Ev} {t1 t2 : Tm} {m1 m2 : M} {Q : List M → Ev → Prop} (h2 : own e0 t2 = some (m2, e1)) (h1 : own e1 t1 = some (m1, e2)) (q : Q [m1, m2] e2) : kAs Q [t1, t2] e0 :=
  ⟨[m1, m2], e2, by
    show takesR e0 [t2, t1] = some ([m2, m1], e2)
    unfold takesR
    simp only [own_bind h2]; unfold takesR; simp only [own_bind h1]; unfold takesR; rfl, q⟩
theorem kAs_3 {e0 e1 e2 e3 : Ev} {t1 t2 t3 : Tm} {m1 m2 m3 : M} {Q : List M → Ev → Prop} (h3 : own e0 t3 = some (m3, e1)) (h2 : own e1 t2 = some (m2, e2)) (h1 : own e2 t1 = some (m1, e3)) (q : Q [m1, m2, m3] e3) : kAs Q [t1, t2, t3] e0 :=
  ⟨[m1, m2, m3], e3, by
    show takesR e0 [t3, t2, t1] = some ([m3, m2, m1], e3)
    unfold takesR
    simp only [own_bind h3]; unfold takesR; simp only [own_bind h2]; unfold takesR; simp only [own_bind h1]; unfold takesR; rfl, q⟩
theorem kAs_4 {e0 e1 e2 e3 e4 : Ev} {t1 t2 t3 t4 : Tm} {m1 m2 m3 m4 : M} {Q : List M → Ev → Prop} (h4 : own e0 t4 = some (m4, e1)) (h3 : own e1 t3 = some (m3, e2)) (h2 : own e2 t2 = some (m2, e3)) (h1 : own e3 t1 = some (m1, e4)) (q : Q [m1, m2, m3, m4] e4) : kAs Q [t1, t2, t3, t4] e0 :=
  ⟨[m1, m2, m3, m4], e4, by
    show takesR e0 [t4, t3, t2, t1] = some ([m4, m3, m2, m1], e4)
    unfold takesR
    simp only [own_bind h4]; unfold takesR; simp only [own_bind h3]; unfold takesR; simp only [own_bind h2]; unfold takesR; simp only [own_bind h1]; unfold takesR; rfl, q⟩
theorem kAs_5 {e0 e1 e2 e3 e4 e5 : Ev} {t1 t2 t3 t4 t5 : Tm} {m1 m2 m3 m4 m5 : M} {Q : List M → Ev → Prop} (h5 : own e0 t5 = some (m5, e1)) (h4 : own e1 t4 = some (m4, e2)) (h3 : own e2 t3 = some (m3, e3)) (h2 : own e3 t2 = some (m2, e4)) (h1 : own e4 t1 = some (m1, e5)) (q : Q [m1, m2, m3, m4, m5] e5) : kAs Q [t1, t2, t3, t4, t5] e0 :=
  ⟨[m1, m2, m3, m4, m5], e5, by
    show takesR e0 [t5, t4, t3, t2, t1] = some ([m5, m4, m3, m2, m1], e5)
    unfold takesR
    simp only [own_bind h5]; unfold takesR; simp only [own_bind h4]; unfold takesR; simp only [own_bind h3]; unfold takesR; simp only [own_bind h2]; unfold takesR; simp only [own_bind h1]; unfold takesR; rfl, q⟩
theorem kAs_6 {e0 e1 e2 e3 e4 e5 e6 : Ev} {t1 t2 t3 t4 t5 t6 : Tm} {m1 m2 m3 m4 m5 m6 : M} {Q : List M → Ev → Prop} (h6 : own e0 t6 = some (m6, e1)) (h5 : own e1 t5 = some (m5, e2)) (h4 : own e2 t4 = some (m4, e3)) (h3 : own e3 t3 = some (m3, e4)) (h2 : own e4 t2 = some (m2, e5)) (h1 : own e5 t1 = some (m1, e6)) (q : Q [m1, m2, m3, m4, m5, m6] e6) : kAs Q [t1, t2, t3, t4, t5, t6] e0 :=
  ⟨[m1, m2, m3, m4, m5, m6], e6, by
    show takesR e0 [t6, t5, t4, t3, t2, t1] = some ([m6, m5, m4, m3, m2, m1], e6)
    unfold takesR
    simp only [own_bind h6]; unfold takesR; simp only [own_bind h5]; unfold takesR; simp only [own_bind h4]; unfold takesR; simp only [own_bind h3]; unfold takesR; simp only [own_bind h2]; unfold takesR; simp only [own_bind h1]; unfold takesR; rfl, q⟩
theorem kAs_7 {e0 e1 e2 e3 e4 e5 e6 e7 : Ev} {t1 t2 t3 t4 t5 t6 t7 : Tm} {m1 m2 m3 m4 m5 m6 m7 : M} {Q : List M → Ev → Prop} (h7 : own e0 t7 = some (m7, e1)) (h6 : own e1 t6 = some (m6, e2)) (h5 : own e2 t5 = some (m5, e3)) (h4 : own e3 t4 = some (m4, e4)) (h3 : own e4 t3 = some (m3, e5)) (h2 : own e5 t2 = some (m2, e6)) (h1 : own e6 t1 = some (m1, e7)) (q : Q [m1, m2, m3, m4, m5, m6, m7] e7) : kAs Q [t1, t2, t3, t4, t5, t6, t7] e0 :=
  ⟨[m1, m2, m3, m4, m5, m6, m7], e7, by
    show takesR e0 [t7, t6, t5, t4, t3, t2, t1] = some ([m7, m6, m5, m4, m3, m2, m1], e7)
    unfold takesR
    simp only [own_bind h7]; unfold takesR; simp only [own_bind h6]; unfold takesR; simp only [own_bind h5]; unfold takesR; simp only [own_bind h4]; unfold takesR; simp only [own_bind h3]; unfold takesR; simp only [own_bind h2]; unfold takesR; simp only [own_bind h1]; unfold takesR; rfl, q⟩
theorem kAs_8 {e0 e1 e2 e3 e4 e5 e6 e7 e8 : Ev} {t1 t2 t3 t4 t5 t6 t7 t8 : Tm} {m1 m2 m3 m4 m5 m6 m7 m8 : M} {Q : List M → Ev → Prop} (h8 : own e0 t8 = some (m8, e1)) (h7 : own e1 t7 = some (m7, e2)) (h6 : own e2 t6 = some (m6, e3)) (h5 : own e3 t5 = some (m5, e4)) (h4 : own e4 t4 = some (m4, e5)) (h3 : own e5 t3 = some (m3, e6)) (h2 : own e6 t2 = some (m2, e7)) (h1 : own e7 t1 = some (m1, e8)) (q : Q [m1, m2, m3, m4, m5, m6, m7, m8] e8) : kAs Q [t1, t2, t3, t4, t5, t6, t7, t8] e0 :=
  ⟨[m1, m2, m3, m4, m5, m6, m7, m8], e8, by
    show takesR e0 [t8, t7, t6, t5, t4, t3, t2, t1] = some ([m8, m7, m6, m5, m4, m3, m2, m1], e8)
    unfold takesR
    simp only [own_bind h8]; unfold takesR; simp only [own_bind h7]; unfold takesR; simp only [own_bind h6]; unfold takesR; simp only [own_bind h5]; unfold takesR; simp only [own_bind h4]; unfold takesR; simp only [own_bind h3]; unfold takesR; simp only [own_bind h2]; unfold takesR; simp only [own_bind h1]; unfold takesR; rfl, q⟩
theorem kAs_9 {e0 e1 e2 e3 e4 e5 e6 e7 e8 e9 : Ev} {t1 t2 t3 t4 t5 t6 t7 t8 t9 : Tm} {m1 m2 m3 m4 m5 m6 m7 m8 m9 : M} {Q : List M → Ev → Prop} (h9 : own e0 t9 = some (m9, e1)) (h8 : own e1 t8 = some (m8, e2)) (h7 : own e2 t7 = some (m7, e3)) (h6 : own e3 t6 = some (m6, e4)) (h5 : own e4 t5 = some (m5, e5)) (h4 : own e5 t4 = some (m4, e6)) (h3 : own e6 t3 = some (m3, e7)) (h2 : own e7 t2 = some (m2, e8)) (h1 : own e8 t1 = some (m1, e9)) (q : Q [m1, m2, m3, m4, m5, m6, m7, m8, m9] e9) : kAs Q [t1, t2, t3, t4, t5, t6, t7, t8, t9] e0 :=
  ⟨[m1, m2, m3, m4, m5, m6, m7, m8, m9], e9, by
    show takesR e0 [t9, t8, t7, t6, t5, t4, t3, t2, t1] = some ([m9, m8, m7, m6, m5, m4, m3, m2, m1], e9)
    unfold takesR
    simp only [own_bind h9]; unfold takesR; simp only [own_bind h8]; unfold takesR; simp only [own_bind h7]; unfold takesR; simp only [own_bind h6]; unfold takesR; simp only [own_bind h5]; unfold takesR; simp only [own_bind h4]; unfold takesR; simp only [own_bind h3]; unfold takesR; simp only [own_bind h2]; unfold takesR; simp only [own_bind h1]; unfold takesR; rfl, q⟩
theorem kAs_10 {e0 e1 e2 e3 e4 e5 e6 e7 e8 e9 e10 : Ev} {t1 t2 t3 t4 t5 t6 t7 t8 t9 t10 : Tm} {m1 m2 m3 m4 m5 m6 m7 m8 m9 m10 : M} {Q : List M → Ev → Prop} (h10 : own e0 t10 = some (m10, e1)) (h9 : own e1 t9 = some (m9, e2)) (h8 : own e2 t8 = some (m8, e3)) (h7 : own e3 t7 = some (m7, e4)) (h6 : own e4 t6 = some (m6, e5)) (h5 : own e5 t5 = some (m5, e6)) (h4 : own e6 t4 = some (m4, e7)) (h3 : own e7 t3 = some (m3, e8)) (h2 : own e8 t2 = some (m2, e9)) (h1 : own e9 t1 = some (m1, e10)) (q : Q [m1, m2, m3, m4, m5, m6, m7, m8, m9, m10] e10) : kAs Q [t1, t2, t3, t4, t5, t6, t7, t8, t9, t10] e0 :=
  ⟨[m1, m2, m3, m4, m5, m6, m7, m8, m9, m10], e10, by
    show takesR e0 [t10, t9, t8, t7, t6, t5, t4, t3, t2, t1] = some ([m10, m9, m8, m7, m6, m5, m4, m3, m2, m1], e10)
    unfold takesR
    simp only [own_bind h10]; unfold takesR; simp only [own_bind h9]; unfold takesR; simp only [own_bind h8]; unfold takesR; simp only [own_bind h7]; unfold takesR; simp only [own_bind h6]; unfold takesR; simp only [own_bind h5]; unfold takesR; simp only [own_bind h4]; unfold takesR; simp only [own_bind h3]; unfold takesR; simp only [own_bind h2]; unfold takesR; simp only [own_bind h1]; unfold takesR; rfl, q⟩
theorem kAs_11 {e0 e1 e2 e3 e4 e5 e6 e7 e8 e9 e10 e11 : Ev} {t1 t2 t3 t4 t5 t6 t7 t8 t9 t10 t11 : Tm} {m1 m2 m3 m4 m5 m6 m7 m8 m9 m10 m11 : M} {Q : List M → Ev → Prop} (h11 : own e0 t11 = some (m11, e1)) (h10 : own e1 t10 = some (m10, e2)) (h9 : own e2 t9 = some (m9, e3)) (h8 : own e3 t8 = some (m8, e4)) (h7 : own e4 t7 = some (m7, e5)) (h6 : own e5 t6 = some (m6, e6)) (h5 : own e6 t5 = some (m5, e7)) (h4 : own e7 t4 = some (m4, e8)) (h3 : own e8 t3 = some (m3, e9)) (h2 : own e9 t2 = some (m2, e10)) (h1 : own e10 t1 = some (m1, e11)) (q : Q [m1, m2, m3, m4, m5, m6, m7, m8, m9, m10, m11] e11) : kAs Q [t1, t2, t3, t4, t5, t6, t7, t8, t9, t10, t11] e0 :=
  ⟨[m1, m2, m3, m4, m5, m6, m7, m8, m9, m10, m11], e11, by
    show takesR e0 [t11, t10, t9, t8, t7, t6, t5, t4, t3, t2, t1] = some ([m11, m10, m9, m8, m7, m6, m5, m4, m3, m2, m1], e11)
    unfold takesR
    simp only [own_bind h11]; unfold takesR; simp only [own_bind h10]; unfold takesR; simp only [own_bind h9]; unfold takesR; simp only [own_bind h8]; unfold takesR; simp only [own_bind h7]; unfold takesR; simp only [own_bind h6]; unfold takesR; simp only [own_bind h5]; unfold takesR; simp only [own_bind h4]; unfold takesR; simp only [own_bind h3]; unfold takesR; simp only [own_bind h2]; unfold takesR; simp only [own_bind h1]; unfold takesR; rfl, q⟩
theorem kAs_12 {e0 e1 e2 e3 e4 e5 e6 e7 e8 e9 e10 e11 e12 : Ev} {t1 t2 t3 t4 t5 t6 t7 t8 t9 t10 t11 t12 : Tm} {m1 m2 m3 m4 m5 m6 m7 m8 m9 m10 m11 m12 : M} {Q : List M → Ev → Prop} (h12 : own e0 t12 = some (m12, e1)) (h11 : own e1 t11 = some (m11, e2)) (h10 : own e2 t10 = some (m10, e3)) (h9 : own e3 t9 = some (m9, e4)) (h8 : own e4 t8 = some (m8, e5)) (h7 : own e5 t7 = some (m7, e6)) (h6 : own e6 t6 = some (m6, e7)) (h5 : own e7 t5 = some (m5, e8)) (h4 : own e8 t4 = some (m4, e9)) (h3 : own e9 t3 = some (m3, e10)) (h2 : own e10 t2 = some (m2, e11)) (h1 : own e11 t1 = some (m1, e12)) (q : Q [m1, m2, m3, m4, m5, m6, m7, m8, m9, m10, m11, m12] e12) : kAs Q [t1, t2, t3, t4, t5, t6, t7, t8, t9, t10, t11, t12] e0 :=
  ⟨[m1, m2, m3, m4, m5, m6, m7, m8, m9, m10, m11, m12], e12, by
    show takesR e0 [t12, t11, t10, t9, t8, t7, t6, t5, t4, t3, t2, t1] = some ([m12, m11, m10, m9, m8, m7, m6, m5, m4, m3, m2, m1], e12)
    unfold takesR
    simp only [own_bind h12]; unfold takesR; simp only [own_bind h11]; unfold takesR; simp only [own_bind h10]; unfold takesR; simp only [own_bind h9]; unfold takesR; simp only [own_bind h8]; unfold takesR; simp only [own_bind h7]; unfold takesR; simp only [own_bind h6]; unfold takesR; simp only [own_bind h5]; unfold takesR; simp only [own_bind h4]; unfold takesR; simp only [own_bind h3]; unfold takesR; simp only [own_bind h2]; unfold takesR; simp only [own_bind h1]; unfold takesR; rfl, q⟩
theorem kAs_13 {e0 e1 e2 e3 e4 e5 e6 e7 e8 e9 e10 e11 e12 e13 : Ev} {t1 t2 t3 t4 t5 t6 t7 t8 t9 t10 t11 t12 t13 : Tm} {m1 m2 m3 m4 m5 m6 m7 m8 m9 m10 m11 m12 m13 : M} {Q : List M → Ev → Prop} (h13 : own e0 t13 = some (m13, e1)) (h12 : own e1 t12 = some (m12, e2)) (h11 : own e2 t11 = some (m11, e3)) (h10 : own e3 t10 = some (m10, e4)) (h9 : own e4 t9 = some (m9, e5)) (h8 : own e5 t8 = some (m8, e6)) (h7 : own e6 t7 = some (m7, e7)) (h6 : own e7 t6 = some (m6, e8)) (h5 : own e8 t5 = some (m5, e9)) (h4 : own e9 t4 = some (m4, e10)) (h3 : own e10 t3 = some (m3, e11)) (h2 : own e11 t2 = some (m2, e12)) (h1 : own e12 t1 = some (m1, e13)) (q : Q [m1, m2, m3, m4, m5, m6, m7, m8, m9, m10, m11, m12, m13] e13) : kAs Q [t1, t2, t3, t4, t5, t6, t7, t8, t9, t10, t11, t12, t13] e0 :=
  ⟨[m1, m2, m3, m4, m5, m6, m7, m8, m9, m10, m11, m12, m13], e13, by
    show takesR e0 [t13, t12, t11, t10, t9, t8, t7, t6, t5, t4, t3, t2, t1] = some ([m13, m12, m11, m10, m9, m8, m7, m6, m5, m4, m3, m2, m1], e13)
    unfold takesR
    simp only [own_bind h13]; unfold takesR; simp only [own_bind h12]; unfold takesR; simp only [own_bind h11]; unfold takesR; simp only [own_bind h10]; unfold takesR; simp only [own_bind h9]; unfold takesR; simp only [own_bind h8]; unfold takesR; simp only [own_bind h7]; unfold takesR; simp only [own_bind h6]; unfold takesR; simp only [own_bind h5]; unfold takesR; simp only [own_bind h4]; unfold takesR; simp only [own_bind h3]; unfold takesR; simp only [own_bind h2]; unfold takesR; simp only [own_bind h1]; unfold takesR; rfl, q⟩
theorem kAs_14 {e0 e1 e2 e3 e4 e5 e6 e7 e8 e9 e10 e11 e12 e13 e14 : Ev} {t1 t2 t3 t4 t5 t6 t7 t8 t9 t10 t11 t12 t13 t14 : Tm} {m1 m2 m3 m4 m5 m6 m7 m8 m9 m10 m11 m12 m13 m14 : M} {Q : List M → Ev → Prop} (h14 : own e0 t14 = some (m14, e1)) (h13 : own e1 t13 = some (m13, e2)) (h12 : own e2 t12 = some (m12, e3)) (h11 : own e3 t11 = some (m11, e4)) (h10 : own e4 t10 = some (m10, e5)) (h9 : own e5 t9 = some (m9, e6)) (h8 : own e6 t8 = some (m8, e7)) (h7 : own e7 t7 = some (m7, e8)) (h6 : own e8 t6 = some (m6, e9)) (h5 : own e9 t5 = some (m5, e10)) (h4 : own e10 t4 = some (m4, e11)) (h3 : own e11 t3 = some (m3, e12)) (h2 : own e12 t2 = some (m2, e13)) (h1 : own e13 t1 = some (m1, e14)) (q : Q [m1, m2, m3, m4, m5, m6, m7, m8, m9, m10, m11, m12, m13, m14] e14) : kAs Q [t1, t2, t3, t4, t5, t6, t7, t8, t9, t10, t11, t12, t13, t14] e0 :=
  ⟨[m1, m2, m3, m4, m5, m6, m7, m8, m9, m10, m11, m12, m13, m14], e14, by
    show takesR e0 [t14, t13, t12, t11, t10, t9, t8, t7, t6, t5, t4, t3, t2, t1] = some ([m14, m13, m12, m11, m10, m9, m8, m7, m6, m5, m4, m3, m2, m1], e14)
    unfold takesR
    simp only [own_bind h14]; unfold takesR; simp only [own_bind h13]; unfold takesR; simp only [own_bind h12]; unfold takesR; simp only [own_bind h11]; unfold takesR; simp only [own_bind h10]; unfold takesR; simp only [own_bind h9]; unfold takesR; simp only [own_bind h8]; unfold takesR; simp only [own_bind h7]; unfold takesR; simp only [own_bind h6]; unfold takesR; simp only [own_bind h5]; unfold takesR; simp only [own_bind h4]; unfold takesR; simp only [own_bind h3]; unfold takesR; simp only [own_bind h2]; unfold takesR; simp only [own_bind h1]; unfold takesR; rfl, q⟩
theorem kAs_15 {e0 e1 e2 e3 e4 e5 e6 e7 e8 e9 e10 e11 e12 e13 e14 e15 : Ev} {t1 t2 t3 t4 t5 t6 t7 t8 t9 t10 t11 t12 t13 t14 t15 : Tm} {m1 m2 m3 m4 m5 m6 m7 m8 m9 m10 m11 m12 m13 m14 m15 : M} {Q : List M → Ev → Prop} (h15 : own e0 t15 = some (m15, e1)) (h14 : own e1 t14 = some (m14, e2)) (h13 : own e2 t13 = some (m13, e3)) (h12 : own e3 t12 = some (m12, e4)) (h11 : own e4 t11 = some (m11, e5)) (h10 : own e5 t10 = some (m10, e6)) (h9 : own e6 t9 = some (m9, e7)) (h8 : own e7 t8 = some (m8, e8)) (h7 : own e8 t7 = some (m7, e9)) (h6 : own e9 t6 = some (m6, e10)) (h5 : own e10 t5 = some (m5, e11)) (h4 : own e11 t4 = some (m4, e12)) (h3 : own e12 t3 = some (m3, e13)) (h2 : own e13 t2 = some (m2, e14)) (h1 : own e14 t1 = some (m1, e15)) (q : Q [m1, m2, m3, m4, m5, m6, m7, m8, m9, m10, m11, m12, m13, m14, m15] e15) : kAs Q [t1, t2, t3, t4, t5, t6, t7, t8, t9, t10, t11, t12, t13, t14, t15] e0 :=
  ⟨[m1, m2, m3, m4, m5, m6, m7, m8, m9, m10, m11, m12, m13, m14, m15], e15, by
    show takesR e0 [t15, t14, t13, t12, t11, t10, t9, t8, t7, t6, t5, t4, t3, t2, t1] = some ([m15, m14, m13, m12, m11, m10, m9, m8, m7, m6, m5, m4, m3, m2, m1], e15)
    unfold takesR
    simp only [own_bind h15]; unfold takesR; simp only [own_bind h14]; unfold takesR; simp only [own_bind h13]; unfold takesR; simp only [own_bind h12]; unfold takesR; simp only [own_bind h11]; unfold takesR; simp only [own_bind h10]; unfold takesR; simp only [own_bind h9]; unfold takesR; simp only [own_bind h8]; unfold takesR; simp only [own_bind h7]; unfold takesR; simp only [own_bind h6]; unfold takesR; simp only [own_bind h5]; unfold takesR; simp only [own_bind h4]; unfold takesR; simp only [own_bind h3]; unfold takesR; simp only [own_bind h2]; unfold takesR; simp only [own_bind h1]; unfold takesR; rfl, q⟩
theorem kAs_16 {e0 e1 e2 e3 e4 e5 e6 e7 e8 e9 e10 e11 e12 e13 e14 e15 e16 : Ev} {t1 t2 t3 t4 t5 t6 t7 t8 t9 t10 t11 t12 t13 t14 t15 t16 : Tm} {m1 m2 m3 m4 m5 m6 m7 m8 m9 m10 m11 m12 m13 m14 m15 m16 : M} {Q : List M → Ev → Prop} (h16 : own e0 t16 = some (m16, e1)) (h15 : own e1 t15 = some (m15, e2)) (h14 : own e2 t14 = some (m14, e3)) (h13 : own e3 t13 = some (m13, e4)) (h12 : own e4 t12 = some (m12, e5)) (h11 : own e5 t11 = some (m11, e6)) (h10 : own e6 t10 = some (m10, e7)) (h9 : own e7 t9 = some (m9, e8)) (h8 : own e8 t8 = some (m8, e9)) (h7 : own e9 t7 = some (m7, e10)) (h6 : own e10 t6 = some (m6, e11)) (h5 : own e11 t5 = some (m5, e12)) (h4 : own e12 t4 = some (m4, e13)) (h3 : own e13 t3 = some (m3, e14)) (h2 : own e14 t2 = some (m2, e15)) (h1 : own e15 t1 = some (m1, e16)) (q : Q [m1, m2, m3, m4, m5, m6, m7, m8, m9, m10, m11, m12, m13, m14, m15, m16] e16) : kAs Q [t1, t2, t3, t4, t5, t6, t7, t8, t9, t10, t11, t12, t13, t14, t15, t16] e0 :=
  ⟨[m1, m2, m3, m4, m5, m6, m7, m8, m9, m10, m11, m12, m13, m14, m15, m16], e16, by
    show takesR e0 [t16, t15, t14, t13, t12, t11, t10, t9, t8, t7, t6, t5, t4, t3, t2, t1] = some ([m16, m15, m14, m13, m12, m11, m10, m9, m8, m7, m6, m5, m4, m3, m2, m1], e16)
    unfold takesR
    simp only [own_bind h16]; unfold takesR; simp only [own_bind h15]; unfold takesR; simp only [own_bind h14]; unfold takesR; simp only [own_bind h13]; unfold takesR; simp only [own_bind h12]; unfold takesR; simp only [own_bind h11]; unfold takesR; simp only [own_bind h10]; unfold takesR; simp only [own_bind h9]; unfold takesR; simp only [own_bind h8]; unfold takesR; simp only [own_bind h7]; unfold takesR; simp only [own_bind h6]; unfold takesR; simp only [own_bind h5]; unfold takesR; simp only [own_bind h4]; unfold takesR; simp only [own_bind h3]; unfold takesR; simp only [own_bind h2]; unfold takesR; simp only [own_bind h1]; unfold takesR; rfl, q⟩
theorem kAz_0 {e0 : Ev} {Q : List M → Ev → Prop} (q : Q [] e0) : kAs (fun ms e => ms.length ≤ sizeLine ∧ Q ms e) [] e0 :=
  kAs_0  ⟨by rw [PySem.sizeLine_eq]; simp, q⟩
theorem kAz_1 {e0 e1 : Ev} {t1 : Tm} {m1 : M} {Q : List M → Ev → Prop} (h1 : own e0 t1 = some (m1, e1)) (q : Q [m1] e1) : kAs (fun ms e => ms.length ≤ sizeLine ∧ Q ms e) [t1] e0 :=
  kAs_1 h1 ⟨by rw [PySem.sizeLine_eq]; simp, q⟩
theorem kAz_2 {e0 e1 e2 : Ev} {t1 t2 : Tm} {m1 m2 : M} {Q : List M → Ev → Prop} (h2 : own e0 t2 = some (m2, e1)) (h1 : own e1 t1 = some (m1, e2)) (q : Q [m1, m2] e2) : kAs (fun ms e => ms.length ≤ sizeLine ∧ Q ms e) [t1, t2] e0 :=
  kAs_2 h2 h1 ⟨by rw [PySem.sizeLine_eq]; simp, q⟩
theorem kAz_3 {e0 e1 e2 e3 : Ev} {t1 t2 t3 : Tm} {m1 m2 m3 : M} {Q : List M → Ev → Prop} (h3 : own e0 t3 = some (m3, e1)) (h2 : own e1 t2 = some (m2, e2)) (h1 : own e2 t1 = some (m1, e3)) (q : Q [m1, m2, m3] e3) : kAs (fun ms e => ms.length ≤ sizeLine ∧ Q ms e) [t1, t2, t3] e0 :=
  kAs_3 h3 h2 h1 ⟨by rw [PySem.sizeLine_eq]; simp, q⟩
theorem kAz_4 {e0 e1 e2 e3 e4 : Ev} {t1 t2 t3 t4 : Tm} {m1 m2 m3 m4 : M} {Q : List M → Ev → Prop} (h4 : own e0 t4 = some (m4, e1)) (h3 : own e1 t3 = some (m3, e2)) (h2 : own e2 t2 = some (m2, e3)) (h1 : own e3 t1 = some (m1, e4)) (q : Q [m1, m2, m3, m4] e4) : kAs (fun ms e => ms.length ≤ sizeLine ∧ Q ms e) [t1, t2, t3, t4] e0 :=
  kAs_4 h4 h3 h2 h1 ⟨by rw [PySem.sizeLine_eq]; simp, q⟩
theorem kAz_5 {e0 e1 e2 e3 e4 e5 : Ev} {t1 t2 t3 t4 t5 : Tm} {m1 m2 m3 m4 m5 : M} {Q : List M → Ev → Prop} (h5 : own e0 t5 = some (m5, e1)) (h4 : own e1 t4 = some (m4, e2)) (h3 : own e2 t3 = some (m3, e3)) (h2 : own e3 t2 = some (m2, e4)) (h1 : own e4 t1 = some (m1, e5)) (q : Q [m1, m2, m3, m4, m5] e5) : kAs (fun ms e => ms.length ≤ sizeLine ∧ Q ms e) [t1, t2, t3, t4, t5] e0 :=
  kAs_5 h5 h4 h3 h2 h1 ⟨by rw [PySem.sizeLine_eq]; simp, q⟩
theorem kAz_6 {e0 e1 e2 e3 e4 e5 e6 : Ev} {t1 t2 t3 t4 t5 t6 : Tm} {m1 m2 m3 m4 m5 m6 : M} {Q : List M → Ev → Prop} (h6 : own e0 t6 = some (m6, e1)) (h5 : own e1 t5 = some (m5, e2)) (h4 : own e2 t4 = some (m4, e3)) (h3 : own e3 t3 = some (m3, e4)) (h2 : own e4 t2 = some (m2, e5)) (h1 : own e5 t1 = some (m1, e6)) (q : Q [m1, m2, m3, m4, m5, m6] e6) : kAs (fun ms e => ms.length ≤ sizeLine ∧ Q ms e) [t1, t2, t3, t4, t5, t6] e0 :=
  kAs_6 h6 h5 h4 h3 h2 h1 ⟨by rw [PySem.sizeLine_eq]; simp, q⟩
theorem kAz_7 {e0 e1 e2 e3 e4 e5 e6 e7 : Ev} {t1 t2 t3 t4 t5 t6 t7 : Tm} {m1 m2 m3 m4 m5 m6 m7 : M} {Q : List M → Ev → Prop} (h7 : own e0 t7 = some (m7, e1)) (h6 : own e1 t6 = some (m6, e2)) (h5 : own e2 t5 = some (m5, e3)) (h4 : own e3 t4 = some (m4, e4)) (h3 : own e4 t3 = some (m3, e5)) (h2 : own e5 t2 = some (m2, e6)) (h1 : own e6 t1 = some (m1, e7)) (q : Q [m1, m2, m3, m4, m5, m6, m7] e7) : kAs (fun ms e => ms.length ≤ sizeLine ∧ Q ms e) [t1, t2, t3, t4, t5, t6, t7] e0 :=
  kAs_7 h7 h6 h5 h4 h3 h2 h1 ⟨by rw [PySem.sizeLine_eq]; simp, q⟩
theorem kAz_8 {e0 e1 e2 e3 e4 e5 e6 e7 e8 : Ev} {t1 t2 t3 t4 t5 t6 t7 t8 : Tm} {m1 m2 m3 m4 m5 m6 m7 m8 : M} {Q : List M → Ev → Prop} (h8 : own e0 t8 = some (m8, e1)) (h7 : own e1 t7 = some (m7, e2)) (h6 : own e2 t6 = some (m6, e3)) (h5 : own e3 t5 = some (m5, e4)) (h4 : own e4 t4 = some (m4, e5)) (h3 : own e5 t3 = some (m3, e6)) (h2 : own e6 t2 = some (m2, e7)) (h1 : own e7 t1 = some (m1, e8)) (q : Q [m1, m2, m3, m4, m5, m6, m7, m8] e8) : kAs (fun ms e => ms.length ≤ sizeLine ∧ Q ms e) [t1, t2, t3, t4, t5, t6, t7, t8] e0 :=
  kAs_8 h8 h7 h6 h5 h4 h3 h2 h1 ⟨by rw [PySem.sizeLine_eq]; simp, q⟩
theorem kAz_9 {e0 e1 e2 e3 e4 e5 e6 e7 e8 e9 : Ev} {t1 t2 t3 t4 t5 t6 t7 t8 t9 : Tm} {m1 m2 m3 m4 m5 m6 m7 m8 m9 : M} {Q : List M → Ev → Prop} (h9 : own e0 t9 = some (m9, e1)) (h8 : own e1 t8 = some (m8, e2)) (h7 : own e2 t7 = some (m7, e3)) (h6 : own e3 t6 = some (m6, e4)) (h5 : own e4 t5 = some (m5, e5)) (h4 : own e5 t4 = some (m4, e6)) (h3 : own e6 t3 = some (m3, e7)) (h2 : own e7 t2 = some (m2, e8)) (h1 : own e8 t1 = some (m1, e9)) (q : Q [m1, m2, m3, m4, m5, m6, m7, m8, m9] e9) : kAs (fun ms e => ms.length ≤ sizeLine ∧ Q ms e) [t1, t2, t3, t4, t5, t6, t7, t8, t9] e0 :=
  kAs_9 h9 h8 h7 h6 h5 h4 h3 h2 h1 ⟨by rw [PySem.sizeLine_eq]; simp, q⟩
theorem kAz_10 {e0 e1 e2 e3 e4 e5 e6 e7 e8 e9 e10 : Ev} {t1 t2 t3 t4 t5 t6 t7 t8 t9 t10 : Tm} {m1 m2 m3 m4 m5 m6 m7 m8 m9 m10 : M} {Q : List M → Ev → Prop} (h10 : own e0 t10 = some (m10, e1)) (h9 : own e1 t9 = some (m9, e2)) (h8 : own e2 t8 = some (m8, e3)) (h7 : own e3 t7 = some (m7, e4)) (h6 : own e4 t6 = some (m6, e5)) (h5 : own e5 t5 = some (m5, e6)) (h4 : own e6 t4 = some (m4, e7)) (h3 : own e7 t3 = some (m3, e8)) (h2 : own e8 t2 = some (m2, e9)) (h1 : own e9 t1 = some (m1, e10)) (q : Q [m1, m2, m3, m4, m5, m6, m7, m8, m9, m10] e10) : kAs (fun ms e => ms.length ≤ sizeLine ∧ Q ms e) [t1, t2, t3, t4, t5, t6, t7, t8, t9, t10] e0 :=
  kAs_10 h10 h9 h8 h7 h6 h5 h4 h3 h2 h1 ⟨by rw [PySem.sizeLine_eq]; simp, q⟩
theorem kAz_11 {e0 e1 e2 e3 e4 e5 e6 e7 e8 e9 e10 e11 : Ev} {t1 t2 t3 t4 t5 t6 t7 t8 t9 t10 t11 : Tm} {m1 m2 m3 m4 m5 m6 m7 m8 m9 m10 m11 : M} {Q : List M → Ev → Prop} (h11 : own e0 t11 = some (m11, e1)) (h10 : own e1 t10 = some (m10, e2)) (h9 : own e2 t9 = some (m9, e3)) (h8 : own e3 t8 = some (m8, e4)) (h7 : own e4 t7 = some (m7, e5)) (h6 : own e5 t6 = some (m6, e6)) (h5 : own e6 t5 = some (m5, e7)) (h4 : own e7 t4 = some (m4, e8)) (h3 : own e8 t3 = some (m3, e9)) (h2 : own e9 t2 = some (m2, e10)) (h1 : own e10 t1 = some (m1, e11)) (q : Q [m1, m2, m3, m4, m5, m6, m7, m8, m9, m10, m11] e11) : kAs (fun ms e => ms.length ≤ sizeLine ∧ Q ms e) [t1, t2, t3, t4, t5, t6, t7, t8, t9, t10, t11] e0 :=
  kAs_11 h11 h10 h9 h8 h7 h6 h5 h4 h3 h2 h1 ⟨by rw [PySem.sizeLine_eq]; simp, q⟩
theorem kAz_12 {e0 e1 e2 e3 e4 e5 e6 e7 e8 e9 e10 e11 e12 : Ev} {t1 t2 t3 t4 t5 t6 t7 t8 t9 t10 t11 t12 : Tm} {m1 m2 m3 m4 m5 m6 m7 m8 m9 m10 m11 m12 : M} {Q : List M → Ev → Prop} (h12 : own e0 t12 = some (m12, e1)) (h11 : own e1 t11 = some (m11, e2)) (h10 : own e2 t10 = some (m10, e3)) (h9 : own e3 t9 = some (m9, e4)) (h8 : own e4 t8 = some (m8, e5)) (h7 : own e5 t7 = some (m7, e6)) (h6 : own e6 t6 = some (m6, e7)) (h5 : own e7 t5 = some (m5, e8)) (h4 : own e8 t4 = some (m4, e9)) (h3 : own e9 t3 = some (m3, e10)) (h2 : own e10 t2 = some (m2, e11)) (h1 : own e11 t1 = some (m1, e12)) (q : Q [m1, m2, m3, m4, m5, m6, m7, m8, m9, m10, m11, m12] e12) : kAs (fun ms e => ms.length ≤ sizeLine ∧ Q ms e) [t1, t2, t3, t4, t5, t6, t7, t8, t9, t10, t11, t12] e0 :=
  kAs_12 h12 h11 h10 h9 h8 h7 h6 h5 h4 h3 h2 h1 ⟨by rw [PySem.sizeLine_eq]; simp, q⟩
theorem kAz_13 {e0 e1 e2 e3 e4 e5 e6 e7 e8 e9 e10 e11 e12 e13 : Ev} {t1 t2 t3 t4 t5 t6 t7 t8 t9 t10 t11 t12 t13 : Tm} {m1 m2 m3 m4 m5 m6 m7 m8 m9 m10 m11 m12 m13 : M} {Q : List M → Ev → Prop} (h13 : own e0 t13 = some (m13, e1)) (h12 : own e1 t12 = some (m12, e2)) (h11 : own e2 t11 = some (m11, e3)) (h10 : own e3 t10 = some (m10, e4)) (h9 : own e4 t9 = some (m9, e5)) (h8 : own e5 t8 = some (m8, e6)) (h7 : own e6 t7 = some (m7, e7)) (h6 : own e7 t6 = some (m6, e8)) (h5 : own e8 t5 = some (m5, e9)) (h4 : own e9 t4 = some (m4, e10)) (h3 : own e10 t3 = some (m3, e11)) (h2 : own e11 t2 = some (m2, e12)) (h1 : own e12 t1 = some (m1, e13)) (q : Q [m1, m2, m3, m4, m5, m6, m7, m8, m9, m10, m11, m12, m13] e13) : kAs (fun ms e => ms.length ≤ sizeLine ∧ Q ms e) [t1, t2, t3, t4, t5, t6, t7, t8, t9, t10, t11, t12, t13] e0 :=
  kAs_13 h13 h12 h11 h10 h9 h8 h7 h6 h5 h4 h3 h2 h1 ⟨by rw [PySem.sizeLine_eq]; simp, q⟩
theorem kAz_14 {e0 e1 e2 e3 e4 e5 e6 e7 e8 e9 e10 e11 e12 e13 e14 : Ev} {t1 t2 t3 t4 t5 t6 t7 t8 t9 t10 t11 t12 t13 t14 : Tm} {m1 m2 m3 m4 m5 m6 m7 m8 m9 m10 m11 m12 m13 m14 : M} {Q : List M → Ev → Prop} (h14 : own e0 t14 = some (m14, e1)) (h13 : own e1 t13 = some (m13, e2)) (h12 : own e2 t12 = some (m12, e3)) (h11 : own e3 t11 = some (m11, e4)) (h10 : own e4 t10 = some (m10, e5)) (h9 : own e5 t9 = some (m9, e6)) (h8 : own e6 t8 = some (m8, e7)) (h7 : own e7 t7 = some (m7, e8)) (h6 : own e8 t6 = some (m6, e9)) (h5 : own e9 t5 = some (m5, e10)) (h4 : own e10 t4 = some (m4, e11)) (h3 : own e11 t3 = some (m3, e12)) (h2 : own e12 t2 = some (m2, e13)) (h1 : own e13 t1 = some (m1, e14)) (q : Q [m1, m2, m3, m4, m5, m6, m7, m8, m9, m10, m11, m12, m13, m14] e14) : kAs (fun ms e => ms.length ≤ sizeLine ∧ Q ms e) [t1, t2, t3, t4, t5, t6, t7, t8, t9, t10, t11, t12, t13, t14] e0 :=
  kAs_14 h14 h13 h12 h11 h10 h9 h8 h7 h6 h5 h4 h3 h2 h1 ⟨by rw [PySem.sizeLine_eq]; simp, q⟩
theorem kAz_15 {e0 e1 e2 e3 e4 e5 e6 e7 e8 e9 e10 e11 e12 e13 e14 e15 : Ev} {t1 t2 t3 t4 t5 t6 t7 t8 t9 t10 t11 t12 t13 t14 t15 : Tm} {m1 m2 m3 m4 m5 m6 m7 m8 m9 m10 m11 m12 m13 m14 m15 : M} {Q : List M → Ev → Prop} (h15 : own e0 t15 = some (m15, e1)) (h14 : own e1 t14 = some (m14, e2)) (h13 : own e2 t13 = some (m13, e3)) (h12 : own e3 t12 = some (m12, e4)) (h11 : own e4 t11 = some (m11, e5)) (h10 : own e5 t10 = some (m10, e6)) (h9 : own e6 t9 = some (m9, e7)) (h8 : own e7 t8 = some (m8, e8)) (h7 : own e8 t7 = some (m7, e9)) (h6 : own e9 t6 = some (m6, e10)) (h5 : own e10 t5 = some (m5, e11)) (h4 : own e11 t4 = some (m4, e12)) (h3 : own e12 t3 = some (m3, e13)) (h2 : own e13 t2 = some (m2, e14)) (h1 : own e14 t1 = some (m1, e15)) (q : Q [m1, m2, m3, m4, m5, m6, m7, m8, m9, m10, m11, m12, m13, m14, m15] e15) : kAs (fun ms e => ms.length ≤ sizeLine ∧ Q ms e) [t1, t2, t3, t4, t5, t6, t7, t8, t9, t10, t11, t12, t13, t14, t15] e0 :=
  kAs_15 h15 h14 h13 h12 h11 h10 h9 h8 h7 h6 h5 h4 h3 h2 h1 ⟨by rw [PySem.sizeLine_eq]; simp, q⟩
theorem kAz_16 {e0 e1 e2 e3 e4 e5 e6 e7 e8 e9 e10 e11 e12 e13 e14 e15 e16 : Ev} {t1 t2 t3 t4 t5 t6 t7 t8 t9 t10 t11 t12 t13 t14 t15 t16 : Tm} {m1 m2 m3 m4 m5 m6 m7 m8 m9 m10 m11 m12 m13 m14 m15 m16 : M} {Q : List M → Ev → Prop} (h16 : own e0 t16 = some (m16, e1)) (h15 : own e1 t15 = some (m15, e2)) (h14 : own e2 t14 = some (m14, e3)) (h13 : own e3 t13 = some (m13, e4)) (h12 : own e4 t12 = some (m12, e5)) (h11 : own e5 t11 = some (m11, e6)) (h10 : own e6 t10 = some (m10, e7)) (h9 : own e7 t9 = some (m9, e8)) (h8 : own e8 t8 = some (m8, e9)) (h7 : own e9 t7 = some (m7, e10)) (h6 : own e10 t6 = some (m6, e11)) (h5 : own e11 t5 = some (m5, e12)) (h4 : own e12 t4 = some (m4, e13)) (h3 : own e13 t3 = some (m3, e14)) (h2 : own e14 t2 = some (m2, e15)) (h1 : own e15 t1 = some (m1, e16)) (q : Q [m1, m2, m3, m4, m5, m6, m7, m8, m9, m10, m11, m12, m13, m14, m15, m16] e16) : kAs (fun ms e => ms.length ≤ sizeLine ∧ Q ms e) [t1, t2, t3, t4, t5, t6, t7, t8, t9, t10, t11, t12, t13, t14, t15, t16] e0 :=
  kAs_16 h16 h15 h14 h13 h12 h11 h10 h9 h8 h7 h6 h5 h4 h3 h2 h1 ⟨by rw [PySem.sizeLine_eq]; simp, q⟩
theorem cal_1 {e0 e1 : Ev} {t1 : Tm} {m1 : M} {Q : Tm → Ev → Prop} {FS : MSp} {Em : Addr → List (Str × M) → Ev → Prop} (h1 : own e0 t1 = some (m1, e1)) (q : FS [m1] (fun ms' m => ∃ eo, putsR e0 e1 [t1] ms'.reverse = some eo ∧ Q (.o m) eo) (fun C fs => Em C fs e1)) : ∃ ms e', takesR e0 [t1].reverse = some (ms.reverse, e') ∧ FS ms (fun ms' m => ∃ eo, putsR e0 e' [t1].reverse ms'.reverse = some eo ∧ Q (.o m) eo) (fun C fs => Em C fs e') :=
  ⟨[m1], e1, by
    show takesR e0 [t1] = some ([m1], e1)
    unfold takesR
    simp only [own_bind h1]; unfold takesR; rfl, q⟩
theorem cal_2 {e0 e1 e2 : Ev} {t1 t2 : Tm} {m1 m2 : M} {Q : Tm → Ev → Prop} {FS : MSp} {Em : Addr → List (Str × M) → Ev → Prop} (h2 : own e0 t2 = some (m2, e1)) (h1 : own e1 t1 = some (m1, e2)) (q : FS [m1, m2] (fun ms' m => ∃ eo, putsR e0 e2 [t2, t1] ms'.reverse = some eo ∧ Q (.o m) eo) (fun C fs => Em C fs e2)) : ∃ ms e', takesR e0 [t1, t2].reverse = some (ms.reverse, e') ∧ FS ms (fun ms' m => ∃ eo, putsR e0 e' [t1, t2].reverse ms'.reverse = some eo ∧ Q (.o m) eo) (fun C fs => Em C fs e') :=
  ⟨[m1, m2], e2, by
    show takesR e0 [t2, t1] = some ([m2, m1], e2)
    unfold takesR
    simp only [own_bind h2]; unfold takesR; simp only [own_bind h1]; unfold takesR; rfl, q⟩
theorem cal_3 {e0 e1 e2 e3 : Ev} {t1 t2 t3 : Tm} {m1 m2 m3 : M} {Q : Tm → Ev → Prop} {FS : MSp} {Em : Addr → List (Str × M) → Ev → Prop} (h3 : own e0 t3 = some (m3, e1)) (h2 : own e1 t2 = some (m2, e2)) (h1 : own e2 t1 = some (m1, e3)) (q : FS [m1, m2, m3] (fun ms' m => ∃ eo, putsR e0 e3 [t3, t2, t1] ms'.reverse = some eo ∧ Q (.o m) eo) (fun C fs => Em C fs e3)) : ∃ ms e', takesR e0 [t1, t2, t3].reverse = some (ms.reverse, e') ∧ FS ms (fun ms' m => ∃ eo, putsR e0 e' [t1, t2, t3].reverse ms'.reverse = some eo ∧ Q (.o m) eo) (fun C fs => Em C fs e') :=
  ⟨[m1, m2, m3], e3, by
    show takesR e0 [t3, t2, t1] = some ([m3, m2, m1], e3)
    unfold takesR
    simp only [own_bind h3]; unfold takesR; simp only [own_bind h2]; unfold takesR; simp only [own_bind h1]; unfold takesR; rfl, q⟩
theorem cal_4 {e0 e1 e2 e3 e4 : Ev} {t1 t2 t3 t4 : Tm} {m1 m2 m3 m4 : M} {Q : Tm → Ev → Prop} {FS : MSp} {Em : Addr → List (Str × M) → Ev → Prop} (h4 : own e0 t4 = some (m4, e1)) (h3 : own e1 t3 = some (m3, e2)) (h2 : own e2 t2 = some (m2, e3)) (h1 : own e3 t1 = some (m1, e4)) (q : FS [m1, m2, m3, m4] (fun ms' m => ∃ eo, putsR e0 e4 [t4, t3, t2, t1] ms'.reverse = some eo ∧ Q (.o m) eo) (fun C fs => Em C fs e4)) : ∃ ms e', takesR e0 [t1, t2, t3, t4].reverse = some (ms.reverse, e') ∧ FS ms (fun ms' m => ∃ eo, putsR e0 e' [t1, t2, t3, t4].reverse ms'.reverse = some eo ∧ Q (.o m) eo) (fun C fs => Em C fs e') :=
  ⟨[m1, m2, m3, m4], e4, by
    show takesR e0 [t4, t3, t2, t1] = some ([m4, m3, m2, m1], e4)
    unfold takesR
    simp only [own_bind h4]; unfold takesR; simp only [own_bind h3]; unfold takesR; simp only [own_bind h2]; unfold takesR; simp only [own_bind h1]; unfold takesR; rfl, q⟩
theorem cal_5 {e0 e1 e2 e3 e4 e5 : Ev} {t1 t2 t3 t4 t5 : Tm} {m1 m2 m3 m4 m5 : M} {Q : Tm → Ev → Prop} {FS : MSp} {Em : Addr → List (Str × M) → Ev → Prop} (h5 : own e0 t5 = some (m5, e1)) (h4 : own e1 t4 = some (m4, e2)) (h3 : own e2 t3 = some (m3, e3)) (h2 : own e3 t2 = some (m2, e4)) (h1 : own e4 t1 = some (m1, e5)) (q : FS [m1, m2, m3, m4, m5] (fun ms' m => ∃ eo, putsR e0 e5 [t5, t4, t3, t2, t1] ms'.reverse = some eo ∧ Q (.o m) eo) (fun C fs => Em C fs e5)) : ∃ ms e', takesR e0 [t1, t2, t3, t4, t5].reverse = some (ms.reverse, e') ∧ FS ms (fun ms' m => ∃ eo, putsR e0 e' [t1, t2, t3, t4, t5].reverse ms'.reverse = some eo ∧ Q (.o m) eo) (fun C fs => Em C fs e') :=
  ⟨[m1, m2, m3, m4, m5], e5, by
    show takesR e0 [t5, t4, t3, t2, t1] = some ([m5, m4, m3, m2, m1], e5)
    unfold takesR
    simp only [own_bind h5]; unfold takesR; simp only [own_bind h4]; unfold takesR; simp only [own_bind h3]; unfold takesR; simp only [own_bind h2]; unfold takesR; simp only [own_bind h1]; unfold takesR; rfl, q⟩
theorem cal_6 {e0 e1 e2 e3 e4 e5 e6 : Ev} {t1 t2 t3 t4 t5 t6 : Tm} {m1 m2 m3 m4 m5 m6 : M} {Q : Tm → Ev → Prop} {FS : MSp} {Em : Addr → List (Str × M) → Ev → Prop} (h6 : own e0 t6 = some (m6, e1)) (h5 : own e1 t5 = some (m5, e2)) (h4 : own e2 t4 = some (m4, e3)) (h3 : own e3 t3 = some (m3, e4)) (h2 : own e4 t2 = some (m2, e5)) (h1 : own e5 t1 = some (m1, e6)) (q : FS [m1, m2, m3, m4, m5, m6] (fun ms' m => ∃ eo, putsR e0 e6 [t6, t5, t4, t3, t2, t1] ms'.reverse = some eo ∧ Q (.o m) eo) (fun C fs => Em C fs e6)) : ∃ ms e', takesR e0 [t1, t2, t3, t4, t5, t6].reverse = some (ms.reverse, e') ∧ FS ms (fun ms' m => ∃ eo, putsR e0 e' [t1, t2, t3, t4, t5, t6].reverse ms'.reverse = some eo ∧ Q (.o m) eo) (fun C fs => Em C fs e') :=
  ⟨[m1, m2, m3, m4, m5, m6], e6, by
    show takesR e0 [t6, t5, t4, t3, t2, t1] = some ([m6, m5, m4, m3, m2, m1], e6)
    unfold takesR
    simp only [own_bind h6]; unfold takesR; simp only [own_bind h5]; unfold takesR; simp only [own_bind h4]; unfold takesR; simp only [own_bind h3]; unfold takesR; simp only [own_bind h2]; unfold takesR; simp only [own_bind h1]; unfold takesR; rfl, q⟩
theorem cal_7 {e0 e1 e2 e3 e4 e5 e6 e7 : Ev} {t1 t2 t3 t4 t5 t6 t7 : Tm} {m1 m2 m3 m4 m5 m6 m7 : M} {Q : Tm → Ev → Prop} {FS : MSp} {Em : Addr → List (Str × M) → Ev → Prop} (h7 : own e0 t7 = some (m7, e1)) (h6 : own e1 t6 = some (m6, e2)) (h5 : own e2 t5 = some (m5, e3)) (h4 : own e3 t4 = some (m4, e4)) (h3 : own e4 t3 = some (m3, e5)) (h2 : own e5 t2 = some (m2, e6)) (h1 : own e6 t1 = some (m1, e7)) (q : FS [m1, m2, m3, m4, m5, m6, m7] (fun ms' m => ∃ eo, putsR e0 e7 [t7, t6, t5, t4, t3, t2, t1] ms'.reverse = some eo ∧ Q (.o m) eo) (fun C fs => Em C fs e7)) : ∃ ms e', takesR e0 [t1, t2, t3, t4, t5, t6, t7].reverse = some (ms.reverse, e') ∧ FS ms (fun ms' m => ∃ eo, putsR e0 e' [t1, t2, t3, t4, t5, t6, t7].reverse ms'.reverse = some eo ∧ Q (.o m) eo) (fun C fs => Em C fs e') :=
  ⟨[m1, m2, m3, m4, m5, m6, m7], e7, by
    show takesR e0 [t7, t6, t5, t4, t3, t2, t1] = some ([m7, m6, m5, m4, m3, m2, m1], e7)
    unfold takesR
    simp only [own_bind h7]; unfold takesR; simp only [own_bind h6]; unfold takesR; simp only [own_bind h5]; unfold takesR; simp only [own_bind h4]; unfold takesR; simp only [own_bind h3]; unfold takesR; simp only [own_bind h2]; unfold takesR; simp only [own_bind h1]; unfold takesR; rfl, q⟩
theorem cal_8 {e0 e1 e2 e3 e4 e5 e6 e7 e8 : Ev} {t1 t2 t3 t4 t5 t6 t7 t8 : Tm} {m1 m2 m3 m4 m5 m6 m7 m8 : M} {Q : Tm → Ev → Prop} {FS : MSp} {Em : Addr → List (Str × M) → Ev → Prop} (h8 : own e0 t8 = some (m8, e1)) (h7 : own e1 t7 = some (m7, e2)) (h6 : own e2 t6 = some (m6, e3)) (h5 : own e3 t5 = some (m5, e4)) (h4 : own e4 t4 = some (m4, e5)) (h3 : own e5 t3 = some (m3, e6)) (h2 : own e6 t2 = some (m2, e7)) (h1 : own e7 t1 = some (m1, e8)) (q : FS [m1, m2, m3, m4, m5, m6, m7, m8] (fun ms' m => ∃ eo, putsR e0 e8 [t8, t7, t6, t5, t4, t3, t2, t1] ms'.reverse = some eo ∧ Q (.o m) eo) (fun C fs => Em C fs e8)) : ∃ ms e', takesR e0 [t1, t2, t3, t4, t5, t6, t7, t8].reverse = some (ms.reverse, e') ∧ FS ms (fun ms' m => ∃ eo, putsR e0 e' [t1, t2, t3, t4, t5, t6, t7, t8].reverse ms'.reverse = some eo ∧ Q (.o m) eo) (fun C fs => Em C fs e') :=
  ⟨[m1, m2, m3, m4, m5, m6, m7, m8], e8, by
    show takesR e0 [t8, t7, t6, t5, t4, t3, t2, t1] = some ([m8, m7, m6, m5, m4, m3, m2, m1], e8)
    unfold takesR
    simp only [own_bind h8]; unfold takesR; simp only [own_bind h7]; unfold takesR; simp only [own_bind h6]; unfold takesR; simp only [own_bind h5]; unfold takesR; simp only [own_bind h4]; unfold takesR; simp only [own_bind h3]; unfold takesR; simp only [own_bind h2]; unfold takesR; simp only [own_bind h1]; unfold takesR; rfl, q⟩
theorem cal_9 {e0 e1 e2 e3 e4 e5 e6 e7 e8 e9 : Ev} {t1 t2 t3 t4 t5 t6 t7 t8 t9 : Tm} {m1 m2 m3 m4 m5 m6 m7 m8 m9 : M} {Q : Tm → Ev → Prop} {FS : MSp} {Em : Addr → List (Str × M) → Ev → Prop} (h9 : own e0 t9 = some (m9, e1)) (h8 : own e1 t8 = some (m8, e2)) (h7 : own e2 t7 = some (m7, e3)) (h6 : own e3 t6 = some (m6, e4)) (h5 : own e4 t5 = some (m5, e5)) (h4 : own e5 t4 = some (m4, e6)) (h3 : own e6 t3 = some (m3, e7)) (h2 : own e7 t2 = some (m2, e8)) (h1 : own e8 t1 = some (m1, e9)) (q : FS [m1, m2, m3, m4, m5, m6, m7, m8, m9] (fun ms' m => ∃ eo, putsR e0 e9 [t9, t8, t7, t6, t5, t4, t3, t2, t1] ms'.reverse = some eo ∧ Q (.o m) eo) (fun C fs => Em C fs e9)) : ∃ ms e', takesR e0 [t1, t2, t3, t4, t5, t6, t7, t8, t9].reverse = some (ms.reverse, e') ∧ FS ms (fun ms' m => ∃ eo, putsR e0 e' [t1, t2, t3, t4, t5, t6, t7, t8, t9].reverse ms'.reverse = some eo ∧ Q (.o m) eo) (fun C fs => Em C fs e') :=
  ⟨[m1, m2, m3, m4, m5, m6, m7, m8, m9], e9, by
    show takesR e0 [t9, t8, t7, t6, t5, t4, t3, t2, t1] = some ([m9, m8, m7, m6, m5, m4, m3, m2, m1], e9)
    unfold takesR
    simp only [own_bind h9]; unfold takesR; simp only [own_bind h8]; unfold takesR; simp only [own_bind h7]; unfold takesR; simp only [own_bind h6]; unfold takesR; simp only [own_bind h5]; unfold takesR; simp only [own_bind h4]; unfold takesR; simp only [own_bind h3]; unfold takesR; simp only [own_bind h2]; unfold takesR; simp only [own_bind h1]; unfold takesR; rfl, q⟩
end SY
namespace SY
open PySem L2
theorem cutL_map {α β : Type} (f : α → β) (xs : List α) (lo hi : Option Int) : cutL (xs.map f) lo hi = (cutL xs lo hi).map f := by
  unfold cutL
  rw [List.length_map, List.map_take, List.map_drop]
theorem imms_sub {as bs : List M} (h : M.imms as = true) (s : ∀ x ∈ bs, x ∈ as) : M.imms bs = true := M.imms_iff.mpr fun m hm => M.imms_iff.mp h m (s m hm)
theorem imms_cutL {ms : List M} (h : M.imms ms = true) (lo hi : Option Int) : M.imms (cutL ms lo hi) = true := imms_sub h fun x hx => List.drop_subset _ _ (List.take_subset _ _ hx)
theorem cutL_length {α : Type} (xs : List α) (lo hi : Option Int) : (cutL xs lo hi).length ≤ xs.length := by
  unfold cutL
  rw [List.length_take, List.length_drop]; omega
theorem imms_app {as bs : List M} (h : M.imms as = true) (h' : M.imms bs = true) : M.imms (as ++ bs) = true := M.imms_iff.mpr fun m hm => (List.mem_append.mp hm).elim (M.imms_iff.mp h m) (M.imms_iff.mp h' m)
theorem imms_rep {ms : List M} (h : M.imms ms = true) (n : Nat) : M.imms (List.replicate n ms).flatten = true := imms_sub h fun x hx => by
  obtain ⟨l, hl, hx⟩ := List.mem_flatten.mp hx
  rw [List.eq_of_mem_replicate hl] at hx; exact hx
theorem rep_map {α β : Type} (f : α → β) (xs : List α) (n : Nat) : (List.replicate n (xs.map f)).flatten = (List.replicate n xs).flatten.map f := by
  induction n with
  | zero => rfl
  | succ n ih => rw [List.replicate_succ, List.replicate_succ, List.flatten_cons, List.flatten_cons, List.map_append, ih]
theorem rangeM_eq (lo : Int) (n : Nat) : rangeM lo n = ((List.range n).map fun (k : Nat) => lo + (k : Int)).map M.int := by simp [rangeM, List.map_map, Function.comp_def]
/-- the state after a loop over a list of ints: one item -/
theorem map_get {α β : Type} {f : α → β} {l : List α} {i : Nat} {m : β} (h : (l.map f)[i]? = some m) : ∃ x, l[i]? = some x ∧ m = f x := by
  rw [List.getElem?_map] at h
  obtain ⟨x, h1, h2⟩ := Option.map_eq_some_iff.mp h
  exact ⟨x, h1, h2.symm⟩
end SY
namespace SY
open PySem L2
section
variable {X : Cx} {G : Gh} {T : List Tm} {e : Ev} {D : MD}
/-- the slots, told anew -/
theorem Xb.at (e' : Ev) {st : List Stmt} (h : e = e') (k : Xb X G T e' st D) : Xb X G T e st D := by rw [h]; exact k
theorem Xs.at (e' : Ev) {st : Stmt} (h : e = e') (k : Xs X G T e' st D) : Xs X G T e st D := by rw [h]; exact k
end
theorem le_sizeLine {n : Nat} (h : n ≤ 16777216) : n ≤ sizeLine := by rw [PySem.sizeLine_eq]; exact h
end SY
namespace SY
open PySem L2
theorem atIn {α : Type} {xs : List α} {i : Nat} {x : α} (h : xs[i]? = some x) : atI xs (i : Int) = some x := by
  have hi := (List.getElem?_eq_some_iff.mp h).1
  unfold atI ixN
  rw [if_pos (by omega), if_pos (by omega)]
  simpa using h
theorem atI_int {α : Type} {xs : List α} {i : Int} {x : α} (h0 : 0 ≤ i) (h : xs[i.toNat]? = some x) : atI xs i = some x := by
  have := atIn h
  rwa [Int.toNat_of_nonneg h0] at this
theorem atI_last {α : Type} {xs : List α} {x : α} (h : xs[xs.length - 1]? = some x) : atI xs (-1) = some x := by
  have hi := (List.getElem?_eq_some_iff.mp h).1
  unfold atI ixN
  rw [if_neg (by omega), if_pos (by omega)]
  show xs[(-1 + (xs.length : Int)).toNat]? = some x
  rw [show (-1 + (xs.length : Int)).toNat = xs.length - 1 by omega]
  exact h
theorem ixN_nat {n i : Nat} (h : i < n) : ixN n (i : Int) = some i := by
  unfold ixN
  rw [if_pos (by omega), if_pos (by omega)]
  simp
theorem ixN_int {n : Nat} {i : Int} (h0 : 0 ≤ i) (h : i < n) : ixN n i = some i.toNat := by
  unfold ixN
  rw [if_pos h0, if_pos h]
end SY
namespace SY
open PySem L2
section
variable {X : Cx} {G : Gh} {T : List Tm} {e : Ev} {a : Expr} {es : List Expr} {Q : Tm → Ev → Prop} {p pos : Pos} {x : Str} {k : Nat} {FS : MSp} {Em : Addr → List (Str × M) → Ev → Prop}
theorem tk0 : Takes X (WS X.K G fun _ _ _ => False) := takes0.imp fun _ _ _ _ ⟨_, _, _, _, _, _, z, _⟩ => z
theorem xcal (F : FnG X.prog X.w X.K X.mg X.base k x FS) (hr : Room k X.A) (tk : Takes X (WS X.K G Em)) (hg : Gl X x) (hdb : (x == ("__debug__" : Str)) = false) (he : starEach (a :: es) X.env = (false, eval a X.env) :: starEach es X.env) (hpl : (backTo pos (starEach es X.env)).any (·.1) = false)
    (h : Xa X G T e (a :: es) fun ts e1 => ∃ ms e2, takesR e1 ts.reverse = some (ms.reverse, e2) ∧ FS ms (fun ms' m => ∃ e3, putsR e1 e2 ts.reverse ms'.reverse = some e3 ∧ Q (.o m) e3) (fun C fs => Em C fs e2)) :
    Xp X G T e (.Call (.Name x p) (a :: es) [] pos) Q := x_call F hr tk hg h hdb he hpl
end
end SY
namespace SY
open PySem L2
section
variable {X : Cx} {G : Gh} {T T' : List Tm} {tg elt : Expr} {scope : Scope} {vs : List Nat} {Q : Tm → Ev → Prop} {its : List M} {P : Ev → Prop} {e1 : Ev}
/-- a comprehension that leaves the slots as they are: the i-th element is g i -/
theorem lcw_map (g : Nat → M) (e0 : Ev) (hn : noBs vs (T' ++ T) = true) (he : wipeE e1 vs = e0) (he0 : wipeE e0 vs = e0) (hP : P e0) (himm : ∀ i, i < its.length → (g i).imm = true) (hlen : its.length ≤ sizeLine)
    (turn : ∀ i m, its[i]? = some m → ∃ js, (∀ j ∈ js, j ∈ vs) ∧ ∀ acc s H C cl fp, Xg (Yx X scope s H C cl fp) G (T' ++ .o (.lst acc) :: T) e0 tg m js fun e3 => ∀ s H C cl fp, Xp (Yx X scope s H C cl fp) G (T' ++ .o (.lst acc) :: T) e3 elt fun t e4 => see e4 t = some (g i) ∧ wipeE e4 vs = e0)
    (fin : Q (.o (.lst ((List.range its.length).map g))) e0) : LcW X G T tg elt none scope vs Q T' its P e1 := by
  refine ⟨fun i acc e => i ≤ its.length ∧ acc = (List.range i).map g ∧ e = e0, hn, ⟨Nat.zero_le _, rfl, he⟩, ?_, ?_, ?_⟩
  · rintro i acc e2 ⟨hi, rfl, rfl⟩
    exact ⟨hP, M.imms_iff.mpr fun m hm => by
      obtain ⟨j, hj, rfl⟩ := List.mem_map.mp hm
      exact himm j (by have := List.mem_range.mp hj; omega)⟩
  · rintro i acc e2 m hm ⟨hi, rfl, rfl⟩
    have hlt := (List.getElem?_eq_some_iff.mp hm).1
    obtain ⟨js, hjs, tn⟩ := turn i m hm
    refine ⟨js, hjs, fun s H C cl fp => ⟨fun v tv σ H' sr pins sh u I r => thn ((tn _ s H C cl fp).run v tv σ H' sr pins sh u I r) fun _ s5 ⟨σ5, H5, I5, e5, s6, h6, ag⟩ => ⟨σ5, H5, I5, e5, s6, fun s H C cl fp => ⟨fun tv σ H' sr pins sh I => thn ((h6 s H C cl fp).run tv σ H' sr pins sh I) fun u s7 ⟨y, H8, I8, r8, t, e8, s9, hs, hw⟩ => ⟨y, H8, I8, r8, t, e8, s9, g i, hs, himm i hlt, by simp; omega, ?_⟩⟩, ag⟩⟩⟩
    exact ⟨hlt, by rw [List.range_succ, List.map_append]; rfl, hw⟩
  · rintro acc e2 ⟨hi, rfl, rfl⟩
    rw [he0]; exact fin
/-- .. with a test: p i -/
theorem lcw_fil {c : Expr} (g : Nat → M) (p : Nat → Bool) (e0 : Ev) (hn : noBs vs (T' ++ T) = true) (he : wipeE e1 vs = e0) (he0 : wipeE e0 vs = e0) (hP : P e0) (himm : ∀ i, i < its.length → (g i).imm = true) (hlen : its.length ≤ sizeLine)
    (turn : ∀ i m, its[i]? = some m → ∃ js, (∀ j ∈ js, j ∈ vs) ∧ ∀ acc s H C cl fp, Xg (Yx X scope s H C cl fp) G (T' ++ .o (.lst acc) :: T) e0 tg m js fun e3 => ∀ s H C cl fp, Xt (Yx X scope s H C cl fp) G (T' ++ .o (.lst acc) :: T) e3 c fun k e4 => k = p i ∧ (k = false → wipeE e4 vs = e0) ∧ (k = true → ∀ s H C cl fp, Xp (Yx X scope s H C cl fp) G (T' ++ .o (.lst acc) :: T) e4 elt fun t e5 => see e5 t = some (g i) ∧ wipeE e5 vs = e0))
    (fin : Q (.o (.lst (((List.range its.length).filter p).map g))) e0) : LcW X G T tg elt (some c) scope vs Q T' its P e1 := by
  refine ⟨fun i acc e => i ≤ its.length ∧ acc = ((List.range i).filter p).map g ∧ e = e0, hn, ⟨Nat.zero_le _, rfl, he⟩, ?_, ?_, ?_⟩
  · rintro i acc e2 ⟨hi, rfl, rfl⟩
    exact ⟨hP, M.imms_iff.mpr fun m hm => by
      obtain ⟨j, hj, rfl⟩ := List.mem_map.mp hm
      exact himm j (by have := List.mem_range.mp (List.mem_filter.mp hj).1; omega)⟩
  · rintro i acc e2 m hm ⟨hi, rfl, rfl⟩
    have hlt := (List.getElem?_eq_some_iff.mp hm).1
    obtain ⟨js, hjs, tn⟩ := turn i m hm
    have hsz : (((List.range i).filter p).map g).length < sizeLine := by
      rw [List.length_map]
      have := List.length_filter_le p (List.range i)
      rw [List.length_range] at this
      omega
    refine ⟨js, hjs, fun s H C cl fp => ⟨fun v tv σ H' sr pins sh u I r => thn ((tn _ s H C cl fp).run v tv σ H' sr pins sh u I r) fun _ s5 ⟨σ5, H5, I5, e5, s6, h6, ag⟩ => ⟨σ5, H5, I5, e5, s6, fun s H C cl fp => ⟨fun tv σ H' sr pins sh I => thn ((h6 s H C cl fp).run tv σ H' sr pins sh I) fun k s7 ⟨H8, I8, e8, s9, hk, hf, ht⟩ => ⟨H8, I8, e8, s9, fun kt s H C cl fp => ⟨fun tv σ H' sr pins sh I => thn ((ht kt s H C cl fp).run tv σ H' sr pins sh I) fun u s7 ⟨y, H8, I8, r8, t, e8, s9, hs, hw⟩ => ⟨y, H8, I8, r8, t, e8, s9, g i, hs, himm i hlt, hsz, ?_⟩⟩, fun kf => ?_⟩⟩, ag⟩⟩⟩
    · refine ⟨hlt, ?_, hw⟩
      rw [List.range_succ, List.filter_append, List.map_append, List.filter_cons, if_pos (by rw [← hk]; exact kt)]; rfl
    · refine ⟨hlt, ?_, hf kf⟩
      rw [List.range_succ, List.filter_append, List.filter_cons, if_neg (by rw [← hk, kf]; decide)]; simp
  · rintro acc e2 ⟨hi, rfl, rfl⟩
    rw [he0]; exact fin
end
end SY
namespace SY
open PySem L2
theorem range_get {α β : Type} (l : List α) (d : α) (f : α → β) : (List.range l.length).map (fun i => f (l.getD i d)) = l.map f := by
  apply List.ext_getElem
  · simp
  · intro i h1 h2
    simp at h1 h2 ⊢
    simp [h1]
theorem range_fil {α β : Type} (l : List α) (d : α) (p : α → Bool) (f : α → β) : ((List.range l.length).filter (fun i => p (l.getD i d))).map (fun i => f (l.getD i d)) = (l.filter p).map f := by
  have h : l = (List.range l.length).map fun i => l.getD i d := by
    have := range_get l d id
    simpa using this.symm
  conv => rhs; rw [h, List.filter_map, List.map_map]
  rfl
theorem getD_at {α : Type} {l : List α} {i : Nat} {x d : α} (h : l[i]? = some x) : l.getD i d = x := by
  rw [List.getD_eq_getElem?_getD, h]; rfl
theorem take_succ_flat {α β : Type} (l : List α) (f : α → List β) {i : Nat} {x : α} (h : l[i]? = some x) : (l.take (i + 1)).flatMap f = (l.take i).flatMap f ++ f x := by
  rw [List.take_succ, h]; simp
end SY
namespace SY
open PySem L2
theorem flat_rep {α : Type} (m : α) (n : Nat) : (List.replicate n [m]).flatten = List.replicate n m := by
  induction n with
  | zero => rfl
  | succ n ih => rw [List.replicate_succ, List.flatten_cons, ih, List.replicate_succ]; rfl
/-- [m] * i -/
theorem o_rep1 {X : Cx} {G : Gh} {T : List Tm} {e : Ev} {Q : Tm → Ev → Prop} {ta : Tm} {m : M} {i : Int} (hs : see e ta = some (.lst [m])) (hi : m.imm = true) (h1 : -(2 ^ 63) ≤ i ∧ i < 2 ^ 63) (hz : i.toNat ≤ sizeLine) (q : Q (.o (.lst (List.replicate i.toNat m))) e) : Xo X G (.bin .Mult) T ta (.o (.int i)) e Q :=
  o_repL hs (by simp [M.imms, hi]) h1 (by simpa using hz) (by rw [flat_rep]; exact q)
end SY
namespace SY
theorem imms_repl {m : M} (h : m.imm = true) (n : Nat) : M.imms (List.replicate n m) = true := M.imms_iff.mpr fun x hx => by rw [List.eq_of_mem_replicate hx]; exact h
end SY
namespace SY
open PySem L2
/-- an own exception class with an own __init__ that keeps mkS -/
structure ClsG (P : Program) (w : World) (K : PySem.W.Frag) (mg : Str → Option Value) (base : Heap) (k : Nat) (x : Str) (C : Addr) (ok : List M → List (Str × V) → Prop) : Prop where
  oc : OexC K C
  gm : mg x = some (.ref C)
  ini : ∃ fI fd ps, PySem.W.findIn K (.ref C) "__init__" = some (some (.ref fI)) ∧ PySem.W.typeIn K (.ref fI) = some (.type "function") ∧ FnOk P w K mg base (L2.CX P w) k fI fd ps (toSp K (mkS C ok)) ∧ Binds K fd ps []
section
variable {X : Cx} {G : Gh} {T : List Tm} {e : Ev} {D : MD} {pos : Pos}
theorem s_rai {x : Str} {a : Expr} {es : List Expr} {p pos' : Pos} {C : Addr} {k : Nat} {ok : List M → List (Str × V) → Prop} {Em : Addr → List (Str × M) → Ev → Prop} (F : ClsG X.prog X.w X.K X.mg X.base k x C ok) (hc : X.calm = true) (tk : Takes X (WS X.K G Em)) (hr : Room (k + 1) X.A)
    (hg : Gl X x) (hdb : (x == ("__debug__" : Str)) = false) (he : starEach (a :: es) X.env = (false, eval a X.env) :: starEach es X.env) (hpl : (backTo pos' (starEach es X.env)).any (·.1) = false)
    (h : Xa X G T e (a :: es) fun ts e1 => ∃ ms e2 fs fm, takesR e1 ts.reverse = some (ms.reverse, e2) ∧ ms.length ≤ 900 ∧ M.imms ms = true ∧ ok ms fs ∧ Flds fs fm ∧ Em C fm e2) : Xs X G T e (.Raise (some (.Call (.Name x p) (a :: es) [] pos')) none pos) D := by
  obtain ⟨fI, fd, ps, h1, h2, h3, h4⟩ := F.ini
  exact s_raise hc tk F.oc h1 h2 h3 hr h4 hg F.gm hdb he hpl h
end
end SY
namespace SY
open PySem L2
theorem log_lt {i : Int} (h0 : -(2 ^ 64) < i) (h1 : i < 2 ^ 64) : i.natAbs.log2 < 1920 := by
  by_cases h : i.natAbs = 0
  · rw [h]; decide
  · refine (Nat.log2_lt h).mpr (Nat.lt_of_lt_of_le (show i.natAbs < 2 ^ 64 by omega) (Nat.pow_le_pow_right (by decide) (by decide)))
/-- a text and a number's text -/
theorem o_addN {X : Cx} {G : Gh} {T : List Tm} {e : Ev} {Q : Tm → Ev → Prop} {x : Str} {i : Int} (h0 : -(2 ^ 64) < i) (h1 : i < 2 ^ 64) (hl : x.length ≤ 1000) (q : Q (.o (.str (x ++ toString i))) e) : Xo X G (.bin .Add) T (.o (.str x)) (.o (.str (toString i))) e Q :=
  o_addS (by
    have := PyProof.Rows.int_text_len_1921 (log_lt h0 h1)
    refine le_sizeLine ?_
    show x.length + (Str.ofString (toString i)).length ≤ 16777216
    omega) q
end SY
namespace SY
theorem cutL_take {α : Type} (xs : List α) (i : Nat) : cutL xs none (some (i : Int)) = xs.take i := by
  unfold cutL
  rw [HT.sIx_nat, HT.sIx_none, List.drop_zero, Nat.sub_zero]
  by_cases h : i ≤ xs.length
  · rw [Nat.min_eq_left h]
  · rw [Nat.min_eq_right (by omega), List.take_of_length_le (Nat.le_refl _), List.take_of_length_le (by omega)]
theorem cutL_drop {α : Type} (xs : List α) (i : Nat) : cutL xs (some (i : Int)) none = xs.drop i := by
  unfold cutL
  rw [HT.sIx_nat, HT.sIx_none]
  by_cases h : i ≤ xs.length
  · rw [Nat.min_eq_left h, List.take_of_length_le (by simp)]
  · rw [Nat.min_eq_right (by omega), List.drop_of_length_le (Nat.le_refl _), List.drop_of_length_le (by omega)]; simp
end SY
namespace SY
theorem lst_and {e : Ev} {t : Tm} {ms : List M} {R : Prop} (h : see e t = some (.lst ms)) (q : R) : (∃ ms, see e t = some (.lst ms)) ∧ R := ⟨⟨ms, h⟩, q⟩
theorem boot_VE : PySem.bootBuiltins "ValueError" = some (.type "ValueError") := PyProof.Rows.Boot.«ValueError»
end SY
namespace SY
open PySem
theorem shaped_i {d : PyData} (h1 : d.canLay0 = true) (h2 : d.depth ≤ 64) : SeqAt.shaped d = true := by
  unfold SeqAt.shaped; rw [h1, decide_eq_true h2]; rfl
theorem shaped_ints (ns : List Int) : SeqAt.shaped (.tuple (ns.map .int)) = true := by
  have a : ∀ ns : List Int, PyData.canLayAll0 (ns.map .int) = true := by
    intro ns
    induction ns with
    | nil => rfl
    | cons n ns ih => rw [List.map_cons, PyData.canLayAll0, ih]; rfl
  have b : ∀ ns : List Int, PyData.depthAll (ns.map .int) ≤ 1 := by
    intro ns
    induction ns with
    | nil => simp [PyData.depthAll]
    | cons n ns ih => rw [List.map_cons, PyData.depthAll]; simp only [PyData.depth]; omega
  refine shaped_i (by rw [PyData.canLay0]; exact a ns) (by rw [PyData.depth]; have := b ns; omega)
end SY
namespace SY
open PySem L2
/-- with a word between -/
theorem Xp.cut {X : Cx} {G : Gh} {T : List Tm} {e : Ev} {ex : Expr} {Q : Tm → Ev → Prop} (Mid : Tm → Ev → Prop) (h : Xp X G T e ex Mid) (k : ∀ t e1, Mid t e1 → Q t e1) : Xp X G T e ex Q :=
  ⟨fun tv σ H s pins sh I => thn (h.run tv σ H s pins sh I) fun u s1 ⟨v, H1, I1, r1, t, e1, s2, hQ⟩ => ⟨v, H1, I1, r1, t, e1, s2, k t e1 hQ⟩⟩
theorem keyM_ints (r : List Int) : (r.map Sum.inl).map keyM = r.map M.int := by rw [List.map_map]; rfl
/-- a table by lists of ints, its values ints -/
def tabM (c : List (List Int × Int)) : List (List Key × M) := c.map fun p => (p.1.map Sum.inl, M.int p.2)
theorem inl_inj : ∀ {a b : List Int}, (a.map Sum.inl : List Key) = b.map Sum.inl → a = b
  | [], [], _ => rfl
  | [], _ :: _, h => by simp at h
  | _ :: _, [], h => by simp at h
  | x :: a, y :: b, h => by
    simp only [List.map_cons, List.cons.injEq] at h
    rw [Sum.inl.inj h.1, inl_inj h.2]
theorem valA_tab (k : List Int) : ∀ c : List (List Int × Int), valA (tabM c) (k.map Sum.inl) = (valA c k).map M.int
  | [] => rfl
  | p :: c => by
    rw [tabM, List.map_cons, valA_cons, valA_cons]
    by_cases h : p.1 = k
    · rw [if_pos h, if_pos (by rw [h])]; rfl
    · rw [if_neg h, if_neg (fun z => h (inl_inj z))]; exact valA_tab k c
theorem putA_tab (k : List Int) (v : Int) (c : List (List Int × Int)) : putA (tabM c) (k.map Sum.inl) (.int v) = tabM (putA c k v) := by
  have h1 : ((tabM c).any fun kv => decide (kv.1 = k.map Sum.inl)) = c.any fun kv => decide (kv.1 = k) := by
    rw [tabM, List.any_map]
    congr 1
    funext p
    simp only [Function.comp]
    by_cases h : p.1 = k
    · rw [decide_eq_true h, decide_eq_true (by rw [h])]
    · rw [decide_eq_false h, decide_eq_false (fun z => h (inl_inj z))]
  unfold putA
  rw [h1]
  split
  · rw [tabM, tabM, List.map_map, List.map_map]
    apply List.map_congr_left
    intro p _
    simp only [Function.comp]
    by_cases h : p.1 = k
    · rw [if_pos h, if_pos (by rw [h])]
    · rw [if_neg h, if_neg (fun z => h (inl_inj z))]
  · rw [tabM, tabM, List.map_append]; rfl
theorem tabM_imm (c : List (List Int × Int)) : M.imms ((tabM c).map (·.2)) = true := by rw [tabM, List.map_map]; exact imms_map (fun _ => rfl) c
theorem getD_tab (k : List Int) (c : List (List Int × Int)) : (valA (tabM c) (k.map Sum.inl)).getD (.int 0) = .int ((valA c k).getD 0) := by
  rw [valA_tab]; cases valA c k <;> rfl
end SY
namespace SY
open PySem L2
/-! ### the ends -/
theorem ro_of {K : PySem.W.Frag} {H : Hp} {a : Addr} {ns : List Int} (hO : Only H) (hS : SqL K H a (ns.map V.int)) : RM K H (.ref a) (.ro (ns.map M.int)) fE := by
  refine .ro ?_ (rms_ints' ns)
  rcases hS with (h | ⟨o, h⟩) | h
  · rcases hO a with z | ⟨o, xs, z⟩
    · rw [z] at h; cases h
    · rw [z] at h; cases h
  · exact .inl ⟨o, h⟩
  · exact .inr h
theorem law_sp {K : PySem.W.Frag} {H : Hp} {a : Addr} {ns : List Int} {FS : MSp} (hO : Only H) (hS : SqL K H a (ns.map V.int)) (h : FS [.ro (ns.map M.int)] (fun _ m => m = .bl true) fun _ _ => False) : toSp K FS [.ref a] H (fun v _ => v = .bl true) fun _ _ _ => False :=
  ⟨_, _, _, _, .cons (ro_of hO hS) .nil (dis_e _), h, fun ms' m hm v H' f' r _ _ => by subst hm; cases r with | cons r _ _ => cases r; rfl, fun _ _ z => z.elim⟩
theorem cx_no {P : Program} {w : World} (H : Hp) (s : Shared) (e : Value) (s' : Shared) : L2.CX P w [] H s (fun _ _ _ => False) e s' → False := fun ⟨_, _, _, _, _, _, _, _, _, _, _, _, z⟩ => z
theorem fnG_mk {P : Program} {w : World} {K : PySem.W.Frag} {mg : Str → Option Value} {base h : Heap} {k : Nat} {x : Str} {FS : MSp} {f : Addr} {fd : FuncData} {ps : List Str} (X : K.In h) (G : h.Ns mainGlobals mg) (a : PySem.W.nsIn K mainGlobals x = some (some (.ref f))) (kp : PySem.W.keepIn K (.ref f) = true)
    (ok : FnOk P w K mg base (L2.CX P w) k f fd ps (toSp K FS)) (b : Binds K fd ps []) : FnG P w K mg base k x FS := ⟨f, fd, ps, ok, PySem.W.mg_of X G a, kp, b⟩
end SY
namespace SY
open PySem L2
theorem kb_NoneType_int : kitB "NoneType" "int" = some false := by decide +kernel
theorem kb_NoneType_bool : kitB "NoneType" "bool" = some false := by decide +kernel
theorem kb_NoneType_str : kitB "NoneType" "str" = some false := by decide +kernel
theorem kb_NoneType_tuple : kitB "NoneType" "tuple" = some false := by decide +kernel
theorem kb_NoneType_list : kitB "NoneType" "list" = some false := by decide +kernel
theorem kb_NoneType_dict : kitB "NoneType" "dict" = some false := by decide +kernel
theorem kb_bool_int : kitB "bool" "int" = some true := by decide +kernel
theorem kb_bool_bool : kitB "bool" "bool" = some true := by decide +kernel
theorem kb_bool_str : kitB "bool" "str" = some false := by decide +kernel
theorem kb_bool_tuple : kitB "bool" "tuple" = some false := by decide +kernel
theorem kb_bool_list : kitB "bool" "list" = some false := by decide +kernel
theorem kb_bool_dict : kitB "bool" "dict" = some false := by decide +kernel
theorem kb_int_int : kitB "int" "int" = some true := by decide +kernel
theorem kb_int_bool : kitB "int" "bool" = some false := by decide +kernel
theorem kb_int_str : kitB "int" "str" = some false := by decide +kernel
theorem kb_int_tuple : kitB "int" "tuple" = some false := by decide +kernel
theorem kb_int_list : kitB "int" "list" = some false := by decide +kernel
theorem kb_int_dict : kitB "int" "dict" = some false := by decide +kernel
theorem kb_str_int : kitB "str" "int" = some false := by decide +kernel
theorem kb_str_bool : kitB "str" "bool" = some false := by decide +kernel
theorem kb_str_str : kitB "str" "str" = some true := by decide +kernel
theorem kb_str_tuple : kitB "str" "tuple" = some false := by decide +kernel
theorem kb_str_list : kitB "str" "list" = some false := by decide +kernel
theorem kb_str_dict : kitB "str" "dict" = some false := by decide +kernel
theorem kb_tuple_int : kitB "tuple" "int" = some false := by decide +kernel
theorem kb_tuple_bool : kitB "tuple" "bool" = some false := by decide +kernel
theorem kb_tuple_str : kitB "tuple" "str" = some false := by decide +kernel
theorem kb_tuple_tuple : kitB "tuple" "tuple" = some true := by decide +kernel
theorem kb_tuple_list : kitB "tuple" "list" = some false := by decide +kernel
theorem kb_tuple_dict : kitB "tuple" "dict" = some false := by decide +kernel
theorem kb_list_int : kitB "list" "int" = some false := by decide +kernel
theorem kb_list_bool : kitB "list" "bool" = some false := by decide +kernel
theorem kb_list_str : kitB "list" "str" = some false := by decide +kernel
theorem kb_list_tuple : kitB "list" "tuple" = some false := by decide +kernel
theorem kb_list_list : kitB "list" "list" = some true := by decide +kernel
theorem kb_list_dict : kitB "list" "dict" = some false := by decide +kernel
theorem kb_dict_int : kitB "dict" "int" = some false := by decide +kernel
theorem kb_dict_bool : kitB "dict" "bool" = some false := by decide +kernel
theorem kb_dict_str : kitB "dict" "str" = some false := by decide +kernel
theorem kb_dict_tuple : kitB "dict" "tuple" = some false := by decide +kernel
theorem kb_dict_list : kitB "dict" "list" = some false := by decide +kernel
theorem kb_dict_dict : kitB "dict" "dict" = some true := by decide +kernel
end SY
open PySem L2 SY
open PyProof.Rows (envOfC)
local macro_rules | `(tactic| kl_some) => `(tactic| repeat (first | (apply SY.xcal; (assumption); (first | assumption | (apply Room.mono; assumption; decide)); (first | assumption | exact SY.tk0); (exact rfl); (decide); (exact rfl); (exact rfl)) | (apply SY.x_cell; (exact rfl); (exact rfl); (exact rfl); (first | exact Or.inl rfl | exact Or.inr (Or.inl rfl) | exact Or.inr (Or.inr rfl)); (decide); (exact fun _ _ => rfl); (exact fun _ _ => rfl); (exact fun _ _ => rfl); (exact rfl); (exact rfl)) | (apply SY.x_lencell; (exact rfl); (exact rfl); (exact rfl); (first | exact Or.inl rfl | exact Or.inr (Or.inl rfl) | exact Or.inr (Or.inr rfl)); (decide); (exact fun _ _ => rfl); (assumption); (exact rfl); (exact rfl); (exact rfl); (exact rfl)) | (apply SY.c_len; (assumption); (exact rfl); (exact rfl); (exact rfl)) | (apply SY.c_min; (assumption); (exact rfl); (exact rfl); (exact rfl)) | (apply SY.c_max; (assumption); (exact rfl); (exact rfl); (exact rfl)) | (apply SY.c_abs; (assumption); (exact rfl); (exact rfl); (exact rfl)) | (apply SY.c_sum; (assumption); (exact rfl); (exact rfl); (exact rfl)) | (apply SY.c_sorted; (assumption); (exact rfl); (exact rfl); (exact rfl)) | (apply SY.c_all; (assumption); (exact rfl); (exact rfl); (exact rfl)) | (apply SY.c_any; (assumption); (exact rfl); (exact rfl); (exact rfl)) | (apply SY.c_isinstance; (assumption); (exact rfl); (exact rfl); (exact rfl)) | (apply SY.c_int; (assumption); (exact rfl); (exact rfl); (exact rfl)) | (apply SY.c_tuple; (assumption); (exact rfl); (exact rfl); (exact rfl)) | (apply SY.c_list; (assumption); (exact rfl); (exact rfl); (exact rfl)) | (apply SY.c_str; (assumption); (exact rfl); (exact rfl); (exact rfl)) | (apply SY.x_tyn; (assumption); (exact rfl); (first | exact boot1_int | exact boot1_bool | exact boot1_str | exact boot1_tuple | exact boot1_list | exact boot1_dict | exact boot_VE); (decide); (decide)) | (apply SY.x_lm; (exact PySem.F.slot_list_append); (exact PySem.F.type_list_append); (exact rfl); (exact rfl); (exact rfl); (exact rfl); (exact rfl)) | (apply SY.x_lm; (exact PySem.F.slot_list_count); (exact PySem.F.type_list_count); (exact rfl); (exact rfl); (exact rfl); (exact rfl); (exact rfl)) | (apply SY.x_lm; (exact PySem.F.slot_list_index); (exact PySem.F.type_list_index); (exact rfl); (exact rfl); (exact rfl); (exact rfl); (exact rfl)) | (apply SY.x_lm; (exact PySem.F.slot_list_pop); (exact PySem.F.type_list_pop); (exact rfl); (exact rfl); (exact rfl); (exact rfl); (exact rfl)) | (apply SY.x_lm; (exact PySem.F.slot_list_insert); (exact PySem.F.type_list_insert); (exact rfl); (exact rfl); (exact rfl); (exact rfl); (exact rfl)) | (apply SY.x_lm0; (exact PySem.F.slot_list_pop); (exact PySem.F.type_list_pop); (exact rfl); (exact rfl)) | (apply SY.x_xf; (exact rfl)) | apply SY.x_slice | (apply SY.x_sub; (exact fun _ _ => rfl)) | apply SY.x_tup | apply SY.x_lst | (apply SY.x_glob; (exact rfl); (assumption); (decide)) | (apply SY.xn; (exact rfl); (exact rfl); (first | exact rfl | assumption | exact imms_ints _ | exact imms_strs _ | exact imms_cutL (imms_ints _) _ _ | exact pairs_imm _ | exact imms_repl rfl _ | exact imms_app (imms_ints _) (imms_ints _) | focus (simp [M.imm, M.imms, imms_ints, imms_strs]; done)); (exact rfl); (first | exact Or.inl rfl | exact Or.inr (Or.inl rfl) | exact Or.inr (Or.inr rfl)); (decide)) | (apply SY.xnB; (exact rfl); (exact rfl); (exact rfl); (first | exact Or.inl rfl | exact Or.inr (Or.inl rfl) | exact Or.inr (Or.inr rfl)); (decide)) | apply SY.x_int | apply SY.x_bin | (apply SY.xcmp; (first | exact nomark _ | exact rfl)) | apply SY.x_str | apply SY.x_bl | apply SY.x_non | apply SY.x_not | apply SY.x_and | apply SY.x_or | apply SY.x_one | apply SY.x_un | apply SY.x_if | (apply SY.v_len; (exact rfl); (exact rfl)) | (apply SY.v_min; (exact rfl)) | (apply SY.v_max; (exact rfl)) | apply SY.v_int | apply SY.v_intB | apply SY.v_abs | (apply SY.v_isi; (exact rfl); (exact rfl); (first | exact kb_int_int | exact kb_int_bool | exact kb_int_str | exact kb_int_tuple | exact kb_int_list | exact kb_int_dict | exact kb_tuple_int | exact kb_tuple_bool | exact kb_tuple_str | exact kb_tuple_tuple | exact kb_tuple_list | exact kb_tuple_dict | exact kb_str_int | exact kb_str_bool | exact kb_str_str | exact kb_str_tuple | exact kb_str_list | exact kb_str_dict | exact kb_bool_int | exact kb_bool_bool | exact kb_bool_str | exact kb_bool_tuple | exact kb_bool_list | exact kb_bool_dict | exact kb_list_int | exact kb_list_bool | exact kb_list_str | exact kb_list_tuple | exact kb_list_list | exact kb_list_dict | exact kb_NoneType_int | exact kb_NoneType_bool | exact kb_NoneType_str | exact kb_NoneType_tuple | exact kb_NoneType_list | exact kb_NoneType_dict | exact kb_dict_int | exact kb_dict_bool | exact kb_dict_str | exact kb_dict_tuple | exact kb_dict_list | exact kb_dict_dict)) | (apply SY.i_tup; (exact rfl); (exact rfl); (first | exact rfl | assumption | exact imms_ints _ | exact imms_strs _ | exact imms_cutL (imms_ints _) _ _ | exact pairs_imm _ | exact imms_repl rfl _ | exact imms_app (imms_ints _) (imms_ints _) | focus (simp [M.imm, M.imms, imms_ints, imms_strs]; done))) | (apply SY.i_lst; (exact rfl); (exact rfl); (first | exact rfl | assumption | exact imms_ints _ | exact imms_strs _ | exact imms_cutL (imms_ints _) _ _ | exact pairs_imm _ | exact imms_repl rfl _ | exact imms_app (imms_ints _) (imms_ints _) | focus (simp [M.imm, M.imms, imms_ints, imms_strs]; done))) | (apply SY.i_ro; (exact rfl); (exact rfl); (first | exact rfl | assumption | exact imms_ints _ | exact imms_strs _ | exact imms_cutL (imms_ints _) _ _ | exact pairs_imm _ | exact imms_repl rfl _ | exact imms_app (imms_ints _) (imms_ints _) | focus (simp [M.imm, M.imms, imms_ints, imms_strs]; done))) | apply SY.q_none | apply SY.q_some | (apply SY.sl_tup; (exact rfl); (first | exact rfl | assumption | exact imms_ints _ | exact imms_strs _ | exact imms_cutL (imms_ints _) _ _ | exact pairs_imm _ | exact imms_repl rfl _ | exact imms_app (imms_ints _) (imms_ints _) | focus (simp [M.imm, M.imms, imms_ints, imms_strs]; done))) | (apply SY.sl_lst; (exact rfl); (first | exact rfl | assumption | exact imms_ints _ | exact imms_strs _ | exact imms_cutL (imms_ints _) _ _ | exact pairs_imm _ | exact imms_repl rfl _ | exact imms_app (imms_ints _) (imms_ints _) | focus (simp [M.imm, M.imms, imms_ints, imms_strs]; done))) | (apply SY.sl_ro; (exact rfl); (first | exact rfl | assumption | exact imms_ints _ | exact imms_strs _ | exact imms_cutL (imms_ints _) _ _ | exact pairs_imm _ | exact imms_repl rfl _ | exact imms_app (imms_ints _) (imms_ints _) | focus (simp [M.imm, M.imms, imms_ints, imms_strs]; done))) | (apply SY.o_inI; (exact rfl)) | (apply SY.o_niI; (exact rfl)) | (apply SY.o_inS; (exact rfl)) | (apply SY.o_niS; (exact rfl)) | (apply SY.v_sum; (exact rfl); (exact rfl)) | (apply SY.v_sumT; (exact rfl); (exact rfl)) | (apply SY.v_tupI; (exact rfl); (first | exact rfl | assumption | exact imms_ints _ | exact imms_strs _ | exact imms_cutL (imms_ints _) _ _ | exact pairs_imm _ | exact imms_repl rfl _ | exact imms_app (imms_ints _) (imms_ints _) | focus (simp [M.imm, M.imms, imms_ints, imms_strs]; done))) | (apply SY.v_isX; (assumption); (exact rfl); (first | exact ClsV.own _ | exact ClsV.ty _); (assumption)) | (apply SY.m_countB; (exact rfl)) | (apply SY.m_indexB; (exact rfl); (exact rfl); (decide)) | (apply SY.o_isX; (exact rfl)) | (apply SY.o_isnX; (exact rfl)) | (apply SY.o_addS; (first | exact Or.inl ⟨by omega, by omega⟩ | exact Or.inr ⟨by omega, by omega⟩ | omega | exact ⟨by omega, by omega⟩ | (refine ⟨?_, ?_, ?_⟩ <;> omega) | decide | assumption)) | (apply SY.o_rep1; (exact rfl); (first | exact rfl | assumption | exact imms_ints _ | exact imms_strs _ | exact imms_cutL (imms_ints _) _ _ | exact pairs_imm _ | exact imms_repl rfl _ | exact imms_app (imms_ints _) (imms_ints _) | focus (simp [M.imm, M.imms, imms_ints, imms_strs]; done)); (first | exact Or.inl ⟨by omega, by omega⟩ | exact Or.inr ⟨by omega, by omega⟩ | omega | exact ⟨by omega, by omega⟩ | (refine ⟨?_, ?_, ?_⟩ <;> omega) | decide | assumption); (first | focus (rw [PySem.sizeLine_eq]; simp; done) | focus (rw [PySem.sizeLine_eq]; simp; omega) | assumption)) | (apply SY.o_addT; (exact rfl); (exact rfl); (first | exact rfl | assumption | exact imms_ints _ | exact imms_strs _ | exact imms_cutL (imms_ints _) _ _ | exact pairs_imm _ | exact imms_repl rfl _ | exact imms_app (imms_ints _) (imms_ints _) | focus (simp [M.imm, M.imms, imms_ints, imms_strs]; done)); (first | exact rfl | assumption | exact imms_ints _ | exact imms_strs _ | exact imms_cutL (imms_ints _) _ _ | exact pairs_imm _ | exact imms_repl rfl _ | exact imms_app (imms_ints _) (imms_ints _) | focus (simp [M.imm, M.imms, imms_ints, imms_strs]; done)); (first | focus (rw [PySem.sizeLine_eq]; simp; done) | focus (rw [PySem.sizeLine_eq]; simp; omega) | assumption)) | (apply SY.o_addL; (exact rfl); (exact rfl); (first | exact rfl | assumption | exact imms_ints _ | exact imms_strs _ | exact imms_cutL (imms_ints _) _ _ | exact pairs_imm _ | exact imms_repl rfl _ | exact imms_app (imms_ints _) (imms_ints _) | focus (simp [M.imm, M.imms, imms_ints, imms_strs]; done)); (first | exact rfl | assumption | exact imms_ints _ | exact imms_strs _ | exact imms_cutL (imms_ints _) _ _ | exact pairs_imm _ | exact imms_repl rfl _ | exact imms_app (imms_ints _) (imms_ints _) | focus (simp [M.imm, M.imms, imms_ints, imms_strs]; done)); (first | focus (rw [PySem.sizeLine_eq]; simp; done) | focus (rw [PySem.sizeLine_eq]; simp; omega) | assumption)) | apply SY.o_add | apply SY.o_sub | (apply SY.o_mul; (first | exact Or.inl ⟨by omega, by omega⟩ | exact Or.inr ⟨by omega, by omega⟩ | omega | exact ⟨by omega, by omega⟩ | (refine ⟨?_, ?_, ?_⟩ <;> omega) | decide | assumption)) | (apply SY.o_mod; (first | exact Or.inl ⟨by omega, by omega⟩ | exact Or.inr ⟨by omega, by omega⟩ | omega | exact ⟨by omega, by omega⟩ | (refine ⟨?_, ?_, ?_⟩ <;> omega) | decide | assumption)) | (apply SY.o_fdiv; (first | exact Or.inl ⟨by omega, by omega⟩ | exact Or.inr ⟨by omega, by omega⟩ | omega | exact ⟨by omega, by omega⟩ | (refine ⟨?_, ?_, ?_⟩ <;> omega) | decide | assumption)) | (apply SY.o_pow; (first | exact Or.inl ⟨by omega, by omega⟩ | exact Or.inr ⟨by omega, by omega⟩ | omega | exact ⟨by omega, by omega⟩ | (refine ⟨?_, ?_, ?_⟩ <;> omega) | decide | assumption)) | apply SY.o_lt | apply SY.o_le | apply SY.o_gt | apply SY.o_ge | apply SY.o_eqI | apply SY.o_neI | apply SY.o_eqB | apply SY.o_neB | apply SY.o_eqS | apply SY.o_neS | apply SY.u_neg | (apply SY.o_is; (exact rfl); (exact rfl)) | (apply SY.o_isnot; (exact rfl); (exact rfl)) | apply SY.o_iadd | apply SY.o_isub | (apply SY.o_imul; (first | exact Or.inl ⟨by omega, by omega⟩ | exact Or.inr ⟨by omega, by omega⟩ | omega | exact ⟨by omega, by omega⟩ | (refine ⟨?_, ?_, ?_⟩ <;> omega) | decide | assumption)) | (apply SY.o_ifdiv; (first | exact Or.inl ⟨by omega, by omega⟩ | exact Or.inr ⟨by omega, by omega⟩ | omega | exact ⟨by omega, by omega⟩ | (refine ⟨?_, ?_, ?_⟩ <;> omega) | decide | assumption)) | (apply SY.o_imod; (first | exact Or.inl ⟨by omega, by omega⟩ | exact Or.inr ⟨by omega, by omega⟩ | omega | exact ⟨by omega, by omega⟩ | (refine ⟨?_, ?_, ?_⟩ <;> omega) | decide | assumption)) | (apply SY.lst_and; (exact rfl)) | (apply SY.cal_1; (exact rfl)) | (apply SY.cal_2; (exact rfl); (exact rfl)) | (apply SY.cal_3; (exact rfl); (exact rfl); (exact rfl)) | (apply SY.cal_4; (exact rfl); (exact rfl); (exact rfl); (exact rfl)) | (apply SY.cal_5; (exact rfl); (exact rfl); (exact rfl); (exact rfl); (exact rfl)) | (apply SY.cal_6; (exact rfl); (exact rfl); (exact rfl); (exact rfl); (exact rfl); (exact rfl)) | (apply SY.cal_7; (exact rfl); (exact rfl); (exact rfl); (exact rfl); (exact rfl); (exact rfl); (exact rfl)) | apply SY.kI_i | apply SY.kAz_0 | (apply SY.kAz_1; (exact rfl)) | (apply SY.kAz_2; (exact rfl); (exact rfl)) | (apply SY.kAz_3; (exact rfl); (exact rfl); (exact rfl)) | (apply SY.kAz_4; (exact rfl); (exact rfl); (exact rfl); (exact rfl)) | (apply SY.kAz_5; (exact rfl); (exact rfl); (exact rfl); (exact rfl); (exact rfl)) | (apply SY.kAz_6; (exact rfl); (exact rfl); (exact rfl); (exact rfl); (exact rfl); (exact rfl)) | (apply SY.kAz_7; (exact rfl); (exact rfl); (exact rfl); (exact rfl); (exact rfl); (exact rfl); (exact rfl)) | (apply SY.kAz_8; (exact rfl); (exact rfl); (exact rfl); (exact rfl); (exact rfl); (exact rfl); (exact rfl); (exact rfl)) | apply SY.kAs_0 | (apply SY.kAs_1; (exact rfl)) | (apply SY.kAs_2; (exact rfl); (exact rfl)) | (apply SY.kAs_3; (exact rfl); (exact rfl); (exact rfl)) | (apply SY.kAs_4; (exact rfl); (exact rfl); (exact rfl); (exact rfl)) | (apply SY.kAs_5; (exact rfl); (exact rfl); (exact rfl); (exact rfl); (exact rfl)) | (apply SY.kAs_6; (exact rfl); (exact rfl); (exact rfl); (exact rfl); (exact rfl); (exact rfl)) | (apply SY.kAs_7; (exact rfl); (exact rfl); (exact rfl); (exact rfl); (exact rfl); (exact rfl); (exact rfl)) | (apply SY.kAs_8; (exact rfl); (exact rfl); (exact rfl); (exact rfl); (exact rfl); (exact rfl); (exact rfl); (exact rfl)) | apply SY.kB_i | apply SY.kO_o | (apply SY.kO_b; (exact rfl); (exact rfl)) | (apply SY.tcmp; (first | exact nomark _ | exact rfl)) | apply SY.t_not | (apply SY.t_w; apply SY.w_and) | (apply SY.t_w; apply SY.w_or) | (apply SY.tval; (intro _; exact rfl)) | apply SY.w_and | apply SY.w_or | apply SY.w_and1 | apply SY.w_or1 | (apply SY.acons; (exact rfl)) | apply SY.a_nil))
local macro_rules | `(tactic| k_units) => `(tactic| first | (apply SY.xcal; (assumption); (first | assumption | (apply Room.mono; assumption; decide)); (first | assumption | exact SY.tk0); (exact rfl); (decide); (exact rfl); (exact rfl)) | (apply SY.x_cell; (exact rfl); (exact rfl); (exact rfl); (first | exact Or.inl rfl | exact Or.inr (Or.inl rfl) | exact Or.inr (Or.inr rfl)); (decide); (exact fun _ _ => rfl); (exact fun _ _ => rfl); (exact fun _ _ => rfl); (exact rfl); (exact rfl)) | (apply SY.x_lencell; (exact rfl); (exact rfl); (exact rfl); (first | exact Or.inl rfl | exact Or.inr (Or.inl rfl) | exact Or.inr (Or.inr rfl)); (decide); (exact fun _ _ => rfl); (assumption); (exact rfl); (exact rfl); (exact rfl); (exact rfl)) | (apply SY.c_len; (assumption); (exact rfl); (exact rfl); (exact rfl)) | (apply SY.c_min; (assumption); (exact rfl); (exact rfl); (exact rfl)) | (apply SY.c_max; (assumption); (exact rfl); (exact rfl); (exact rfl)) | (apply SY.c_abs; (assumption); (exact rfl); (exact rfl); (exact rfl)) | (apply SY.c_sum; (assumption); (exact rfl); (exact rfl); (exact rfl)) | (apply SY.c_sorted; (assumption); (exact rfl); (exact rfl); (exact rfl)) | (apply SY.c_all; (assumption); (exact rfl); (exact rfl); (exact rfl)) | (apply SY.c_any; (assumption); (exact rfl); (exact rfl); (exact rfl)) | (apply SY.c_isinstance; (assumption); (exact rfl); (exact rfl); (exact rfl)) | (apply SY.c_int; (assumption); (exact rfl); (exact rfl); (exact rfl)) | (apply SY.c_tuple; (assumption); (exact rfl); (exact rfl); (exact rfl)) | (apply SY.c_list; (assumption); (exact rfl); (exact rfl); (exact rfl)) | (apply SY.c_str; (assumption); (exact rfl); (exact rfl); (exact rfl)) | (apply SY.x_tyn; (assumption); (exact rfl); (first | exact boot1_int | exact boot1_bool | exact boot1_str | exact boot1_tuple | exact boot1_list | exact boot1_dict | exact boot_VE); (decide); (decide)) | (apply SY.x_lm; (exact PySem.F.slot_list_append); (exact PySem.F.type_list_append); (exact rfl); (exact rfl); (exact rfl); (exact rfl); (exact rfl)) | (apply SY.x_lm; (exact PySem.F.slot_list_count); (exact PySem.F.type_list_count); (exact rfl); (exact rfl); (exact rfl); (exact rfl); (exact rfl)) | (apply SY.x_lm; (exact PySem.F.slot_list_index); (exact PySem.F.type_list_index); (exact rfl); (exact rfl); (exact rfl); (exact rfl); (exact rfl)) | (apply SY.x_lm; (exact PySem.F.slot_list_pop); (exact PySem.F.type_list_pop); (exact rfl); (exact rfl); (exact rfl); (exact rfl); (exact rfl)) | (apply SY.x_lm; (exact PySem.F.slot_list_insert); (exact PySem.F.type_list_insert); (exact rfl); (exact rfl); (exact rfl); (exact rfl); (exact rfl)) | (apply SY.x_lm0; (exact PySem.F.slot_list_pop); (exact PySem.F.type_list_pop); (exact rfl); (exact rfl)) | (apply SY.x_xf; (exact rfl)) | apply SY.x_slice | (apply SY.x_sub; (exact fun _ _ => rfl)) | apply SY.x_tup | apply SY.x_lst | (apply SY.x_glob; (exact rfl); (assumption); (decide)) | (apply SY.xn; (exact rfl); (exact rfl); (first | exact rfl | assumption | exact imms_ints _ | exact imms_strs _ | exact imms_cutL (imms_ints _) _ _ | exact pairs_imm _ | exact imms_repl rfl _ | exact imms_app (imms_ints _) (imms_ints _) | focus (simp [M.imm, M.imms, imms_ints, imms_strs]; done)); (exact rfl); (first | exact Or.inl rfl | exact Or.inr (Or.inl rfl) | exact Or.inr (Or.inr rfl)); (decide)) | (apply SY.xnB; (exact rfl); (exact rfl); (exact rfl); (first | exact Or.inl rfl | exact Or.inr (Or.inl rfl) | exact Or.inr (Or.inr rfl)); (decide)) | apply SY.x_int | apply SY.x_bin | (apply SY.xcmp; (first | exact nomark _ | exact rfl)) | apply SY.x_str | apply SY.x_bl | apply SY.x_non | apply SY.x_not | apply SY.x_and | apply SY.x_or | apply SY.x_one | apply SY.x_un | apply SY.x_if | (apply SY.v_len; (exact rfl); (exact rfl)) | (apply SY.v_min; (exact rfl)) | (apply SY.v_max; (exact rfl)) | apply SY.v_int | apply SY.v_intB | apply SY.v_abs | (apply SY.v_isi; (exact rfl); (exact rfl); (first | exact kb_int_int | exact kb_int_bool | exact kb_int_str | exact kb_int_tuple | exact kb_int_list | exact kb_int_dict | exact kb_tuple_int | exact kb_tuple_bool | exact kb_tuple_str | exact kb_tuple_tuple | exact kb_tuple_list | exact kb_tuple_dict | exact kb_str_int | exact kb_str_bool | exact kb_str_str | exact kb_str_tuple | exact kb_str_list | exact kb_str_dict | exact kb_bool_int | exact kb_bool_bool | exact kb_bool_str | exact kb_bool_tuple | exact kb_bool_list | exact kb_bool_dict | exact kb_list_int | exact kb_list_bool | exact kb_list_str | exact kb_list_tuple | exact kb_list_list | exact kb_list_dict | exact kb_NoneType_int | exact kb_NoneType_bool | exact kb_NoneType_str | exact kb_NoneType_tuple | exact kb_NoneType_list | exact kb_NoneType_dict | exact kb_dict_int | exact kb_dict_bool | exact kb_dict_str | exact kb_dict_tuple | exact kb_dict_list | exact kb_dict_dict)) | (apply SY.i_tup; (exact rfl); (exact rfl); (first | exact rfl | assumption | exact imms_ints _ | exact imms_strs _ | exact imms_cutL (imms_ints _) _ _ | exact pairs_imm _ | exact imms_repl rfl _ | exact imms_app (imms_ints _) (imms_ints _) | focus (simp [M.imm, M.imms, imms_ints, imms_strs]; done))) | (apply SY.i_lst; (exact rfl); (exact rfl); (first | exact rfl | assumption | exact imms_ints _ | exact imms_strs _ | exact imms_cutL (imms_ints _) _ _ | exact pairs_imm _ | exact imms_repl rfl _ | exact imms_app (imms_ints _) (imms_ints _) | focus (simp [M.imm, M.imms, imms_ints, imms_strs]; done))) | (apply SY.i_ro; (exact rfl); (exact rfl); (first | exact rfl | assumption | exact imms_ints _ | exact imms_strs _ | exact imms_cutL (imms_ints _) _ _ | exact pairs_imm _ | exact imms_repl rfl _ | exact imms_app (imms_ints _) (imms_ints _) | focus (simp [M.imm, M.imms, imms_ints, imms_strs]; done))) | apply SY.q_none | apply SY.q_some | (apply SY.sl_tup; (exact rfl); (first | exact rfl | assumption | exact imms_ints _ | exact imms_strs _ | exact imms_cutL (imms_ints _) _ _ | exact pairs_imm _ | exact imms_repl rfl _ | exact imms_app (imms_ints _) (imms_ints _) | focus (simp [M.imm, M.imms, imms_ints, imms_strs]; done))) | (apply SY.sl_lst; (exact rfl); (first | exact rfl | assumption | exact imms_ints _ | exact imms_strs _ | exact imms_cutL (imms_ints _) _ _ | exact pairs_imm _ | exact imms_repl rfl _ | exact imms_app (imms_ints _) (imms_ints _) | focus (simp [M.imm, M.imms, imms_ints, imms_strs]; done))) | (apply SY.sl_ro; (exact rfl); (first | exact rfl | assumption | exact imms_ints _ | exact imms_strs _ | exact imms_cutL (imms_ints _) _ _ | exact pairs_imm _ | exact imms_repl rfl _ | exact imms_app (imms_ints _) (imms_ints _) | focus (simp [M.imm, M.imms, imms_ints, imms_strs]; done))) | (apply SY.o_inI; (exact rfl)) | (apply SY.o_niI; (exact rfl)) | (apply SY.o_inS; (exact rfl)) | (apply SY.o_niS; (exact rfl)) | (apply SY.v_sum; (exact rfl); (exact rfl)) | (apply SY.v_sumT; (exact rfl); (exact rfl)) | (apply SY.v_tupI; (exact rfl); (first | exact rfl | assumption | exact imms_ints _ | exact imms_strs _ | exact imms_cutL (imms_ints _) _ _ | exact pairs_imm _ | exact imms_repl rfl _ | exact imms_app (imms_ints _) (imms_ints _) | focus (simp [M.imm, M.imms, imms_ints, imms_strs]; done))) | (apply SY.v_isX; (assumption); (exact rfl); (first | exact ClsV.own _ | exact ClsV.ty _); (assumption)) | (apply SY.m_countB; (exact rfl)) | (apply SY.m_indexB; (exact rfl); (exact rfl); (decide)) | (apply SY.o_isX; (exact rfl)) | (apply SY.o_isnX; (exact rfl)) | (apply SY.o_addS; (first | exact Or.inl ⟨by omega, by omega⟩ | exact Or.inr ⟨by omega, by omega⟩ | omega | exact ⟨by omega, by omega⟩ | (refine ⟨?_, ?_, ?_⟩ <;> omega) | decide | assumption)) | (apply SY.o_rep1; (exact rfl); (first | exact rfl | assumption | exact imms_ints _ | exact imms_strs _ | exact imms_cutL (imms_ints _) _ _ | exact pairs_imm _ | exact imms_repl rfl _ | exact imms_app (imms_ints _) (imms_ints _) | focus (simp [M.imm, M.imms, imms_ints, imms_strs]; done)); (first | exact Or.inl ⟨by omega, by omega⟩ | exact Or.inr ⟨by omega, by omega⟩ | omega | exact ⟨by omega, by omega⟩ | (refine ⟨?_, ?_, ?_⟩ <;> omega) | decide | assumption); (first | focus (rw [PySem.sizeLine_eq]; simp; done) | focus (rw [PySem.sizeLine_eq]; simp; omega) | assumption)) | (apply SY.o_addT; (exact rfl); (exact rfl); (first | exact rfl | assumption | exact imms_ints _ | exact imms_strs _ | exact imms_cutL (imms_ints _) _ _ | exact pairs_imm _ | exact imms_repl rfl _ | exact imms_app (imms_ints _) (imms_ints _) | focus (simp [M.imm, M.imms, imms_ints, imms_strs]; done)); (first | exact rfl | assumption | exact imms_ints _ | exact imms_strs _ | exact imms_cutL (imms_ints _) _ _ | exact pairs_imm _ | exact imms_repl rfl _ | exact imms_app (imms_ints _) (imms_ints _) | focus (simp [M.imm, M.imms, imms_ints, imms_strs]; done)); (first | focus (rw [PySem.sizeLine_eq]; simp; done) | focus (rw [PySem.sizeLine_eq]; simp; omega) | assumption)) | (apply SY.o_addL; (exact rfl); (exact rfl); (first | exact rfl | assumption | exact imms_ints _ | exact imms_strs _ | exact imms_cutL (imms_ints _) _ _ | exact pairs_imm _ | exact imms_repl rfl _ | exact imms_app (imms_ints _) (imms_ints _) | focus (simp [M.imm, M.imms, imms_ints, imms_strs]; done)); (first | exact rfl | assumption | exact imms_ints _ | exact imms_strs _ | exact imms_cutL (imms_ints _) _ _ | exact pairs_imm _ | exact imms_repl rfl _ | exact imms_app (imms_ints _) (imms_ints _) | focus (simp [M.imm, M.imms, imms_ints, imms_strs]; done)); (first | focus (rw [PySem.sizeLine_eq]; simp; done) | focus (rw [PySem.sizeLine_eq]; simp; omega) | assumption)) | apply SY.o_add | apply SY.o_sub | (apply SY.o_mul; (first | exact Or.inl ⟨by omega, by omega⟩ | exact Or.inr ⟨by omega, by omega⟩ | omega | exact ⟨by omega, by omega⟩ | (refine ⟨?_, ?_, ?_⟩ <;> omega) | decide | assumption)) | (apply SY.o_mod; (first | exact Or.inl ⟨by omega, by omega⟩ | exact Or.inr ⟨by omega, by omega⟩ | omega | exact ⟨by omega, by omega⟩ | (refine ⟨?_, ?_, ?_⟩ <;> omega) | decide | assumption)) | (apply SY.o_fdiv; (first | exact Or.inl ⟨by omega, by omega⟩ | exact Or.inr ⟨by omega, by omega⟩ | omega | exact ⟨by omega, by omega⟩ | (refine ⟨?_, ?_, ?_⟩ <;> omega) | decide | assumption)) | (apply SY.o_pow; (first | exact Or.inl ⟨by omega, by omega⟩ | exact Or.inr ⟨by omega, by omega⟩ | omega | exact ⟨by omega, by omega⟩ | (refine ⟨?_, ?_, ?_⟩ <;> omega) | decide | assumption)) | apply SY.o_lt | apply SY.o_le | apply SY.o_gt | apply SY.o_ge | apply SY.o_eqI | apply SY.o_neI | apply SY.o_eqB | apply SY.o_neB | apply SY.o_eqS | apply SY.o_neS | apply SY.u_neg | (apply SY.o_is; (exact rfl); (exact rfl)) | (apply SY.o_isnot; (exact rfl); (exact rfl)) | apply SY.o_iadd | apply SY.o_isub | (apply SY.o_imul; (first | exact Or.inl ⟨by omega, by omega⟩ | exact Or.inr ⟨by omega, by omega⟩ | omega | exact ⟨by omega, by omega⟩ | (refine ⟨?_, ?_, ?_⟩ <;> omega) | decide | assumption)) | (apply SY.o_ifdiv; (first | exact Or.inl ⟨by omega, by omega⟩ | exact Or.inr ⟨by omega, by omega⟩ | omega | exact ⟨by omega, by omega⟩ | (refine ⟨?_, ?_, ?_⟩ <;> omega) | decide | assumption)) | (apply SY.o_imod; (first | exact Or.inl ⟨by omega, by omega⟩ | exact Or.inr ⟨by omega, by omega⟩ | omega | exact ⟨by omega, by omega⟩ | (refine ⟨?_, ?_, ?_⟩ <;> omega) | decide | assumption)) | (apply SY.lst_and; (exact rfl)) | (apply SY.cal_1; (exact rfl)) | (apply SY.cal_2; (exact rfl); (exact rfl)) | (apply SY.cal_3; (exact rfl); (exact rfl); (exact rfl)) | (apply SY.cal_4; (exact rfl); (exact rfl); (exact rfl); (exact rfl)) | (apply SY.cal_5; (exact rfl); (exact rfl); (exact rfl); (exact rfl); (exact rfl)) | (apply SY.cal_6; (exact rfl); (exact rfl); (exact rfl); (exact rfl); (exact rfl); (exact rfl)) | (apply SY.cal_7; (exact rfl); (exact rfl); (exact rfl); (exact rfl); (exact rfl); (exact rfl); (exact rfl)) | apply SY.kI_i | apply SY.kAz_0 | (apply SY.kAz_1; (exact rfl)) | (apply SY.kAz_2; (exact rfl); (exact rfl)) | (apply SY.kAz_3; (exact rfl); (exact rfl); (exact rfl)) | (apply SY.kAz_4; (exact rfl); (exact rfl); (exact rfl); (exact rfl)) | (apply SY.kAz_5; (exact rfl); (exact rfl); (exact rfl); (exact rfl); (exact rfl)) | (apply SY.kAz_6; (exact rfl); (exact rfl); (exact rfl); (exact rfl); (exact rfl); (exact rfl)) | (apply SY.kAz_7; (exact rfl); (exact rfl); (exact rfl); (exact rfl); (exact rfl); (exact rfl); (exact rfl)) | (apply SY.kAz_8; (exact rfl); (exact rfl); (exact rfl); (exact rfl); (exact rfl); (exact rfl); (exact rfl); (exact rfl)) | apply SY.kAs_0 | (apply SY.kAs_1; (exact rfl)) | (apply SY.kAs_2; (exact rfl); (exact rfl)) | (apply SY.kAs_3; (exact rfl); (exact rfl); (exact rfl)) | (apply SY.kAs_4; (exact rfl); (exact rfl); (exact rfl); (exact rfl)) | (apply SY.kAs_5; (exact rfl); (exact rfl); (exact rfl); (exact rfl); (exact rfl)) | (apply SY.kAs_6; (exact rfl); (exact rfl); (exact rfl); (exact rfl); (exact rfl); (exact rfl)) | (apply SY.kAs_7; (exact rfl); (exact rfl); (exact rfl); (exact rfl); (exact rfl); (exact rfl); (exact rfl)) | (apply SY.kAs_8; (exact rfl); (exact rfl); (exact rfl); (exact rfl); (exact rfl); (exact rfl); (exact rfl); (exact rfl)) | apply SY.kB_i | apply SY.kO_o | (apply SY.kO_b; (exact rfl); (exact rfl)) | (apply SY.tcmp; (first | exact nomark _ | exact rfl)) | apply SY.t_not | (apply SY.t_w; apply SY.w_and) | (apply SY.t_w; apply SY.w_or) | (apply SY.tval; (intro _; exact rfl)) | apply SY.w_and | apply SY.w_or | apply SY.w_and1 | apply SY.w_or1 | (apply SY.acons; (exact rfl)) | apply SY.a_nil)
local macro_rules | `(tactic| kby_none) => `(tactic| first | exact Or.inl ⟨by omega, by omega⟩ | exact Or.inr ⟨by omega, by omega⟩ | omega | exact ⟨by omega, by omega⟩ | (refine ⟨?_, ?_, ?_⟩ <;> omega) | decide | assumption)
local macro_rules | `(tactic| kob_size) => `(tactic| first | exact rfl | assumption | exact imms_ints _ | exact imms_strs _ | exact imms_cutL (imms_ints _) _ _ | exact pairs_imm _ | exact imms_repl rfl _ | exact imms_app (imms_ints _) (imms_ints _) | focus (simp [M.imm, M.imms, imms_ints, imms_strs]; done))
local macro_rules | `(tactic| regTopObj_noattr) => `(tactic| (apply SY.ss; (exact rfl); (assumption); (exact rfl); (first | exact Or.inl rfl | exact Or.inr rfl); (exact rfl); (first | exact Or.inl rfl | exact Or.inr rfl)))
local macro_rules | `(tactic| regPS_lookup) => `(tactic| (apply SY.sa; (exact rfl); (assumption); (exact rfl); (exact rfl); (first | exact rfl | assumption | exact imms_ints _ | exact imms_strs _ | exact imms_cutL (imms_ints _) _ _ | exact pairs_imm _ | exact imms_repl rfl _ | exact imms_app (imms_ints _) (imms_ints _) | focus (simp [M.imm, M.imms, imms_ints, imms_strs]; done)); (exact rfl); (first | exact Or.inl rfl | exact Or.inr rfl); (first | exact Or.inl rfl | exact Or.inr rfl)))
local macro_rules | `(tactic| ki_room) => `(tactic| (apply Exists.intro; repeat (first | (apply SY.g_name; (exact rfl); (assumption); (exact rfl); (first | exact Or.inl rfl | exact Or.inr rfl); (first | exact Or.inl rfl | exact Or.inr rfl)) | (apply SY.g_tup; (exact rfl); (exact rfl); (exact rfl)) | (apply SY.gs_cons; (exact rfl)) | apply SY.gs_nil)))
local macro_rules | `(tactic| kl_room) => `(tactic| repeat (first | (apply SY.g_name; (exact rfl); (assumption); (exact rfl); (first | exact Or.inl rfl | exact Or.inr rfl); (first | exact Or.inl rfl | exact Or.inr rfl)) | (apply SY.g_tup; (exact rfl); (exact rfl); (exact rfl)) | (apply SY.gs_cons; (exact rfl)) | apply SY.gs_nil))
local macro_rules | `(tactic| k_ne) => `(tactic| (refine ⟨_, g_subN rfl (fun _ => rfl) ?_⟩; repeat (first | (apply SY.xcal; (assumption); (first | assumption | (apply Room.mono; assumption; decide)); (first | assumption | exact SY.tk0); (exact rfl); (decide); (exact rfl); (exact rfl)) | (apply SY.x_cell; (exact rfl); (exact rfl); (exact rfl); (first | exact Or.inl rfl | exact Or.inr (Or.inl rfl) | exact Or.inr (Or.inr rfl)); (decide); (exact fun _ _ => rfl); (exact fun _ _ => rfl); (exact fun _ _ => rfl); (exact rfl); (exact rfl)) | (apply SY.x_lencell; (exact rfl); (exact rfl); (exact rfl); (first | exact Or.inl rfl | exact Or.inr (Or.inl rfl) | exact Or.inr (Or.inr rfl)); (decide); (exact fun _ _ => rfl); (assumption); (exact rfl); (exact rfl); (exact rfl); (exact rfl)) | (apply SY.c_len; (assumption); (exact rfl); (exact rfl); (exact rfl)) | (apply SY.c_min; (assumption); (exact rfl); (exact rfl); (exact rfl)) | (apply SY.c_max; (assumption); (exact rfl); (exact rfl); (exact rfl)) | (apply SY.c_abs; (assumption); (exact rfl); (exact rfl); (exact rfl)) | (apply SY.c_sum; (assumption); (exact rfl); (exact rfl); (exact rfl)) | (apply SY.c_sorted; (assumption); (exact rfl); (exact rfl); (exact rfl)) | (apply SY.c_all; (assumption); (exact rfl); (exact rfl); (exact rfl)) | (apply SY.c_any; (assumption); (exact rfl); (exact rfl); (exact rfl)) | (apply SY.c_isinstance; (assumption); (exact rfl); (exact rfl); (exact rfl)) | (apply SY.c_int; (assumption); (exact rfl); (exact rfl); (exact rfl)) | (apply SY.c_tuple; (assumption); (exact rfl); (exact rfl); (exact rfl)) | (apply SY.c_list; (assumption); (exact rfl); (exact rfl); (exact rfl)) | (apply SY.c_str; (assumption); (exact rfl); (exact rfl); (exact rfl)) | (apply SY.x_tyn; (assumption); (exact rfl); (first | exact boot1_int | exact boot1_bool | exact boot1_str | exact boot1_tuple | exact boot1_list | exact boot1_dict | exact boot_VE); (decide); (decide)) | (apply SY.x_lm; (exact PySem.F.slot_list_append); (exact PySem.F.type_list_append); (exact rfl); (exact rfl); (exact rfl); (exact rfl); (exact rfl)) | (apply SY.x_lm; (exact PySem.F.slot_list_count); (exact PySem.F.type_list_count); (exact rfl); (exact rfl); (exact rfl); (exact rfl); (exact rfl)) | (apply SY.x_lm; (exact PySem.F.slot_list_index); (exact PySem.F.type_list_index); (exact rfl); (exact rfl); (exact rfl); (exact rfl); (exact rfl)) | (apply SY.x_lm; (exact PySem.F.slot_list_pop); (exact PySem.F.type_list_pop); (exact rfl); (exact rfl); (exact rfl); (exact rfl); (exact rfl)) | (apply SY.x_lm; (exact PySem.F.slot_list_insert); (exact PySem.F.type_list_insert); (exact rfl); (exact rfl); (exact rfl); (exact rfl); (exact rfl)) | (apply SY.x_lm0; (exact PySem.F.slot_list_pop); (exact PySem.F.type_list_pop); (exact rfl); (exact rfl)) | (apply SY.x_xf; (exact rfl)) | apply SY.x_slice | (apply SY.x_sub; (exact fun _ _ => rfl)) | apply SY.x_tup | apply SY.x_lst | (apply SY.x_glob; (exact rfl); (assumption); (decide)) | (apply SY.xn; (exact rfl); (exact rfl); (first | exact rfl | assumption | exact imms_ints _ | exact imms_strs _ | exact imms_cutL (imms_ints _) _ _ | exact pairs_imm _ | exact imms_repl rfl _ | exact imms_app (imms_ints _) (imms_ints _) | focus (simp [M.imm, M.imms, imms_ints, imms_strs]; done)); (exact rfl); (first | exact Or.inl rfl | exact Or.inr (Or.inl rfl) | exact Or.inr (Or.inr rfl)); (decide)) | (apply SY.xnB; (exact rfl); (exact rfl); (exact rfl); (first | exact Or.inl rfl | exact Or.inr (Or.inl rfl) | exact Or.inr (Or.inr rfl)); (decide)) | apply SY.x_int | apply SY.x_bin | (apply SY.xcmp; (first | exact nomark _ | exact rfl)) | apply SY.x_str | apply SY.x_bl | apply SY.x_non | apply SY.x_not | apply SY.x_and | apply SY.x_or | apply SY.x_one | apply SY.x_un | apply SY.x_if | (apply SY.v_len; (exact rfl); (exact rfl)) | (apply SY.v_min; (exact rfl)) | (apply SY.v_max; (exact rfl)) | apply SY.v_int | apply SY.v_intB | apply SY.v_abs | (apply SY.v_isi; (exact rfl); (exact rfl); (first | exact kb_int_int | exact kb_int_bool | exact kb_int_str | exact kb_int_tuple | exact kb_int_list | exact kb_int_dict | exact kb_tuple_int | exact kb_tuple_bool | exact kb_tuple_str | exact kb_tuple_tuple | exact kb_tuple_list | exact kb_tuple_dict | exact kb_str_int | exact kb_str_bool | exact kb_str_str | exact kb_str_tuple | exact kb_str_list | exact kb_str_dict | exact kb_bool_int | exact kb_bool_bool | exact kb_bool_str | exact kb_bool_tuple | exact kb_bool_list | exact kb_bool_dict | exact kb_list_int | exact kb_list_bool | exact kb_list_str | exact kb_list_tuple | exact kb_list_list | exact kb_list_dict | exact kb_NoneType_int | exact kb_NoneType_bool | exact kb_NoneType_str | exact kb_NoneType_tuple | exact kb_NoneType_list | exact kb_NoneType_dict | exact kb_dict_int | exact kb_dict_bool | exact kb_dict_str | exact kb_dict_tuple | exact kb_dict_list | exact kb_dict_dict)) | (apply SY.i_tup; (exact rfl); (exact rfl); (first | exact rfl | assumption | exact imms_ints _ | exact imms_strs _ | exact imms_cutL (imms_ints _) _ _ | exact pairs_imm _ | exact imms_repl rfl _ | exact imms_app (imms_ints _) (imms_ints _) | focus (simp [M.imm, M.imms, imms_ints, imms_strs]; done))) | (apply SY.i_lst; (exact rfl); (exact rfl); (first | exact rfl | assumption | exact imms_ints _ | exact imms_strs _ | exact imms_cutL (imms_ints _) _ _ | exact pairs_imm _ | exact imms_repl rfl _ | exact imms_app (imms_ints _) (imms_ints _) | focus (simp [M.imm, M.imms, imms_ints, imms_strs]; done))) | (apply SY.i_ro; (exact rfl); (exact rfl); (first | exact rfl | assumption | exact imms_ints _ | exact imms_strs _ | exact imms_cutL (imms_ints _) _ _ | exact pairs_imm _ | exact imms_repl rfl _ | exact imms_app (imms_ints _) (imms_ints _) | focus (simp [M.imm, M.imms, imms_ints, imms_strs]; done))) | apply SY.q_none | apply SY.q_some | (apply SY.sl_tup; (exact rfl); (first | exact rfl | assumption | exact imms_ints _ | exact imms_strs _ | exact imms_cutL (imms_ints _) _ _ | exact pairs_imm _ | exact imms_repl rfl _ | exact imms_app (imms_ints _) (imms_ints _) | focus (simp [M.imm, M.imms, imms_ints, imms_strs]; done))) | (apply SY.sl_lst; (exact rfl); (first | exact rfl | assumption | exact imms_ints _ | exact imms_strs _ | exact imms_cutL (imms_ints _) _ _ | exact pairs_imm _ | exact imms_repl rfl _ | exact imms_app (imms_ints _) (imms_ints _) | focus (simp [M.imm, M.imms, imms_ints, imms_strs]; done))) | (apply SY.sl_ro; (exact rfl); (first | exact rfl | assumption | exact imms_ints _ | exact imms_strs _ | exact imms_cutL (imms_ints _) _ _ | exact pairs_imm _ | exact imms_repl rfl _ | exact imms_app (imms_ints _) (imms_ints _) | focus (simp [M.imm, M.imms, imms_ints, imms_strs]; done))) | (apply SY.o_inI; (exact rfl)) | (apply SY.o_niI; (exact rfl)) | (apply SY.o_inS; (exact rfl)) | (apply SY.o_niS; (exact rfl)) | (apply SY.v_sum; (exact rfl); (exact rfl)) | (apply SY.v_sumT; (exact rfl); (exact rfl)) | (apply SY.v_tupI; (exact rfl); (first | exact rfl | assumption | exact imms_ints _ | exact imms_strs _ | exact imms_cutL (imms_ints _) _ _ | exact pairs_imm _ | exact imms_repl rfl _ | exact imms_app (imms_ints _) (imms_ints _) | focus (simp [M.imm, M.imms, imms_ints, imms_strs]; done))) | (apply SY.v_isX; (assumption); (exact rfl); (first | exact ClsV.own _ | exact ClsV.ty _); (assumption)) | (apply SY.m_countB; (exact rfl)) | (apply SY.m_indexB; (exact rfl); (exact rfl); (decide)) | (apply SY.o_isX; (exact rfl)) | (apply SY.o_isnX; (exact rfl)) | (apply SY.o_addS; (first | exact Or.inl ⟨by omega, by omega⟩ | exact Or.inr ⟨by omega, by omega⟩ | omega | exact ⟨by omega, by omega⟩ | (refine ⟨?_, ?_, ?_⟩ <;> omega) | decide | assumption)) | (apply SY.o_rep1; (exact rfl); (first | exact rfl | assumption | exact imms_ints _ | exact imms_strs _ | exact imms_cutL (imms_ints _) _ _ | exact pairs_imm _ | exact imms_repl rfl _ | exact imms_app (imms_ints _) (imms_ints _) | focus (simp [M.imm, M.imms, imms_ints, imms_strs]; done)); (first | exact Or.inl ⟨by omega, by omega⟩ | exact Or.inr ⟨by omega, by omega⟩ | omega | exact ⟨by omega, by omega⟩ | (refine ⟨?_, ?_, ?_⟩ <;> omega) | decide | assumption); (first | focus (rw [PySem.sizeLine_eq]; simp; done) | focus (rw [PySem.sizeLine_eq]; simp; omega) | assumption)) | (apply SY.o_addT; (exact rfl); (exact rfl); (first | exact rfl | assumption | exact imms_ints _ | exact imms_strs _ | exact imms_cutL (imms_ints _) _ _ | exact pairs_imm _ | exact imms_repl rfl _ | exact imms_app (imms_ints _) (imms_ints _) | focus (simp [M.imm, M.imms, imms_ints, imms_strs]; done)); (first | exact rfl | assumption | exact imms_ints _ | exact imms_strs _ | exact imms_cutL (imms_ints _) _ _ | exact pairs_imm _ | exact imms_repl rfl _ | exact imms_app (imms_ints _) (imms_ints _) | focus (simp [M.imm, M.imms, imms_ints, imms_strs]; done)); (first | focus (rw [PySem.sizeLine_eq]; simp; done) | focus (rw [PySem.sizeLine_eq]; simp; omega) | assumption)) | (apply SY.o_addL; (exact rfl); (exact rfl); (first | exact rfl | assumption | exact imms_ints _ | exact imms_strs _ | exact imms_cutL (imms_ints _) _ _ | exact pairs_imm _ | exact imms_repl rfl _ | exact imms_app (imms_ints _) (imms_ints _) | focus (simp [M.imm, M.imms, imms_ints, imms_strs]; done)); (first | exact rfl | assumption | exact imms_ints _ | exact imms_strs _ | exact imms_cutL (imms_ints _) _ _ | exact pairs_imm _ | exact imms_repl rfl _ | exact imms_app (imms_ints _) (imms_ints _) | focus (simp [M.imm, M.imms, imms_ints, imms_strs]; done)); (first | focus (rw [PySem.sizeLine_eq]; simp; done) | focus (rw [PySem.sizeLine_eq]; simp; omega) | assumption)) | apply SY.o_add | apply SY.o_sub | (apply SY.o_mul; (first | exact Or.inl ⟨by omega, by omega⟩ | exact Or.inr ⟨by omega, by omega⟩ | omega | exact ⟨by omega, by omega⟩ | (refine ⟨?_, ?_, ?_⟩ <;> omega) | decide | assumption)) | (apply SY.o_mod; (first | exact Or.inl ⟨by omega, by omega⟩ | exact Or.inr ⟨by omega, by omega⟩ | omega | exact ⟨by omega, by omega⟩ | (refine ⟨?_, ?_, ?_⟩ <;> omega) | decide | assumption)) | (apply SY.o_fdiv; (first | exact Or.inl ⟨by omega, by omega⟩ | exact Or.inr ⟨by omega, by omega⟩ | omega | exact ⟨by omega, by omega⟩ | (refine ⟨?_, ?_, ?_⟩ <;> omega) | decide | assumption)) | (apply SY.o_pow; (first | exact Or.inl ⟨by omega, by omega⟩ | exact Or.inr ⟨by omega, by omega⟩ | omega | exact ⟨by omega, by omega⟩ | (refine ⟨?_, ?_, ?_⟩ <;> omega) | decide | assumption)) | apply SY.o_lt | apply SY.o_le | apply SY.o_gt | apply SY.o_ge | apply SY.o_eqI | apply SY.o_neI | apply SY.o_eqB | apply SY.o_neB | apply SY.o_eqS | apply SY.o_neS | apply SY.u_neg | (apply SY.o_is; (exact rfl); (exact rfl)) | (apply SY.o_isnot; (exact rfl); (exact rfl)) | apply SY.o_iadd | apply SY.o_isub | (apply SY.o_imul; (first | exact Or.inl ⟨by omega, by omega⟩ | exact Or.inr ⟨by omega, by omega⟩ | omega | exact ⟨by omega, by omega⟩ | (refine ⟨?_, ?_, ?_⟩ <;> omega) | decide | assumption)) | (apply SY.o_ifdiv; (first | exact Or.inl ⟨by omega, by omega⟩ | exact Or.inr ⟨by omega, by omega⟩ | omega | exact ⟨by omega, by omega⟩ | (refine ⟨?_, ?_, ?_⟩ <;> omega) | decide | assumption)) | (apply SY.o_imod; (first | exact Or.inl ⟨by omega, by omega⟩ | exact Or.inr ⟨by omega, by omega⟩ | omega | exact ⟨by omega, by omega⟩ | (refine ⟨?_, ?_, ?_⟩ <;> omega) | decide | assumption)) | (apply SY.lst_and; (exact rfl)) | (apply SY.cal_1; (exact rfl)) | (apply SY.cal_2; (exact rfl); (exact rfl)) | (apply SY.cal_3; (exact rfl); (exact rfl); (exact rfl)) | (apply SY.cal_4; (exact rfl); (exact rfl); (exact rfl); (exact rfl)) | (apply SY.cal_5; (exact rfl); (exact rfl); (exact rfl); (exact rfl); (exact rfl)) | (apply SY.cal_6; (exact rfl); (exact rfl); (exact rfl); (exact rfl); (exact rfl); (exact rfl)) | (apply SY.cal_7; (exact rfl); (exact rfl); (exact rfl); (exact rfl); (exact rfl); (exact rfl); (exact rfl)) | apply SY.kI_i | apply SY.kAz_0 | (apply SY.kAz_1; (exact rfl)) | (apply SY.kAz_2; (exact rfl); (exact rfl)) | (apply SY.kAz_3; (exact rfl); (exact rfl); (exact rfl)) | (apply SY.kAz_4; (exact rfl); (exact rfl); (exact rfl); (exact rfl)) | (apply SY.kAz_5; (exact rfl); (exact rfl); (exact rfl); (exact rfl); (exact rfl)) | (apply SY.kAz_6; (exact rfl); (exact rfl); (exact rfl); (exact rfl); (exact rfl); (exact rfl)) | (apply SY.kAz_7; (exact rfl); (exact rfl); (exact rfl); (exact rfl); (exact rfl); (exact rfl); (exact rfl)) | (apply SY.kAz_8; (exact rfl); (exact rfl); (exact rfl); (exact rfl); (exact rfl); (exact rfl); (exact rfl); (exact rfl)) | apply SY.kAs_0 | (apply SY.kAs_1; (exact rfl)) | (apply SY.kAs_2; (exact rfl); (exact rfl)) | (apply SY.kAs_3; (exact rfl); (exact rfl); (exact rfl)) | (apply SY.kAs_4; (exact rfl); (exact rfl); (exact rfl); (exact rfl)) | (apply SY.kAs_5; (exact rfl); (exact rfl); (exact rfl); (exact rfl); (exact rfl)) | (apply SY.kAs_6; (exact rfl); (exact rfl); (exact rfl); (exact rfl); (exact rfl); (exact rfl)) | (apply SY.kAs_7; (exact rfl); (exact rfl); (exact rfl); (exact rfl); (exact rfl); (exact rfl); (exact rfl)) | (apply SY.kAs_8; (exact rfl); (exact rfl); (exact rfl); (exact rfl); (exact rfl); (exact rfl); (exact rfl); (exact rfl)) | apply SY.kB_i | apply SY.kO_o | (apply SY.kO_b; (exact rfl); (exact rfl)) | (apply SY.tcmp; (first | exact nomark _ | exact rfl)) | apply SY.t_not | (apply SY.t_w; apply SY.w_and) | (apply SY.t_w; apply SY.w_or) | (apply SY.tval; (intro _; exact rfl)) | apply SY.w_and | apply SY.w_or | apply SY.w_and1 | apply SY.w_or1 | (apply SY.acons; (exact rfl)) | apply SY.a_nil); refine ⟨_, _, _, _, _, _, rfl, rfl, rfl, rfl, rfl, rfl, rfl, ?_⟩))
local macro_rules | `(tactic| krn_ne) => `(tactic| first | exact Or.inl rfl | exact Or.inr rfl)
namespace K40
def top (i : Nat) : Stmt := PySem.Challenge.pw_blindslots_k40_whole_orders_counted.main.body.getD i (.Pass ⟨0, 0, 0, 0⟩)
abbrev s_law_mix : Stmt := top 21
theorem sc_law_mix : FnScope ["number", "turn", "value"] ["number", "turn"] (defScope s_law_mix) := ⟨rfl, rfl, rfl, by decide +kernel, rfl, by decide +kernel, by decide +kernel⟩
abbrev s_law_store : Stmt := top 22
theorem sc_law_store : FnScope ["script", "mixed", "cell"] ["script"] (defScope s_law_store) := ⟨rfl, rfl, rfl, by decide +kernel, rfl, by decide +kernel, by decide +kernel⟩
abbrev s_law_pick : Stmt := top 23
theorem sc_law_pick : FnScope ["store", "count", "cell", "digit"] ["store", "count"] (defScope s_law_pick) := ⟨rfl, rfl, rfl, by decide +kernel, rfl, by decide +kernel, by decide +kernel⟩
abbrev s_law_is_int : Stmt := top 24
theorem sc_law_is_int : FnScope ["value", "least"] ["value", "least"] (defScope s_law_is_int) := ⟨rfl, rfl, rfl, by decide +kernel, rfl, by decide +kernel, by decide +kernel⟩

structure Sto where
  cells : List Int
  i : Nat
  left : Int
  mixed : Int
  n : Int
def Sto.m (s : Sto) : M := .lst [.lst (s.cells.map M.int), .int s.i, .int s.left, .int s.mixed, .int s.n]
def Sto.ok (s : Sto) (k : Int) : Prop := 0 ≤ s.left ∧ 0 ≤ s.n ∧ s.n ≤ k
def sp_mix : MSp := fun ms Q _ => ∃ n t : Int, ms = [.int n, .int t] ∧ 0 ≤ t ∧ t < 2 ^ 40 ∧ ∀ r, 0 ≤ r → Q ms (.int r)
def sp_store : MSp := fun ms Q _ => ∃ ns : List Int, ms = [.ro (ns.map M.int)] ∧ ns.length < 2 ^ 20 ∧ ∀ s : Sto, s.ok 0 → Q ms s.m
def sp_pick : MSp := fun ms Q _ => ∃ (s : Sto) (c k : Int), ms = [s.m, .int c] ∧ s.ok k ∧ k < 2 ^ 38 ∧ 1 ≤ c ∧ c < 2 ^ 29 ∧ ∀ (s' : Sto) (r : Int), s'.ok (k + 1) → 0 ≤ r → r < c → Q [s'.m, .int c] (.int r)
section
variable {P : Program} {w : World} {K : PySem.W.Frag} {mg : Str → Option Value} {base : Heap} {f : Addr} {fd : FuncData}
theorem f_mix (F : Fun K "_law_mix" "_law_mix" s_law_mix f fd) : FnOk P w K mg base (L2.CX P w) 1 f fd ["number", "turn"] (toSp K sp_mix) := by
  refine fn_sy F sc_law_mix (fun ms Q E h => by obtain ⟨n, t, rfl, _⟩ := h; rfl) (fun cdv A outer s H E G ms Q Em hr h tk po => ?_)
  have nd := sc_law_mix.nd
  obtain ⟨n, t, rfl, h0, h1, k⟩ := h
  refine b_cons ?_; regTopObj_noattr; kl_some
  refine b_cons ?_; regTopObj_noattr; kl_some
  refine b_one (s_ret ?_); kl_some
  refine ⟨_, .arg (.arg .nil), k _ ?_⟩
  omega
theorem f_store (F : Fun K "_law_store" "_law_store" s_law_store f fd) (mlen : mg "len" = none) : FnOk P w K mg base (L2.CX P w) 1 f fd ["script"] (toSp K sp_store) := by
  refine fn_sy F sc_law_store (fun ms Q E h => by obtain ⟨n, rfl, _⟩ := h; rfl) (fun cdv A outer s H E G ms Q Em hr h tk po => ?_)
  have nd := sc_law_store.nd
  obtain ⟨ns, rfl, hl, k⟩ := h
  refine b_cons ?_; regTopObj_noattr; kl_some
  refine b_cons ?_
  refine s_for po rfl (fun _ => rfl) (r_lst ?_); kl_some
  refine ⟨_, rfl, imms_cutL (imms_ints ns) _ _, fun _ e => ∃ (x : Int) (sl : Slot), e = [.a 0 (.ro (ns.map M.int)), .v (.int x), sl], ⟨_, _, rfl⟩, ?_, ?_, ?_⟩
  · rintro i e ⟨x, sl, rfl⟩; rfl
  · rintro i e m hm ⟨x, sl, rfl⟩
    rw [cutL_map] at hm
    obtain ⟨c, _, rfl⟩ := map_get hm
    refine ⟨_, g_name rfl nd rfl (Or.inl rfl) (Or.inl rfl) ?_⟩
    refine b_one ?_; regTopObj_noattr; kl_some
    exact ⟨_, _, rfl⟩
  · rintro e ⟨x, sl, rfl⟩
    refine b_one (s_ret ?_); kl_some
    refine ⟨_, .arg .nil, ?_⟩
    rw [cutL_map]
    exact k ⟨cutL ns none (some 63), 0, 0, x, 0⟩ ⟨Int.le_refl 0, Int.le_refl 0, Int.le_refl 0⟩
theorem f_pick (F : Fun K "_law_pick" "_law_pick" s_law_pick f fd) (mlen : mg "len" = none) (Fm : FnG P w K mg base 1 "_law_mix" sp_mix) : FnOk P w K mg base (L2.CX P w) 2 f fd ["store", "count"] (toSp K sp_pick) := by
  refine fn_sy F sc_law_pick (fun ms Q E h => by obtain ⟨s, n, _, rfl, _⟩ := h; rfl) (fun cdv A outer s H E G ms Q Em hr h tk po => ?_)
  have nd := sc_law_pick.nd
  obtain ⟨⟨cells, i, left, mixed, n⟩, c, kk, rfl, ⟨h1, h2, h3⟩, hk, hc, hc2, k⟩ := h
  simp only at h1 h2 h3
  refine b_cons (s_asg rfl rfl rfl ?_); kl_some
  refine ⟨_, g_subN rfl (fun _ => rfl) ?_⟩; kl_some
  refine ⟨_, _, _, _, _, _, rfl, rfl, rfl, rfl, rfl, rfl, rfl, ?_⟩
  refine Xb.at [.a 0 (.lst [.lst (cells.map M.int), .int i, .int left, .int mixed, .int (n + 1)]), .a 1 (.int c), .un, .un] rfl ?_
  refine b_cut (fun e => ∃ (i' : Nat) (left' : Int) (sl : SY.Slot), 0 ≤ left' ∧ e = [.a 0 (.lst [.lst (cells.map M.int), .int i', .int left', .int mixed, .int (n + 1)]), .a 1 (.int c), sl, .un]) ?_ ?_
  · refine s_if ?_; kl_some
    refine ⟨fun b1 => ?_, fun b1 => ⟨fun z => (by cases z), fun _ => b_nil ⟨i, left, _, h1, rfl⟩⟩⟩
    kl_some
    refine ⟨fun b2 => ?_, fun b2 => b_nil ⟨i, left, _, h1, rfl⟩⟩
    have hi : i < cells.length := by simpa using b2
    refine b_cons ?_; regTopObj_noattr
    refine x_cell rfl rfl rfl (Or.inl rfl) (by decide) (fun _ _ => rfl) (fun _ _ => rfl) (fun _ _ => rfl) rfl rfl (m := .int cells[i]) ?_ rfl ?_
    · exact atIn (by rw [List.getElem?_map, List.getElem?_eq_getElem hi]; rfl)
    kl_some
    refine b_cons (s_asg rfl rfl rfl ?_); kl_some
    refine ⟨_, g_subN rfl (fun _ => rfl) ?_⟩; kl_some
    refine ⟨_, _, _, _, _, _, rfl, rfl, rfl, rfl, rfl, rfl, rfl, ?_⟩
    refine Xb.at [.a 0 (.lst [.lst (cells.map M.int), .int (i + 1 : Nat), .int left, .int mixed, .int (n + 1)]), .a 1 (.int c), .v (.int cells[i]), .un] rfl ?_
    refine b_cons (s_if ?_); kl_some
    refine ⟨fun b3 => ?_, fun b3 => ?_⟩
    · refine b_one (s_ret ?_); kl_some
      refine ⟨_, _, rfl, by omega, by omega, fun r hr => ⟨_, rfl, ?_⟩⟩
      kl_some
      refine ⟨_, .arg (.arg .nil), k ⟨cells, i + 1, left, mixed, n + 1⟩ _ ⟨h1, by show 0 ≤ n + 1; omega, by show n + 1 ≤ kk + 1; omega⟩ (Int.emod_nonneg _ (by omega)) (Int.emod_lt_of_pos _ (by omega))⟩
    · have hb : ¬ cells[i] < 10 ^ 18 := by simpa using b3
      refine b_nil ?_
      refine b_one (s_asg rfl rfl rfl ?_); kl_some
      refine ⟨_, g_subN rfl (fun _ => rfl) ?_⟩; kl_some
      refine ⟨_, _, _, _, _, _, rfl, rfl, rfl, rfl, rfl, rfl, rfl, ?_⟩
      exact ⟨i + 1, cells[i], _, by omega, rfl⟩
  · rintro e ⟨i', left', sl, hl, rfl⟩
    refine b_cons (s_if ?_); kl_some
    refine ⟨fun b3 => ?_, fun b3 => b_nil ?_⟩
    · have hp : 0 < left' := by simpa using b3
      refine b_cons ?_; regTopObj_noattr; kl_some
      refine b_cons (s_asg rfl rfl rfl ?_); kl_some
      refine ⟨_, g_subN rfl (fun _ => rfl) ?_⟩; kl_some
      refine ⟨_, _, _, _, _, _, rfl, rfl, rfl, rfl, rfl, rfl, rfl, ?_⟩
      refine b_one (s_ret ?_); kl_some
      exact ⟨_, .arg (.arg .nil), k ⟨cells, i', left' / c, mixed, n + 1⟩ _ ⟨Int.ediv_nonneg hl (by omega), by show 0 ≤ n + 1; omega, by show n + 1 ≤ kk + 1; omega⟩ (Int.emod_nonneg _ (by omega)) (Int.emod_lt_of_pos _ (by omega))⟩
    · refine b_one (s_ret ?_); kl_some
      refine ⟨_, _, rfl, by omega, by omega, fun r hr => ⟨_, rfl, ?_⟩⟩
      kl_some
      exact ⟨_, .arg (.arg .nil), k ⟨cells, i', left', mixed, n + 1⟩ _ ⟨hl, by show 0 ≤ n + 1; omega, by show n + 1 ≤ kk + 1; omega⟩ (Int.emod_nonneg _ (by omega)) (Int.emod_lt_of_pos _ (by omega))⟩
end
end K40
open PySem L2 SY
open PyProof.Rows (envOfC)
namespace K40
abbrev s_is_integer : Stmt := top 15
theorem sc_is_integer : FnScope ["value", "least"] ["value", "least"] (defScope s_is_integer) := ⟨rfl, rfl, rfl, by decide +kernel, rfl, by decide +kernel, by decide +kernel⟩
abbrev s_law_parted : Stmt := top 26
theorem sc_law_parted : FnScope ["total", "count", "rows", "k", "longer", "row", "left", "length"] ["total", "count"] (defScope s_law_parted) := ⟨rfl, rfl, rfl, by decide +kernel, rfl, by decide +kernel, by decide +kernel⟩
/-- an integer from a least one on -/
def sp_isint : MSp := fun ms Q _ => ∃ v l : Int, ms = [.int v, .int l] ∧ Q ms (.bl (decide (l ≤ v)))
def stepP (p : List Int × Int) : List (List Int × Int) := (List.range p.2.toNat).map fun (i : Nat) => (p.1 ++ [1 + (i : Int)], p.2 - (1 + (i : Int)))
def rowsP (total : Int) : Nat → List (List Int × Int)
  | 0 => [([], total)]
  | k + 1 => (rowsP total k).flatMap stepP
def intsM (r : List Int) : M := .tup (r.map M.int)
def rowM (p : List Int × Int) : M := .tup [intsM p.1, .int p.2]
def parted (total : Int) (k : Nat) : List (List Int) := ((rowsP total k).filter fun p => decide (p.2 = 0)).map (·.1)
theorem intsM_imm (r : List Int) : (intsM r).imm = true := by show M.imms (r.map M.int) = true; exact imms_ints r
theorem rowM_imm (p : List Int × Int) : (rowM p).imm = true := by show ((intsM p.1).imm && (true && true)) = true; rw [intsM_imm]; rfl
theorem rowsP_small (total : Int) (h : total ≤ 11) (h' : 0 ≤ total) : ∀ k, (rowsP total k).length ≤ 11 ^ k ∧ ∀ p ∈ rowsP total k, p.2 ≤ 11 ∧ p.1.length = k ∧ 0 ≤ p.2
  | 0 => by simp [rowsP, h, h']
  | k + 1 => by
    obtain ⟨h1, h2⟩ := rowsP_small total h h' k
    have st : ∀ p ∈ rowsP total k, (stepP p).length ≤ 11 := fun p hp => by
      have := (h2 p hp).1
      simp [stepP]; omega
    constructor
    · have : ∀ l : List (List Int × Int), (∀ p ∈ l, (stepP p).length ≤ 11) → (l.flatMap stepP).length ≤ l.length * 11 := by
        intro l
        induction l with
        | nil => intro _; simp
        | cons p l ih =>
          intro hp
          have a := hp p (List.mem_cons_self ..)
          have b := ih fun q hq => hp q (List.mem_cons_of_mem _ hq)
          rw [List.flatMap_cons, List.length_append, List.length_cons]; omega
      have := this _ st
      rw [Nat.pow_succ]
      exact Nat.le_trans this (Nat.mul_le_mul_right _ h1)
    · intro q hq
      obtain ⟨p, hp, hq⟩ := List.mem_flatMap.mp hq
      obtain ⟨i, hi, rfl⟩ := List.mem_map.mp hq
      have a := h2 p hp
      have b := List.mem_range.mp hi
      exact ⟨by simp only; omega, by simp [a.2.1], by simp only; omega⟩
def sp_parted : MSp := fun ms Q _ => ∃ total count : Int, ms = [.int total, .int count] ∧ 0 ≤ total ∧ total ≤ 11 ∧ 0 ≤ count ∧ count ≤ 4 ∧ Q ms (.lst ((parted total count.toNat).map intsM))
section
variable {P : Program} {w : World} {K : PySem.W.Frag} {mg : Str → Option Value} {base : Heap} {f : Addr} {fd : FuncData}
theorem f_law_is_int (F : Fun K "_law_is_int" "_law_is_int" s_law_is_int f fd) (mi : mg "isinstance" = none) (m1 : mg "int" = none) (m2 : mg "bool" = none) : FnOk P w K mg base (L2.CX P w) 1 f fd ["value", "least"] (toSp K sp_isint) := by
  refine fn_sy F sc_law_is_int (fun ms Q E h => by obtain ⟨n, t, rfl, _⟩ := h; rfl) (fun cdv A outer s H E G ms Q Em hr h tk po => ?_)
  have nd := sc_law_is_int.nd
  obtain ⟨v, l, rfl, k⟩ := h
  refine b_one (s_ret ?_); kl_some
  refine ⟨fun _ => ?_, fun z => (by cases z)⟩; kl_some
  refine ⟨fun _ => ?_, fun z => (by cases z)⟩; kl_some
  exact ⟨_, .arg (.arg .nil), k⟩
theorem f_is_integer (F : Fun K "is_integer" "is_integer" s_is_integer f fd) (mi : mg "isinstance" = none) (m1 : mg "int" = none) (m2 : mg "bool" = none) : FnOk P w K mg base (L2.CX P w) 1 f fd ["value", "least"] (toSp K sp_isint) := by
  refine fn_sy F sc_is_integer (fun ms Q E h => by obtain ⟨n, t, rfl, _⟩ := h; rfl) (fun cdv A outer s H E G ms Q Em hr h tk po => ?_)
  have nd := sc_is_integer.nd
  obtain ⟨v, l, rfl, k⟩ := h
  refine b_one (s_ret ?_); kl_some
  refine ⟨fun _ => ?_, fun z => (by cases z)⟩; kl_some
  refine ⟨fun _ => ?_, fun z => (by cases z)⟩; kl_some
  exact ⟨_, .arg (.arg .nil), k⟩
theorem f_parted (F : Fun K "_law_parted" "_law_parted" s_law_parted f fd) (mr : mg "range" = none) : FnOk P w K mg base (L2.CX P w) 1 f fd ["total", "count"] (toSp K sp_parted) := by
  refine fn_sy F sc_law_parted (fun ms Q E h => by obtain ⟨n, t, rfl, _⟩ := h; rfl) (fun cdv A outer s H E G ms Q Em hr h tk po => ?_)
  have nd := sc_law_parted.nd
  obtain ⟨total, count, rfl, t0, t1, c0, c1, k⟩ := h
  refine b_cons ?_; regTopObj_noattr; kl_some
  refine b_cons (s_for po rfl (fun _ => rfl) (r_range1 mr rfl rfl ?_)); kl_some
  refine ⟨⟨by omega, by omega⟩, fun i e => ∃ s3 s4 s5 s6 s7, e = [.a 0 (.int total), .a 1 (.int count), .v (.lst ((rowsP total i).map rowM)), s3, s4, s5, s6, s7], ⟨_, _, _, _, _, rfl⟩, fun _ _ _ => True.intro, ?_, ?_⟩
  · rintro i e m hm ⟨s3, s4, s5, s6, s7, rfl⟩
    obtain ⟨hi, rfl⟩ := rangeM_get hm
    ki_room
    refine b_cons ?_; regTopObj_noattr; kl_some
    refine b_cons (s_for po rfl (fun _ => rfl) (r_lst ?_)); kl_some
    refine ⟨_, rfl, imms_map rowM_imm _, fun j e => ∃ s5 s6 s7, e = [.a 0 (.int total), .a 1 (.int count), .v (.lst ((rowsP total i).map rowM)), .v (.int (0 + i)), .v (.lst ((((rowsP total i).take j).flatMap stepP).map rowM)), s5, s6, s7], ⟨_, _, _, rfl⟩, ?_, ?_, ?_⟩
    · rintro j e ⟨s5, s6, s7, rfl⟩; rfl
    · rintro j e m hm ⟨s5, s6, s7, rfl⟩
      obtain ⟨⟨row, left⟩, hp, rfl⟩ := map_get hm
      obtain ⟨z1, z2⟩ := rowsP_small total t1 t0 i
      obtain ⟨hb, hl, hb0⟩ := z2 _ (List.mem_of_getElem? hp)
      simp only at hb hl hb0
      ki_room
      refine Xb.at [.a 0 (.int total), .a 1 (.int count), .v (.lst ((rowsP total i).map rowM)), .v (.int (0 + i)), .v (.lst ((((rowsP total i).take j).flatMap stepP).map rowM)), .v (intsM row), .v (.int left), s7] rfl ?_
      refine b_one ?_; regTopObj_noattr
      refine x_bin ?_; kl_some
      refine x_lc rfl nd (blkOk_by (own := [("length", 7)]) rfl) (fun _ => rfl) (r_range2 mr rfl rfl rfl ?_); kl_some
      refine ⟨by omega, ?_⟩
      refine lcw_map (fun a => rowM (row ++ [1 + (a : Int)], left - (1 + (a : Int)))) _ rfl rfl rfl True.intro (fun a _ => rowM_imm _) (by rw [rangeM_length]; exact le_sizeLine (by omega)) (fun a m hm => ?_) ?_
      · obtain ⟨ha, rfl⟩ := rangeM_get hm
        refine ⟨[7], fun j hj => hj, fun acc s H C cl fp => ?_⟩
        kl_room
        intro s H C cl fp
        refine x_tup ?_
        refine acons rfl ?_
        refine x_bin ?_; kl_some
        refine ⟨?_, rfl⟩
        show some (M.tup [M.tup (row.map M.int ++ [M.int (1 + (a : Int))]), M.int (left - (1 + (a : Int)))]) = some (rowM (row ++ [1 + (a : Int)], left - (1 + (a : Int))))
        rw [rowM, intsM, List.map_append]; rfl
      have hst : ((List.range (rangeM 1 (left + 1 - 1).toNat).length).map fun (a : Nat) => rowM (row ++ [1 + (a : Int)], left - (1 + (a : Int)))) = (stepP (row, left)).map rowM := by
        rw [rangeM_length, stepP, List.map_map, show left + 1 - 1 = left by omega]; rfl
      rw [hst]
      have hlen : ((((rowsP total i).take j).flatMap stepP).map rowM).length + ((stepP (row, left)).map rowM).length ≤ 16777216 := by
        rw [← List.length_append, ← List.map_append, ← take_succ_flat _ _ hp, List.length_map]
        have h1 : ((rowsP total i).take (j + 1)).flatMap stepP <+: (rowsP total i).flatMap stepP := by
          refine ⟨((rowsP total i).drop (j + 1)).flatMap stepP, ?_⟩
          rw [← List.flatMap_append, List.take_append_drop]
        have h2 := h1.length_le
        have h3 := (rowsP_small total t1 t0 (i + 1)).1
        have h4 : (11 : Nat) ^ (i + 1) ≤ 11 ^ 4 := Nat.pow_le_pow_right (by omega) (by omega)
        have h5 : (rowsP total (i + 1)).length = ((rowsP total i).flatMap stepP).length := rfl
        have h6 : (11 : Nat) ^ 4 = 14641 := by decide
        omega
      refine o_addL rfl rfl (imms_map rowM_imm _) (imms_map rowM_imm _) (le_sizeLine hlen) ?_; kl_some
      refine ⟨.v (intsM row), .v (.int left), .un, ?_⟩
      rw [take_succ_flat _ _ hp, List.map_append]
      rfl
    · rintro e ⟨s5, s6, s7, rfl⟩
      refine b_one ?_; regTopObj_noattr; kl_some
      refine ⟨.v (.int (0 + i)), .un, s5, s6, s7, ?_⟩
      rw [List.take_of_length_le (by rw [List.length_map]; exact Nat.le_refl _)]
      rfl
  · rintro e ⟨s3, s4, s5, s6, s7, rfl⟩
    refine b_one (s_ret ?_)
    rw [rangeM_length]
    refine x_lcif rfl nd (blkOk_by (own := [("row", 5), ("left", 6)]) rfl) (fun _ => rfl) (r_lst ?_); kl_some
    refine ⟨_, rfl, imms_map rowM_imm _, ?_⟩
    obtain ⟨z1, z2⟩ := rowsP_small total t1 t0 count.toNat
    have h4 : (11 : Nat) ^ count.toNat ≤ 11 ^ 4 := Nat.pow_le_pow_right (by omega) (by omega)
    have h6 : (11 : Nat) ^ 4 = 14641 := by decide
    refine lcw_fil (fun a => intsM ((rowsP total count.toNat).getD a ([], 0)).1) (fun a => decide (((rowsP total count.toNat).getD a ([], 0)).2 = 0)) _ rfl rfl rfl rfl (fun a _ => intsM_imm _) (le_sizeLine (by rw [List.length_map]; omega)) (fun a m hm => ?_) ?_
    · obtain ⟨⟨row, left⟩, hp, rfl⟩ := map_get hm
      simp only [getD_at hp]
      refine ⟨[5] ++ ([6] ++ []), fun j hj => hj, fun acc s H C cl fp => ?_⟩
      kl_room
      intro s H C cl fp
      kl_some
      refine ⟨rfl, fun _ => rfl, fun _ s H C cl fp => ?_⟩
      kl_some
      exact ⟨rfl, rfl⟩
    · rw [List.length_map, range_fil (rowsP total count.toNat) ([], 0) (fun p => decide (p.2 = 0)) fun p => intsM p.1]
      kl_some
      refine ⟨_, .arg (.arg .nil), ?_⟩
      rw [show ((rowsP total count.toNat).filter fun p => decide (p.2 = 0)).map (fun p => intsM p.1) = (parted total count.toNat).map intsM by rw [parted, List.map_map]; rfl]
      exact k
end
end K40
open PySem L2 SY
open PyProof.Rows (envOfC)
namespace K40
abbrev s_law_orders : Stmt := top 27
theorem sc_law_orders : FnScope ["count", "rows", "k", "longer", "row", "entry"] ["count"] (defScope s_law_orders) := ⟨rfl, rfl, rfl, by decide +kernel, rfl, by decide +kernel, by decide +kernel⟩
abbrev s_law_partitions : Stmt := top 28
theorem sc_law_partitions : FnScope ["rest", "most", "table", "part", "size"] ["rest", "most"] (defScope s_law_partitions) := ⟨rfl, rfl, rfl, by decide +kernel, rfl, by decide +kernel, by decide +kernel⟩
def stepO (n : Nat) (row : List Int) : List (List Int) := ((List.range n).filter fun (a : Nat) => !decide ((a : Int) ∈ row)).map fun (a : Nat) => row ++ [(a : Int)]
def rowsO (n : Nat) : Nat → List (List Int)
  | 0 => [[]]
  | k + 1 => (rowsO n k).flatMap (stepO n)
theorem rowsO_small (n : Nat) (h : n ≤ 4) : ∀ k, (rowsO n k).length ≤ 4 ^ k ∧ ∀ p ∈ rowsO n k, p.length = k
  | 0 => by simp [rowsO]
  | k + 1 => by
    obtain ⟨h1, h2⟩ := rowsO_small n h k
    have st : ∀ p, (stepO n p).length ≤ 4 := fun p => by
      have := List.length_filter_le (fun a : Nat => !decide ((a : Int) ∈ p)) (List.range n)
      simp [stepO] at *; omega
    constructor
    · have : ∀ l : List (List Int), (l.flatMap (stepO n)).length ≤ l.length * 4 := by
        intro l
        induction l with
        | nil => simp
        | cons p l ih =>
          have a := st p
          rw [List.flatMap_cons, List.length_append, List.length_cons]; omega
      have := this (rowsO n k)
      rw [Nat.pow_succ]
      exact Nat.le_trans this (Nat.mul_le_mul_right _ h1)
    · intro q hq
      obtain ⟨p, hp, hq⟩ := List.mem_flatMap.mp hq
      obtain ⟨i, hi, rfl⟩ := List.mem_map.mp hq
      simp [h2 p hp]
def sp_orders : MSp := fun ms Q _ => ∃ n : Nat, ms = [.int n] ∧ n ≤ 4 ∧ Q ms (.lst ((rowsO n n).map intsM))
/-- one place of the table -/
def upT (part : Nat) (t : List Int) (size : Nat) : List Int := t.set size (t.getD size 0 + t.getD (size - part) 0)
def loopT (part rest : Nat) (t : List Int) (k : Nat) : List Int := (List.range k).foldl (fun t a => upT part t (part + a)) t
def tabT (rest : Nat) (k : Nat) : List Int := (List.range k).foldl (fun t a => loopT (1 + a) rest t (rest + 1 - (1 + a))) (1 :: List.replicate rest 0)
def ways (rest most : Nat) : Int := (tabT rest most).getD rest 0
theorem upT_length (p : Nat) (t : List Int) (s : Nat) : (upT p t s).length = t.length := by simp [upT]
theorem loopT_length (p r : Nat) (t : List Int) : ∀ k, (loopT p r t k).length = t.length
  | 0 => rfl
  | k + 1 => by
    rw [loopT, List.range_succ, List.foldl_append]
    show (upT p (loopT p r t k) (p + k)).length = _
    rw [upT_length, loopT_length p r t k]
theorem tabT_length (r : Nat) : ∀ k, (tabT r k).length = r + 1
  | 0 => by simp [tabT]
  | k + 1 => by
    rw [tabT, List.range_succ, List.foldl_append]
    show (loopT (1 + k) r (tabT r k) _).length = _
    rw [loopT_length, tabT_length r k]
theorem loopT_succ (p r : Nat) (t : List Int) (k : Nat) : loopT p r t (k + 1) = upT p (loopT p r t k) (p + k) := by rw [loopT, List.range_succ, List.foldl_append]; rfl
theorem tabT_succ (r k : Nat) : tabT r (k + 1) = loopT (1 + k) r (tabT r k) (r + 1 - (1 + k)) := by rw [tabT, List.range_succ, List.foldl_append]; rfl
theorem getD_int {t : List Int} {i : Nat} (h : i < t.length) : (t.map M.int)[i]? = some (.int (t.getD i 0)) := by
  rw [List.getElem?_map, List.getElem?_eq_getElem h, List.getD_eq_getElem?_getD, List.getElem?_eq_getElem h]; rfl
theorem map_set_int (t : List Int) (i : Nat) (x : Int) : (t.map M.int).set i (.int x) = (t.set i x).map M.int := by rw [List.map_set]
def sp_partitions : MSp := fun ms Q _ => ∃ rest most : Nat, ms = [.int rest, .int most] ∧ rest ≤ 100000 ∧ most ≤ 100000 ∧ Q ms (.int (ways rest most))
section
variable {P : Program} {w : World} {K : PySem.W.Frag} {mg : Str → Option Value} {base : Heap} {f : Addr} {fd : FuncData}
theorem f_orders (F : Fun K "_law_orders" "_law_orders" s_law_orders f fd) (mr : mg "range" = none) : FnOk P w K mg base (L2.CX P w) 1 f fd ["count"] (toSp K sp_orders) := by
  refine fn_sy F sc_law_orders (fun ms Q E h => by obtain ⟨n, rfl, _⟩ := h; rfl) (fun cdv A outer s H E G ms Q Em hr h tk po => ?_)
  have nd := sc_law_orders.nd
  obtain ⟨n, rfl, hn, k⟩ := h
  refine b_cons ?_; regTopObj_noattr; kl_some
  refine b_cons (s_for po rfl (fun _ => rfl) (r_range1 mr rfl rfl ?_)); kl_some
  refine ⟨⟨by omega, by omega⟩, fun i e => ∃ s2 s3 s4 s5, e = [.a 0 (.int n), .v (.lst ((rowsO n i).map intsM)), s2, s3, s4, s5], ⟨_, _, _, _, rfl⟩, fun _ _ _ => True.intro, ?_, ?_⟩
  · rintro i e m hm ⟨s2, s3, s4, s5, rfl⟩
    obtain ⟨hi, rfl⟩ := rangeM_get hm
    ki_room
    refine b_cons ?_; regTopObj_noattr; kl_some
    refine b_cons (s_for po rfl (fun _ => rfl) (r_lst ?_)); kl_some
    refine ⟨_, rfl, imms_map intsM_imm _, fun j e => ∃ s4 s5, e = [.a 0 (.int n), .v (.lst ((rowsO n i).map intsM)), .v (.int (0 + i)), .v (.lst ((((rowsO n i).take j).flatMap (stepO n)).map intsM)), s4, s5], ⟨_, _, rfl⟩, ?_, ?_, ?_⟩
    · rintro j e ⟨s4, s5, rfl⟩; rfl
    · rintro j e m hm ⟨s4, s5, rfl⟩
      obtain ⟨row, hp, rfl⟩ := map_get hm
      obtain ⟨z1, z2⟩ := rowsO_small n hn i
      have hl := z2 _ (List.mem_of_getElem? hp)
      ki_room
      refine Xb.at [.a 0 (.int n), .v (.lst ((rowsO n i).map intsM)), .v (.int (0 + i)), .v (.lst ((((rowsO n i).take j).flatMap (stepO n)).map intsM)), .v (intsM row), s5] rfl ?_
      refine b_one ?_; regTopObj_noattr
      refine x_bin ?_; kl_some
      refine x_lcif rfl nd (blkOk_by (own := [("entry", 5)]) rfl) (fun _ => rfl) (r_range1 mr rfl rfl ?_); kl_some
      refine ⟨by omega, ?_⟩
      refine lcw_fil (fun a => intsM (row ++ [(a : Int)])) (fun a => !decide ((a : Int) ∈ row)) _ rfl rfl rfl True.intro (fun a _ => intsM_imm _) (by rw [rangeM_length]; exact le_sizeLine (by omega)) (fun a m hm => ?_) ?_
      · obtain ⟨ha, rfl⟩ := rangeM_get hm
        rw [show ((0 : Int) + (a : Int)) = (a : Int) from Int.zero_add _]
        refine ⟨[5], fun j hj => hj, fun acc s H C cl fp => ?_⟩
        kl_room
        intro s H C cl fp
        kl_some
        refine ⟨rfl, fun _ => rfl, fun _ s H C cl fp => ?_⟩
        kl_some
        refine ⟨?_, rfl⟩
        show some (M.tup (row.map M.int ++ [M.int (a : Int)])) = some (intsM (row ++ [(a : Int)]))
        rw [intsM, List.map_append]; rfl
      have hst : ((List.range (rangeM 0 (n : Int).toNat).length).filter (fun (a : Nat) => !decide ((a : Int) ∈ row))).map (fun (a : Nat) => intsM (row ++ [(a : Int)])) = (stepO n row).map intsM := by
        rw [rangeM_length, stepO, List.map_map]; rfl
      rw [hst]
      have hlen : ((((rowsO n i).take j).flatMap (stepO n)).map intsM).length + ((stepO n row).map intsM).length ≤ 16777216 := by
        rw [← List.length_append, ← List.map_append, ← take_succ_flat _ _ hp, List.length_map]
        have h1 : ((rowsO n i).take (j + 1)).flatMap (stepO n) <+: (rowsO n i).flatMap (stepO n) := by
          refine ⟨((rowsO n i).drop (j + 1)).flatMap (stepO n), ?_⟩
          rw [← List.flatMap_append, List.take_append_drop]
        have h2 := h1.length_le
        have h3 := (rowsO_small n hn (i + 1)).1
        have h4 : (4 : Nat) ^ (i + 1) ≤ 4 ^ 4 := Nat.pow_le_pow_right (by omega) (by omega)
        have h5 : (rowsO n (i + 1)).length = ((rowsO n i).flatMap (stepO n)).length := rfl
        have h6 : (4 : Nat) ^ 4 = 256 := by decide
        omega
      refine o_addL rfl rfl (imms_map intsM_imm _) (imms_map intsM_imm _) (le_sizeLine hlen) ?_; kl_some
      refine ⟨.v (intsM row), .un, ?_⟩
      rw [take_succ_flat _ _ hp, List.map_append]
      rfl
    · rintro e ⟨s4, s5, rfl⟩
      refine b_one ?_; regTopObj_noattr; kl_some
      refine ⟨.v (.int (0 + i)), .un, s4, s5, ?_⟩
      rw [List.take_of_length_le (by rw [List.length_map]; exact Nat.le_refl _)]
      rfl
  · rintro e ⟨s2, s3, s4, s5, rfl⟩
    refine b_one (s_ret ?_); kl_some
    rw [rangeM_length]
    exact ⟨_, .arg .nil, k⟩
theorem f_partitions (F : Fun K "_law_partitions" "_law_partitions" s_law_partitions f fd) (mr : mg "range" = none) : FnOk P w K mg base (L2.CX P w) 1 f fd ["rest", "most"] (toSp K sp_partitions) := by
  refine fn_sy F sc_law_partitions (fun ms Q E h => by obtain ⟨n, t, rfl, _⟩ := h; rfl) (fun cdv A outer s H E G ms Q Em hr h tk po => ?_)
  have nd := sc_law_partitions.nd
  obtain ⟨rest, most, rfl, hr1, hm1, k⟩ := h
  refine b_cons ?_; regTopObj_noattr; kl_some
  have h0 : [M.int 1] ++ List.replicate (rest : Int).toNat (M.int 0) = (tabT rest 0).map M.int := by simp [tabT]
  rw [h0]
  refine b_cons (s_for po rfl (fun _ => rfl) (r_range2 mr rfl rfl rfl ?_)); kl_some
  refine ⟨by omega, fun i e => ∃ s3 s4, e = [.a 0 (.int rest), .a 1 (.int most), .v (.lst ((tabT rest i).map M.int)), s3, s4], ⟨_, _, rfl⟩, fun _ _ _ => True.intro, ?_, ?_⟩
  · rintro i e m hm ⟨s3, s4, rfl⟩
    obtain ⟨hi, rfl⟩ := rangeM_get hm
    ki_room
    refine b_one (s_for po rfl (fun _ => rfl) (r_range2 mr rfl rfl rfl ?_)); kl_some
    refine ⟨by omega, fun j e => ∃ s4, e = [.a 0 (.int rest), .a 1 (.int most), .v (.lst ((loopT (1 + i) rest (tabT rest i) j).map M.int)), .v (.int (1 + i)), s4], ⟨_, rfl⟩, fun _ _ _ => True.intro, ?_, ?_⟩
    · rintro j e m hm ⟨s4, rfl⟩
      obtain ⟨hj, rfl⟩ := rangeM_get hm
      ki_room
      have hl : (loopT (1 + i) rest (tabT rest i) j).length = rest + 1 := by rw [loopT_length, tabT_length]
      refine Xb.at [.a 0 (.int rest), .a 1 (.int most), .v (.lst ((loopT (1 + i) rest (tabT rest i) j).map M.int)), .v (.int (1 + i)), .v (.int (1 + i + j))] rfl ?_
      have a1 : atI ((loopT (1 + i) rest (tabT rest i) j).map M.int) (1 + i + j) = some (.int ((loopT (1 + i) rest (tabT rest i) j).getD (1 + i + j) 0)) := atI_int (by omega) (by
        rw [show ((1 : Int) + i + j).toNat = 1 + i + j by omega]; exact getD_int (by omega))
      have a2 : atI ((loopT (1 + i) rest (tabT rest i) j).map M.int) (1 + i + j - (1 + i)) = some (.int ((loopT (1 + i) rest (tabT rest i) j).getD (1 + i + j - (1 + i)) 0)) := atI_int (by omega) (by
        rw [show ((1 : Int) + i + j - (1 + i)).toNat = 1 + i + j - (1 + i) by omega]; exact getD_int (by omega))
      refine b_one (s_asg rfl rfl rfl ?_); kl_some
      refine i_lst rfl a1 rfl ?_; kl_some
      refine i_lst rfl a2 rfl ?_; kl_some
      refine ⟨_, g_subN rfl (fun _ => rfl) ?_⟩; kl_some
      refine ⟨_, _, _, _, _, _, rfl, rfl, rfl, rfl, ixN_int (by omega) (by rw [List.length_map]; omega), getD_int (by rw [hl]; omega), rfl, ?_⟩
      refine ⟨.v (.int (1 + i + j)), ?_⟩
      rw [map_set_int, loopT_succ, upT, show ((1 : Int) + i + j).toNat = 1 + i + j by omega]
      rfl
    · rintro e ⟨s4, rfl⟩
      refine ⟨.v (.int (1 + i)), s4, ?_⟩
      rw [rangeM_length, tabT_succ, show ((rest : Int) + 1 - (1 + i)).toNat = rest + 1 - (1 + i) by omega]
  · rintro e ⟨s3, s4, rfl⟩
    rw [rangeM_length, show ((most : Int) + 1 - 1).toNat = most by omega]
    refine b_one (s_ret ?_); kl_some
    refine i_lst rfl (atIn (getD_int (by rw [tabT_length]; omega))) rfl ?_; kl_some
    exact ⟨_, .arg (.arg .nil), k⟩
end
end K40
open PySem L2 SY
open PyProof.Rows (envOfC)
namespace K40
abbrev s_NoOrder_init : Stmt := inClass (top 8) 0
theorem sc_NoOrder_init : FnScope ["self", "place"] ["self", "place"] (defScope s_NoOrder_init) := ⟨rfl, rfl, rfl, by decide +kernel, rfl, by decide +kernel, by decide +kernel⟩
abbrev s_check_order : Stmt := top 17
theorem sc_check_order : FnScope ["order", "place", "entry"] ["order"] (defScope s_check_order) := ⟨rfl, rfl, rfl, by decide +kernel, rfl, by decide +kernel, by decide +kernel⟩
abbrev s_least_lengths : Stmt := top 18
theorem sc_least_lengths : FnScope ["order", "lengths", "before", "entry"] ["order"] (defScope s_least_lengths) := ⟨rfl, rfl, rfl, by decide +kernel, rfl, by decide +kernel, by decide +kernel⟩
abbrev s_count_robin : Stmt := top 19
theorem sc_count_robin : FnScope ["order", "total", "rest", "table", "part", "size"] ["order", "total"] (defScope s_count_robin) := ⟨rfl, rfl, rfl, by decide +kernel, rfl, by decide +kernel, by decide +kernel⟩
/-- the fields of NoOrder, NoLengths, .. -/
def okPlace : List M → List (Str × V) → Prop := fun args fs => ∃ n : Int, args = [.int n] ∧ 0 ≤ n ∧ n < 2 ^ 30 ∧ fs = [((("place" : Str), V.int n) : Str × V)]
/-- what the walk asks of the class SlotError at S -/
structure SlG (K : PySem.W.Frag) (mg : Str → Option Value) (S : Addr) : Prop where
  gm : mg "SlotError" = some (.ref S)
  ga : PySem.W.specialIn K (.ref S) "__getattribute__" = some (some (.builtin "type.__getattribute__"))
  rd : PySem.W.readsIn K S (.type "type") = true
  ini : PySem.W.findCls K (.ref S) (.type "type") "__init__" = some (.val (.builtin "ValueError.__init__"))
def okO (r : List Int) (i : Nat) : Bool := decide (0 ≤ r.getD i 0) && (decide (r.getD i 0 < r.length) && !decide (r.getD i 0 ∈ r.take i))
def allO (r : List Int) : Prop := ∀ j, j < r.length → okO r j = true
def badO (r : List Int) (p : Nat) : Prop := p < r.length ∧ (∀ j, j < p → okO r j = true) ∧ okO r p = false
def sp_check (C : Addr) : MSp := fun ms Q Em => ∃ r : List Int, ms = [intsM r] ∧ r.length < 2 ^ 20 ∧ (allO r → Q ms .non) ∧ ∀ p, badO r p → Em C [((("place" : Str), M.int p) : Str × M)]
section
variable {P : Program} {w : World} {K : PySem.W.Frag} {mg : Str → Option Value} {base : Heap} {f : Addr} {fd : FuncData} {C S : Addr}
theorem f_NoOrder (F : Fun K "__init__" "NoOrder.__init__" s_NoOrder_init f fd) (oc : OexC K C) (sl : SlG K mg S) (mstr : mg "str" = none) (hno : PySem.W.findIn K (.ref C) "place" = some none) : FnOk P w K mg base (L2.CX P w) 1 f fd ["self", "place"] (toSp K (mkS C okPlace)) := by
  refine fn_sy F sc_NoOrder_init (fun ms Q E h => by obtain ⟨_, _, rfl, ⟨n, rfl, _⟩, _⟩ := h; rfl) (fun cdv A outer s H E G ms Q Em hr h tk po => ?_)
  have nd := sc_NoOrder_init.nd
  obtain ⟨_, fs, rfl, ⟨n, rfl, h0, h1, rfl⟩, k⟩ := h
  refine b_cons (sexpr rfl (x_sinit (C := C) rfl sl.gm sl.ga sl.rd sl.ini (by decide) rfl rfl rfl oc ?_)); kl_some
  refine v_str (log_lt (by omega) (by omega)) ?_; kl_some
  refine o_addN (by omega) (by omega) (by decide) ?_; kl_some
  refine ⟨_, _, rfl, rfl, ?_⟩
  refine b_one (s_ost rfl ?_); kl_some
  refine ⟨_, _, rfl, rfl, ?_⟩; kl_some
  exact ⟨_, _, C, rfl, rfl, rfl, rfl, oc, hno, ⟨_, .arg (.arg .nil), k⟩⟩
theorem f_check (F : Fun K "check_order" "check_order" s_check_order f fd) (mi : mg "isinstance" = none) (mt : mg "tuple" = none) (me : mg "enumerate" = none) (ml : mg "len" = none) (Fi : FnG P w K mg base 1 "is_integer" sp_isint) (FC : ClsG P w K mg base 1 "NoOrder" C okPlace) :
    FnOk P w K mg base (L2.CX P w) 3 f fd ["order"] (toSp K (sp_check C)) := by
  refine fn_sy F sc_check_order (fun ms Q E h => by obtain ⟨n, rfl, _⟩ := h; rfl) (fun cdv A outer s H E G ms Q Em hr h tk po => ?_)
  have nd := sc_check_order.nd
  obtain ⟨r, rfl, hl, k, kx⟩ := h
  refine b_cons (s_if ?_); kl_some
  refine ⟨fun z => (by cases z), fun _ => b_nil ?_⟩
  refine b_one (s_for po rfl (fun _ => rfl) (r_enumT me rfl rfl ?_)); kl_some
  refine ⟨_, true, rfl, imms_ints r, fun i e => (∀ j, j < i → okO r j = true) ∧ ∃ s1 s2, e = [.a 0 (intsM r), s1, s2], ⟨fun j hj => absurd hj (by omega), _, _, rfl⟩, ?_, ?_, ?_⟩
  · rintro i e ⟨_, s1, s2, rfl⟩; rfl
  · rintro i e m hm ⟨hok, s1, s2, rfl⟩
    obtain ⟨_, h1, rfl⟩ := enumM_get hm
    obtain ⟨x, hx, rfl⟩ := map_get h1
    have hi := (List.getElem?_eq_some_iff.mp hx).1
    have hxd : r.getD i 0 = x := getD_at hx
    ki_room
    refine Xb.at [.a 0 (intsM r), .v (.int i), .v (.int x)] rfl ?_
    refine b_one (s_if ?_); kl_some
    refine ⟨x, 0, rfl, _, rfl, ?_⟩; kl_some
    refine ⟨fun b => ⟨fun _ => ?_, fun z => (by cases z)⟩, fun b => ?_⟩
    · refine b_one (s_rai FC rfl tk hr rfl (by decide) rfl rfl ?_); kl_some
      exact ⟨[.int i], _, _, _, rfl, by simp, rfl, ⟨_, rfl, by omega, by omega, rfl⟩, flds1 rfl, kx i ⟨hi, hok, by unfold okO; rw [hxd]; simp at b ⊢; omega⟩⟩
    kl_some
    refine ⟨fun b2 => ⟨fun _ => ?_, fun z => (by cases z)⟩, fun b2 => ?_⟩
    · refine b_one (s_rai FC rfl tk hr rfl (by decide) rfl rfl ?_); kl_some
      exact ⟨[.int i], _, _, _, rfl, by simp, rfl, ⟨_, rfl, by omega, by omega, rfl⟩, flds1 rfl, kx i ⟨hi, hok, by unfold okO; rw [hxd]; simp at b b2 ⊢; omega⟩⟩
    kl_some
    rw [cutL_map, cutL_take]; kl_some
    refine ⟨fun b3 => ?_, fun b3 => b_nil ?_⟩
    · refine b_one (s_rai FC rfl tk hr rfl (by decide) rfl rfl ?_); kl_some
      exact ⟨[.int i], _, _, _, rfl, by simp, rfl, ⟨_, rfl, by omega, by omega, rfl⟩, flds1 rfl, kx i ⟨hi, hok, by unfold okO; rw [hxd]; simp at b b2 b3 ⊢; intro _ _; exact b3⟩⟩
    · refine ⟨fun j hj => ?_, _, _, rfl⟩
      by_cases hji : j = i
      · subst hji; unfold okO; rw [hxd]; simp at b b2 b3 ⊢; exact ⟨b, b2, b3⟩
      · exact hok j (by omega)
  · rintro e ⟨hok, s1, s2, rfl⟩
    rw [enumM_length, List.length_map] at hok
    exact ⟨_, .arg .nil, k hok⟩
/-- the least lengths -/
def stepL (l : List Int) (p : Int × Int) : List Int := l.set p.2.toNat (l.getD p.1.toNat 0 + if p.2 < p.1 then 1 else 0)
def zipO (r : List Int) : List (Int × Int) := r.zip (r.drop 1)
def leastL (r : List Int) : List Int := (zipO r).foldl stepL (List.replicate r.length 1)
theorem stepL_length (l : List Int) (p : Int × Int) : (stepL l p).length = l.length := by simp [stepL]
theorem foldL_length (ps : List (Int × Int)) : ∀ l : List Int, (ps.foldl stepL l).length = l.length := by
  induction ps with
  | nil => intro l; rfl
  | cons p ps ih => intro l; rw [List.foldl_cons, ih, stepL_length]
def sp_least (C : Addr) : MSp := fun ms Q Em => ∃ r : List Int, ms = [intsM r] ∧ r.length < 2 ^ 20 ∧ (allO r → Q ms (intsM (leastL r))) ∧ ∀ p, badO r p → Em C [((("place" : Str), M.int p) : Str × M)]
theorem f_least (F : Fun K "least_lengths" "least_lengths" s_least_lengths f fd) (mz : mg "zip" = none) (mi : mg "int" = none) (mt : mg "tuple" = none) (ml : mg "len" = none) (Fc : FnG P w K mg base 3 "check_order" (sp_check C)) :
    FnOk P w K mg base (L2.CX P w) 4 f fd ["order"] (toSp K (sp_least C)) := by
  refine fn_sy F sc_least_lengths (fun ms Q E h => by obtain ⟨n, rfl, _⟩ := h; rfl) (fun cdv A outer s H E G ms Q Em hr h tk po => ?_)
  have nd := sc_least_lengths.nd
  obtain ⟨r, rfl, hl, k, kx⟩ := h
  refine b_cons (sexpr rfl (xcal Fc hr tk rfl (by decide) rfl rfl ?_)); kl_some
  refine ⟨r, rfl, hl, fun hall => ⟨_, rfl, ?_⟩, kx⟩
  have hx : ∀ j, j < r.length → 0 ≤ r.getD j 0 ∧ r.getD j 0 < r.length := fun j hj => by
    have := hall j hj
    unfold okO at this
    simp at this ⊢
    exact ⟨this.1, this.2.1⟩
  have hlm : (r.map M.int).length = r.length := List.length_map _
  refine b_cons ?_; regTopObj_noattr; kl_some
  have h0 : List.replicate (((r.map M.int).length : Nat) : Int).toNat (M.int 1) = ((((zipO r).take 0).foldl stepL (List.replicate r.length 1))).map M.int := by simp
  rw [h0]
  refine b_cons (s_for po rfl (fun _ => rfl) (r_zipT mz rfl rfl rfl ?_)); kl_some
  refine ⟨_, _, _, _, _, _, rfl, rfl, rfl, imms_ints r, imms_cutL (imms_ints r) _ _, fun i e => ∃ s2 s3, e = [.a 0 (intsM r), .v (.lst ((((zipO r).take i).foldl stepL (List.replicate r.length 1)).map M.int)), s2, s3], ⟨_, _, rfl⟩, ?_, ?_, ?_⟩
  · rintro i e ⟨s2, s3, rfl⟩; exact ⟨rfl, rfl⟩
  · rintro i e m hm ⟨s2, s3, rfl⟩
    obtain ⟨a, b, g1, g2, rfl⟩ := zipM_get hm
    rw [cutL_map] at g2
    obtain ⟨x, h1, rfl⟩ := map_get g1
    obtain ⟨y, h2, rfl⟩ := map_get g2
    rw [show (1 : Int) = ((1 : Nat) : Int) from rfl, cutL_drop] at h2
    have hz : (zipO r)[i]? = some (x, y) := by rw [zipO, List.getElem?_zip_eq_some]; exact ⟨h1, h2⟩
    have hx1 := hx i (List.getElem?_eq_some_iff.mp h1).1
    have hy1 := hx (1 + i) (by have := (List.getElem?_eq_some_iff.mp h2).1; rw [List.length_drop] at this; omega)
    rw [List.getElem?_drop] at h2
    rw [getD_at h1] at hx1
    rw [getD_at h2] at hy1
    ki_room
    refine Xb.at [.a 0 (intsM r), .v (.lst ((((zipO r).take i).foldl stepL (List.replicate r.length 1)).map M.int)), .v (.int x), .v (.int y)] rfl ?_
    have hln : (((zipO r).take i).foldl stepL (List.replicate r.length 1)).length = r.length := by rw [foldL_length, List.length_replicate]
    have a1 : atI ((((zipO r).take i).foldl stepL (List.replicate r.length 1)).map M.int) x = some (.int ((((zipO r).take i).foldl stepL (List.replicate r.length 1)).getD x.toNat 0)) := atI_int hx1.1 (getD_int (by omega))
    refine b_one (s_asg rfl rfl rfl ?_); kl_some
    refine i_lst rfl a1 rfl ?_; kl_some
    refine ⟨_, g_subN rfl (fun _ => rfl) ?_⟩; kl_some
    refine ⟨_, _, _, _, _, _, rfl, rfl, rfl, rfl, ixN_int hy1.1 (by rw [List.length_map]; omega), getD_int (by omega), rfl, ?_⟩
    refine ⟨.v (.int x), .v (.int y), ?_⟩
    have hs : ((zipO r).take (i + 1)).foldl stepL (List.replicate r.length 1) = stepL (((zipO r).take i).foldl stepL (List.replicate r.length 1)) (x, y) := by
      rw [List.take_succ, hz, List.foldl_append]; rfl
    rw [map_set_int, hs, stepL]
    simp only [decide_eq_true_eq]
    rfl
  · rintro e ⟨s2, s3, rfl⟩
    have hfin : ((zipO r).take (zipM (r.map M.int) (cutL (r.map M.int) (some 1) none)).length).foldl stepL (List.replicate r.length 1) = leastL r := by
      rw [zipM_length, cutL_map, show (1 : Int) = ((1 : Nat) : Int) from rfl, cutL_drop, List.length_map, List.length_map, List.take_of_length_le (by rw [zipO, List.length_zip]; exact Nat.le_refl _)]; rfl
    rw [hfin]
    refine b_one (s_ret ?_); kl_some
    exact ⟨_, .arg .nil, k hall⟩
theorem stepL_nonneg {l : List Int} (h : ∀ x ∈ l, 0 ≤ x) (p : Int × Int) : ∀ x ∈ stepL l p, 0 ≤ x := fun x hx => by
  rcases List.mem_or_eq_of_mem_set hx with hx | rfl
  · exact h x hx
  · have : 0 ≤ l.getD p.1.toNat 0 := by
      by_cases hi : p.1.toNat < l.length
      · rw [List.getD_eq_getElem?_getD, List.getElem?_eq_getElem hi]; exact h _ (List.getElem_mem hi)
      · rw [List.getD_eq_getElem?_getD, List.getElem?_eq_none (by omega)]; exact Int.le_refl 0
    split <;> omega
theorem foldL_nonneg (ps : List (Int × Int)) : ∀ l : List Int, (∀ x ∈ l, 0 ≤ x) → ∀ x ∈ ps.foldl stepL l, 0 ≤ x := by
  induction ps with
  | nil => intro l h; exact h
  | cons p ps ih => intro l h; exact ih _ (stepL_nonneg h p)
theorem sum_nonneg : ∀ {l : List Int}, (∀ x ∈ l, 0 ≤ x) → 0 ≤ l.sum
  | [], _ => by simp
  | x :: l, h => by
    have a := h x (List.mem_cons_self ..)
    have b := sum_nonneg fun y hy => h y (List.mem_cons_of_mem _ hy)
    rw [List.sum_cons]; omega
theorem least_nonneg (r : List Int) : 0 ≤ (leastL r).sum := sum_nonneg (foldL_nonneg _ _ fun x hx => by rw [List.eq_of_mem_replicate hx]; decide)
def countR (r : List Int) (total : Int) : Int := if total - (leastL r).sum < 0 then 0 else ways (total - (leastL r).sum).toNat r.length
def sp_count (C : Addr) : MSp := fun ms Q Em => ∃ (r : List Int) (total : Int), ms = [intsM r, .int total] ∧ r.length < 2 ^ 16 ∧ total ≤ 100000 ∧ (allO r → Q ms (.int (countR r total))) ∧ ∀ p, badO r p → Em C [((("place" : Str), M.int p) : Str × M)]
theorem f_count (F : Fun K "count_robin" "count_robin" s_count_robin f fd) (mr : mg "range" = none) (ms : mg "sum" = none) (ml : mg "len" = none) (Fl : FnG P w K mg base 4 "least_lengths" (sp_least C)) :
    FnOk P w K mg base (L2.CX P w) 5 f fd ["order", "total"] (toSp K (sp_count C)) := by
  refine fn_sy F sc_count_robin (fun ms Q E h => by obtain ⟨n, t, rfl, _⟩ := h; rfl) (fun cdv A outer s H E G ms Q Em hr h tk po => ?_)
  have nd := sc_count_robin.nd
  obtain ⟨r, total, rfl, hl, ht, k, kx⟩ := h
  refine b_cons ?_; regTopObj_noattr; kl_some
  refine ⟨r, rfl, by omega, fun hall => ⟨_, rfl, ?_⟩, kx⟩
  have hs := least_nonneg r
  kl_some

  have hlm : (r.map M.int).length = r.length := List.length_map _
  refine b_cons (s_if ?_); kl_some
  refine ⟨fun b => ?_, fun b => b_nil ?_⟩
  · refine b_one (s_ret ?_); kl_some
    refine ⟨_, .arg (.arg .nil), ?_⟩
    have hk := k hall
    rw [countR, if_pos (by simpa using b)] at hk
    exact hk
  have hn : ¬ total - (leastL r).sum < 0 := by simpa using b
  obtain ⟨rest, hrest⟩ : ∃ rest : Nat, total - (leastL r).sum = rest := ⟨(total - (leastL r).sum).toNat, by omega⟩
  have hk : Q [intsM r, .int total] (.int (ways rest r.length)) := by
    have hk := k hall
    rw [countR, if_neg hn, show (total - (leastL r).sum).toNat = rest by omega] at hk
    exact hk
  refine Xb.at [.a 0 (intsM r), .a 1 (.int total), .v (.int rest), .un, .un, .un] (by rw [hrest]; rfl) ?_
  refine b_cons ?_; regTopObj_noattr; kl_some
  have h0 : [M.int 1] ++ List.replicate (rest : Int).toNat (M.int 0) = (tabT rest 0).map M.int := by simp [tabT]
  rw [h0]
  refine b_cons (s_for po rfl (fun _ => rfl) (r_range2 mr rfl rfl rfl ?_)); kl_some
  refine ⟨by omega, fun i e => ∃ s3 s4, e = [.a 0 (intsM r), .a 1 (.int total), .v (.int rest), .v (.lst ((tabT rest i).map M.int)), s3, s4], ⟨_, _, rfl⟩, fun _ _ _ => True.intro, ?_, ?_⟩
  · rintro i e m hm ⟨s3, s4, rfl⟩
    obtain ⟨hi, rfl⟩ := rangeM_get hm
    ki_room
    refine b_one (s_for po rfl (fun _ => rfl) (r_range2 mr rfl rfl rfl ?_)); kl_some
    refine ⟨by omega, fun j e => ∃ s4, e = [.a 0 (intsM r), .a 1 (.int total), .v (.int rest), .v (.lst ((loopT (1 + i) rest (tabT rest i) j).map M.int)), .v (.int (1 + i)), s4], ⟨_, rfl⟩, fun _ _ _ => True.intro, ?_, ?_⟩
    · rintro j e m hm ⟨s4, rfl⟩
      obtain ⟨hj, rfl⟩ := rangeM_get hm
      ki_room
      have hl : (loopT (1 + i) rest (tabT rest i) j).length = rest + 1 := by rw [loopT_length, tabT_length]
      refine Xb.at [.a 0 (intsM r), .a 1 (.int total), .v (.int rest), .v (.lst ((loopT (1 + i) rest (tabT rest i) j).map M.int)), .v (.int (1 + i)), .v (.int (1 + i + j))] rfl ?_
      have a2 : atI ((loopT (1 + i) rest (tabT rest i) j).map M.int) (1 + i + j - (1 + i)) = some (.int ((loopT (1 + i) rest (tabT rest i) j).getD (1 + i + j - (1 + i)) 0)) := atI_int (by omega) (by
        rw [show ((1 : Int) + i + j - (1 + i)).toNat = 1 + i + j - (1 + i) by omega]; exact getD_int (by omega))
      refine b_one (s_augsub (fun _ _ _ => rfl) ?_); kl_some
      refine ⟨_, _, _, _, _, _, rfl, rfl, rfl, rfl, ixN_int (by omega) (by rw [List.length_map]; omega), getD_int (by rw [hl]; omega), rfl, ?_⟩; kl_some
      refine i_lst rfl a2 rfl ?_; kl_some
      refine ⟨rfl, _, _, _, rfl, rfl, ixN_int (by omega) (by rw [List.length_map]; omega), getD_int (by rw [hl]; omega), rfl, ?_⟩
      refine ⟨.v (.int (1 + i + j)), ?_⟩
      rw [map_set_int, loopT_succ, upT, show ((1 : Int) + i + j).toNat = 1 + i + j by omega]
      rfl
    · rintro e ⟨s4, rfl⟩
      refine ⟨.v (.int (1 + i)), s4, ?_⟩
      rw [rangeM_length, tabT_succ, show ((rest : Int) + 1 - (1 + i)).toNat = rest + 1 - (1 + i) by omega]
  · rintro e ⟨s3, s4, rfl⟩
    rw [rangeM_length, hlm, show ((r.length : Int) + 1 - 1).toNat = r.length by omega]
    refine b_one (s_ret ?_); kl_some
    refine i_lst rfl (atIn (getD_int (by rw [tabT_length]; omega))) rfl ?_; kl_some
    exact ⟨_, .arg (.arg .nil), hk⟩
end
end K40
open PySem L2 SY
open PyProof.Rows (envOfC)
namespace K40
abbrev s_law_kind : Stmt := top 25
theorem sc_law_kind : FnScope ["caught", "kinds", "at"] ["caught"] (defScope s_law_kind) := ⟨rfl, rfl, rfl, by decide +kernel, rfl, by decide +kernel, by decide +kernel⟩
abbrev s_law_twice_right : Stmt := top 29
theorem sc_law_twice_right : FnScope ["order", "caught", "e"] ["order"] (defScope s_law_twice_right) := ⟨rfl, rfl, rfl, by decide +kernel, rfl, by decide +kernel, by decide +kernel⟩
/-- the class C, which is NoOrder, seen from _law_kind -/
structure KdG (K : PySem.W.Frag) (mg : Str → Option Value) (C : Addr) : Prop where
  ec : ExcC K C
  xf : XfC K C
  no : PySem.W.findIn K (.ref C) "place" = some none
  all : ∃ c0 c1 c2 c3 c4 c5 c6 c7 c8 c9 c10 c11 S : Addr, mg "NoJobs" = some (.ref c0) ∧ mg "NoRule" = some (.ref c1) ∧ mg "NoLengths" = some (.ref c2) ∧ mg "NoLog" = some (.ref c3) ∧ mg "NoMarks" = some (.ref c4) ∧ mg "NoNamed" = some (.ref c5) ∧ mg "NoOrder" = some (.ref c6) ∧
    mg "NoText" = some (.ref c7) ∧ mg "NoNumber" = some (.ref c8) ∧ mg "NoName" = some (.ref c9) ∧ mg "NoUndo" = some (.ref c10) ∧ mg "NoLine" = some (.ref c11) ∧ mg "SlotError" = some (.ref S) ∧ mg "ValueError" = none ∧
    PySem.W.kitOne K (.ref C) (.ref c0) = some false ∧ PySem.W.kitOne K (.ref C) (.ref c1) = some false ∧ PySem.W.kitOne K (.ref C) (.ref c2) = some false ∧ PySem.W.kitOne K (.ref C) (.ref c3) = some false ∧ PySem.W.kitOne K (.ref C) (.ref c4) = some false ∧ PySem.W.kitOne K (.ref C) (.ref c5) = some false ∧
    PySem.W.kitOne K (.ref C) (.ref c6) = some true ∧ PySem.W.kitOne K (.ref C) (.ref c7) = some false ∧ PySem.W.kitOne K (.ref C) (.ref c8) = some false ∧ PySem.W.kitOne K (.ref C) (.ref c9) = some false ∧ PySem.W.kitOne K (.ref C) (.ref c10) = some false ∧ PySem.W.kitOne K (.ref C) (.ref c11) = some false ∧
    PySem.W.kitOne K (.ref C) (.ref S) = some true ∧ PySem.W.kitOne K (.ref C) (.type "ValueError") = some true
def sp_kind (K : PySem.W.Frag) (C : Addr) : MSp := fun ms Q Em => ∃ p : Int, ms = [.obj (excA K C [((("place" : Str), M.int p) : Str × M)])] ∧ Q ms (.tup [.str "order", .int p])
section
variable {P : Program} {w : World} {K : PySem.W.Frag} {mg : Str → Option Value} {base : Heap} {f : Addr} {fd : FuncData} {C S : Addr}
theorem f_kind (F : Fun K "_law_kind" "_law_kind" s_law_kind f fd) (mi : mg "isinstance" = none) (kg : KdG K mg C) : FnOk P w K mg base (L2.CX P w) 1 f fd ["caught"] (toSp K (sp_kind K C)) := by
  refine fn_sy F sc_law_kind (fun ms Q E h => by obtain ⟨n, rfl, _⟩ := h; rfl) (fun cdv A outer s H E G ms Q Em hr h tk po => ?_)
  have nd := sc_law_kind.nd
  obtain ⟨p, rfl, k⟩ := h
  obtain ⟨ec, xf, hno, c0, c1, c2, c3, c4, c5, c6, c7, c8, c9, c10, c11, S, m0, m1, m2, m3, m4, m5, m6, m7, m8, m9, m10, m11, mS, mV, k0, k1, k2, k3, k4, k5, k6, k7, k8, k9, k10, k11, kS, kV⟩ := kg
  refine b_cons ?_; regTopObj_noattr; kl_some
  refine b_cons ?_; regTopObj_noattr; kl_some
  refine b_cons ?_; regTopObj_noattr; kl_some
  refine b_cons ?_; regTopObj_noattr; kl_some
  refine Xb.at [.a 0 (.obj (excA K C [((("place" : Str), M.int p) : Str × M)])), .v (.lst ([false, false, false, false, false, false, true, false, false, false, false, false].map M.bl)), .un] rfl ?_
  refine b_cons (s_if ?_); kl_some
  refine ⟨fun z => (by cases z), fun _ => ?_⟩; kl_some
  refine ⟨fun z => (by cases z), fun _ => ?_⟩; kl_some
  refine ⟨fun z => absurd z (by decide), fun _ => b_nil ?_⟩
  refine b_cons ?_; regTopObj_noattr; kl_some
  refine m_indexB (j := 6) rfl rfl (by decide) ?_; kl_some
  refine b_cons (s_if ?_); kl_some
  refine ⟨fun _ => ?_, fun z => absurd z (by decide)⟩
  refine b_one (s_ret ?_); kl_some
  refine ⟨C, _, _, rfl, rfl, xf, hno, ?_⟩; kl_some
  exact ⟨_, .arg .nil, k⟩
theorem f_twice (F : Fun K "_law_twice_right" "_law_twice_right" s_law_twice_right f fd) (ml : mg "len" = none) (mS : mg "SlotError" = some (.ref S)) (hx : PySem.W.exmOne K (.ref C) (.ref S) = some true) (Fc : FnG P w K mg base 5 "count_robin" (sp_count C)) (Fk : FnG P w K mg base 1 "_law_kind" (sp_kind K C)) :
    FnOk P w K mg base (L2.CX P w) 6 f fd ["order"] (toSp K (fun ms Q _ => ∃ r : List Int, ms = [intsM r] ∧ 0 < r.length ∧ r.length < 1000 ∧ badO (r ++ r.take 1) r.length ∧ Q ms (.bl true))) := by
  refine fn_sy F sc_law_twice_right (fun ms Q E h => by obtain ⟨n, rfl, _⟩ := h; rfl) (fun cdv A outer s H E G ms Q Em hr h tk po => ?_)
  have nd := sc_law_twice_right.nd
  obtain ⟨r, rfl, h0, hl, hbad, k⟩ := h
  refine b_cons ?_; regTopObj_noattr; kl_some
  refine b_cons (s_try rfl rfl nd rfl rfl ⟨rfl, by decide, .inl mS⟩ (fun pn xe tk1 po1 => ?_))
  refine b_one (sexpr rfl (xcal Fc hr tk1 rfl (by decide) rfl rfl ?_)); kl_some
  rw [cutL_map, show (some (1 : Int)) = some ((1 : Nat) : Int) from rfl, cutL_take]; kl_some
  refine ⟨r ++ r.take 1, 9, by rw [intsM, List.map_append]; rfl, by simp; omega, by decide, fun hall => ?_, fun p hp => ?_⟩
  · have h1 := hall _ hbad.1
    rw [hbad.2.2] at h1; cases h1
  have ep : p = r.length := by
    rcases Nat.lt_trichotomy p r.length with h | h | h
    · have h1 := hbad.2.1 p h
      rw [hp.2.2] at h1; cases h1
    · exact h
    · have h1 := hp.2.1 _ h
      rw [hbad.2.2] at h1; cases h1
  subst ep
  refine ⟨hx, fun a pn => ?_⟩
  refine b_one ?_; regTopObj_noattr; kl_some
  refine Xb.at [.a 0 (intsM r), .v (.obj (excA K C [((("place" : Str), M.int (r.length : Nat)) : Str × M)])), .un] rfl ?_
  refine b_one (s_ret ?_); kl_some
  refine ⟨fun _ => ?_, fun z => (by cases z)⟩; kl_some
  refine ⟨_, rfl, ⟨_, rfl, ?_⟩⟩; kl_some
  refine SY.o_eqD (Room.units hr) rfl rfl rfl rfl (by simp [SeqAt.shaped, PyData.canLay0, PyData.canLayAll0, PyData.depth, PyData.depthAll]; decide +kernel) ?_
  have he : PyData.eqv (.tuple [.str "order", .int (r.length : Nat)]) (.tuple [.str "order", .int ((r.map M.int).length : Nat)]) = true := by
    rw [List.length_map]; simp [PyData.eqv, PyData.eqvAll]
  rw [he]; kl_some
  exact ⟨_, .arg .nil, k⟩
end
end K40
open PySem L2 SY
namespace K40
/-! the plain law: small orders -/
def pairsP (row : List Int) (n : Nat) : List (Int × Int) := (List.range n).map fun (k : Nat) => (row.getD k 0, (k : Int))
def orderP (row : List Int) (n : Nat) : List Int := (sortP (pairsP row n)).map (·.2)
def addC (n : Nat) (c : List (List Int × Int)) (row : List Int) : List (List Int × Int) := putA c (orderP row n) ((valA c (orderP row n)).getD 0 + 1)
def cntP (t : Int) (n : Nat) : List (List Int × Int) := (parted t n).foldl (addC n) []
def allOb (r : List Int) : Bool := (List.range r.length).all fun j => okO r j
theorem allO_of {r : List Int} (h : allOb r = true) : allO r := fun j hj => List.all_eq_true.mp h j (List.mem_range.mpr hj)
def okAll : Bool := (List.range 5).all fun n => (List.range 12).all fun t => (rowsO n n).all fun o => allOb o && decide (0 ≤ countR o t) && decide (countR o t = (valA (cntP t n) o).getD 0)
theorem okAll_true : okAll = true := by decide +kernel
theorem small_ok {n t : Nat} (hn : n ≤ 4) (ht : t ≤ 11) {o : List Int} (ho : o ∈ rowsO n n) : allO o ∧ 0 ≤ countR o t ∧ countR o t = (valA (cntP t n) o).getD 0 := by
  have h1 := List.all_eq_true.mp (List.all_eq_true.mp (List.all_eq_true.mp okAll_true n (List.mem_range.mpr (by omega))) t (List.mem_range.mpr (by omega))) o ho
  simp only [Bool.and_eq_true, decide_eq_true_eq] at h1
  exact ⟨allO_of h1.1.1, h1.1.2, h1.2⟩
end K40
open PySem L2 SY
open PyProof.Rows (envOfC)
namespace K40
abbrev s_law : Stmt := top 30
theorem sc_law : FnScope ["script", "store", "count", "total", "counts", "lengths", "order", "found", "left", "rest", "due", "length", "place", "k"] ["script"] (defScope s_law) := ⟨rfl, rfl, rfl, by decide +kernel, rfl, by decide +kernel, by decide +kernel⟩
def sp_law : MSp := fun ms Q _ => ∃ ns : List Int, ms = [.ro (ns.map M.int)] ∧ ns.length ≤ 63 ∧ Q ms (.bl true)
def sp_twice : MSp := fun ms Q _ => ∃ r : List Int, ms = [intsM r] ∧ 0 < r.length ∧ r.length < 1000 ∧ badO (r ++ r.take 1) r.length ∧ Q ms (.bl true)
def idL (m : Nat) : List Int := (List.range m).map fun (k : Nat) => (k : Int)
theorem idL_eq (m : Nat) : rangeM 0 (m : Int).toNat = (idL m).map M.int := by rw [rangeM, idL, List.map_map, Int.toNat_natCast]; exact List.map_congr_left fun k _ => by show M.int (0 + (k : Int)) = M.int k; rw [Int.zero_add]
theorem perm_erase : ∀ (l : List Int) {i : Nat} (h : i < l.length), l.Perm (l[i] :: l.eraseIdx i)
  | x :: l, 0, _ => .refl _
  | x :: l, i + 1, h => by
    have := perm_erase l (i := i) (by simpa using h)
    simp only [List.getElem_cons_succ, List.eraseIdx_cons_succ]
    exact (this.cons x).trans (.swap _ _ _)
theorem map_erase : ∀ (l : List Int) (i : Nat), (l.map M.int).eraseIdx i = (l.eraseIdx i).map M.int
  | [], _ => rfl
  | _ :: _, 0 => rfl
  | x :: l, i + 1 => by simp only [List.map_cons, List.eraseIdx_cons_succ]; rw [map_erase l i]
theorem perm_all {ps : List Int} {m : Nat} (h : ps.Perm (idL m)) : allO ps := fun j hj => by
  have hl : ps.length = m := by rw [h.length_eq, idL, List.length_map, List.length_range]
  have hnd : (idL m).Nodup := by
    rw [idL, List.Nodup, List.pairwise_map]
    exact List.Pairwise.imp (fun {a b} hab => by omega) List.nodup_range
  have hnd2 : ps.Nodup := h.nodup_iff.mpr hnd
  have hm : ps[j] ∈ idL m := h.mem_iff.mp (List.getElem_mem hj)
  obtain ⟨a, ha, he⟩ := List.mem_map.mp hm
  have ha' := List.mem_range.mp ha
  have hg : ps.getD j 0 = ps[j] := getD_at (List.getElem?_eq_getElem hj)
  unfold okO
  rw [hg, ← he]
  have hno : ¬ ((a : Int) ∈ ps.take j) := fun hmem => by
    obtain ⟨i, hi, hie⟩ := List.mem_iff_getElem.mp hmem
    rw [List.length_take] at hi
    rw [List.getElem_take] at hie
    have := (List.pairwise_iff_getElem.mp hnd2) i j (by omega) hj (by omega)
    exact this (hie.trans he)
  simp [hno, hl]
  omega
theorem data_ints (ns : List Int) : (intsM ns).data = some (.tuple (ns.map PyData.int)) := by
  have h : ∀ ns : List Int, M.datas (ns.map M.int) = some (ns.map PyData.int) := by
    intro ns
    induction ns with
    | nil => rfl
    | cons n ns ih => rw [List.map_cons, M.datas, ih]; rfl
  show (M.datas (ns.map M.int)).map PyData.tuple = _
  rw [h]; rfl
theorem eqv_empty (ns : List Int) : PyData.eqv (.tuple (ns.map PyData.int)) (.tuple []) = ns.isEmpty := by cases ns <;> simp [PyData.eqv, PyData.eqvAll]
theorem cutL_neg {α : Type} (xs : List α) : cutL xs (some (-39)) none = xs.drop (xs.length - 39) := by
  have h : HT.sIx xs.length 0 (some (-39)) = xs.length - 39 := by
    show (if (-39 : Int) < 0 then (-39 + (xs.length : Int)).toNat else min (-39 : Int).toNat xs.length) = _
    rw [if_pos (by decide)]; omega
  unfold cutL
  rw [h, HT.sIx_none, List.take_of_length_le (by rw [List.length_drop]; omega)]
theorem bad_of {ps : List Int} {m : Nat} (h : ps.Perm (idL m)) (hne : ps ≠ []) (hm : m ≤ 40) : badO (ps.drop (ps.length - 39) ++ (ps.drop (ps.length - 39)).take 1) (ps.drop (ps.length - 39)).length := by
  have hl : ps.length = m := by rw [h.length_eq, idL, List.length_map, List.length_range]
  have hnd : (idL m).Nodup := by
    rw [idL, List.Nodup, List.pairwise_map]
    exact List.Pairwise.imp (fun {a b} hab => by omega) List.nodup_range
  have hnd2 : ps.Nodup := h.nodup_iff.mpr hnd
  obtain ⟨r, hr⟩ : ∃ r, r = ps.drop (ps.length - 39) := ⟨_, rfl⟩
  rw [← hr]
  have hrnd : r.Nodup := by rw [hr]; exact hnd2.sublist (List.drop_sublist _ _)
  have hrl : r.length = ps.length - (ps.length - 39) := by rw [hr, List.length_drop]
  have hp : 0 < ps.length := List.length_pos_iff.mpr hne
  have hin : ∀ x ∈ r, 0 ≤ x ∧ x < m := fun x hx => by
    have hx' : x ∈ idL m := h.mem_iff.mp (by rw [hr] at hx; exact List.mem_of_mem_drop hx)
    obtain ⟨a, ha, rfl⟩ := List.mem_map.mp hx'
    have := List.mem_range.mp ha
    omega
  have hr0 : 0 < r.length := by omega
  have hlen : (r ++ r.take 1).length = r.length + 1 := by rw [List.length_append, List.length_take]; omega
  refine ⟨by omega, fun j hj => ?_, ?_⟩
  · have hg : (r ++ r.take 1).getD j 0 = r[j] := getD_at (by rw [List.getElem?_append_left hj, List.getElem?_eq_getElem hj])
    have hi := hin _ (List.getElem_mem hj)
    have hno : ¬ (r[j] ∈ (r ++ r.take 1).take j) := fun hmem => by
      rw [List.take_append_of_le_length (by omega)] at hmem
      obtain ⟨i, hi, hie⟩ := List.mem_iff_getElem.mp hmem
      rw [List.length_take] at hi
      rw [List.getElem_take] at hie
      exact (List.pairwise_iff_getElem.mp hrnd) i j (by omega) hj (by omega) hie
    unfold okO
    rw [hg, hlen]
    simp [hno, hi.1]
    omega
  · have hg : (r ++ r.take 1).getD r.length 0 = r[0] := getD_at (by rw [List.getElem?_append_right (Nat.le_refl _), Nat.sub_self, List.getElem?_take, if_pos (by omega), List.getElem?_eq_getElem hr0])
    unfold okO
    rw [hg, List.take_append_of_le_length (Nat.le_refl _), List.take_length]
    simp
structure Blt (mg : Str → Option Value) : Prop where
  isinstance : mg "isinstance" = none
  int : mg "int" = none
  bool : mg "bool" = none
  tuple : mg "tuple" = none
  enumerate : mg "enumerate" = none
  len : mg "len" = none
  range : mg "range" = none
  sum : mg "sum" = none
  zip : mg "zip" = none
  str : mg "str" = none
  sorted : mg "sorted" = none
  list : mg "list" = none
  min : mg "min" = none
section
variable {P : Program} {w : World} {K : PySem.W.Frag} {mg : Str → Option Value} {base : Heap} {f : Addr} {fd : FuncData} {C S : Addr}
theorem f_law (F : Fun K "law" "law" s_law f fd) (B : Blt mg) (Fs : FnG P w K mg base 1 "_law_store" sp_store) (Fp : FnG P w K mg base 2 "_law_pick" sp_pick) (Fi : FnG P w K mg base 1 "_law_is_int" sp_isint) (Fpa : FnG P w K mg base 1 "_law_parted" sp_parted) (Fo : FnG P w K mg base 1 "_law_orders" sp_orders)
    (Fpt : FnG P w K mg base 1 "_law_partitions" sp_partitions) (Ft : FnG P w K mg base 6 "_law_twice_right" sp_twice) (Fc : FnG P w K mg base 5 "count_robin" (sp_count C)) (Fl : FnG P w K mg base 4 "least_lengths" (sp_least C)) :
    FnOk P w K mg base (L2.CX P w) 7 f fd ["script"] (toSp K sp_law) := by
  refine fn_sy F sc_law (fun ms Q E h => by obtain ⟨n, rfl, _⟩ := h; rfl) (fun cdv A outer s H E G ms Q Em hr h tk po => ?_)
  have nd := sc_law.nd
  obtain ⟨ns, rfl, hl, k⟩ := h
  obtain ⟨mi, mint, mbool, mtuple, menum, mlen, mrange, msum, mzip, mstr, msorted, mlist, mmin⟩ := B
  refine b_cons ?_; regTopObj_noattr; kl_some
  refine ⟨ns, rfl, by omega, fun s0 hs0 => ⟨_, rfl, ?_⟩⟩; kl_some
  refine b_cons ?_; regTopObj_noattr; kl_some
  refine ⟨s0, 5, 0, rfl, hs0, by decide, by decide, by decide, fun s1 cn hs1 c0 c1 => ⟨_, rfl, ?_⟩⟩; kl_some
  obtain ⟨n, rfl⟩ : ∃ n : Nat, cn = n := ⟨cn.toNat, by omega⟩
  have hn : n ≤ 4 := by omega
  refine Xb.at [.a 0 (.ro (ns.map M.int)), .v s1.m, .v (.int n), .un, .un, .un, .un, .un, .un, .un, .un, .un, .un, .un] rfl ?_
  refine b_cons ?_; regTopObj_noattr
  refine x_bin (x_bin ?_); kl_some
  refine ⟨s1, _, 1, rfl, hs1, by decide, by omega, by omega, fun s2 p hs2 p0 p1 => ⟨_, rfl, ?_⟩⟩
  refine SY.o_add ?_
  refine Xp.cut (fun t e => ∃ (s3 : Sto) (b : Int), s3.ok 3 ∧ 0 ≤ b ∧ b ≤ 1 ∧ (n = 0 → b = 0) ∧ t = .o (.int b) ∧ e = [.a 0 (.ro (ns.map M.int)), .v s3.m, .v (.int n), .un, .un, .un, .un, .un, .un, .un, .un, .un, .un, .un]) ?_ ?_
  · kl_some
    refine ⟨fun b => ?_, fun b => ?_⟩
    · kl_some
      refine ⟨s2, 5, 2, rfl, hs2, by decide, by decide, by decide, fun s3 q hs3 q0 q1 => ⟨_, rfl, ?_⟩⟩; kl_some
      have hn0 : 0 < n := by simpa using b
      exact ⟨s3, _, hs3, by split <;> omega, by split <;> omega, fun z => by omega, rfl, rfl⟩
    · kl_some
      exact ⟨s2, 0, ⟨hs2.1, hs2.2.1, by have := hs2.2.2; omega⟩, by omega, by omega, fun _ => rfl, rfl, rfl⟩
  rintro t e ⟨s3, b, hs3, b0, b1, bn, rfl, rfl⟩
  kl_some
  obtain ⟨t, ht⟩ : ∃ t : Nat, (n : Int) + p - b = t := ⟨((n : Int) + p - b).toNat, by omega⟩
  have ht11 : t ≤ 11 := by omega
  rw [ht]
  refine Xb.at [.a 0 (.ro (ns.map M.int)), .v s3.m, .v (.int n), .v (.int t), .un, .un, .un, .un, .un, .un, .un, .un, .un, .un] rfl ?_
  refine b_cons ?_; regTopObj_noattr
  refine SY.x_dnewT ?_; kl_some
  refine b_cons (s_for po rfl (fun _ => rfl) (r_lst ?_)); kl_some
  refine ⟨t, n, rfl, by omega, by omega, by omega, by omega, _, rfl, ?_⟩
  have hrow : ∀ row ∈ parted t n, row.length = n := fun row hm => by
    obtain ⟨p, hp, rfl⟩ := List.mem_map.mp hm
    exact ((rowsP_small t (by omega) (by omega) n).2 p (List.mem_filter.mp hp).1).2.1
  have hplen : (parted t n).length ≤ 14641 := by
    have h1 := (rowsP_small t (by omega) (by omega) n).1
    have h2 : (11 : Nat) ^ n ≤ 11 ^ 4 := Nat.pow_le_pow_right (by omega) (by omega)
    have h3 : (11 : Nat) ^ 4 = 14641 := by decide
    have h4 := List.length_filter_le (fun p : List Int × Int => decide (p.2 = 0)) (rowsP t n)
    rw [parted, List.length_map]; omega
  have hclen : ∀ i, (((parted t n).take i).foldl (addC n) []).length ≤ i := by
    have gen : ∀ (l : List (List Int)) (c : List (List Int × Int)), (l.foldl (addC n) c).length ≤ c.length + l.length := by
      intro l
      induction l with
      | nil => intro c; simp
      | cons r l ih =>
        intro c
        rw [List.foldl_cons, List.length_cons]
        have h1 := ih (addC n c r)
        have h2 : (addC n c r).length ≤ c.length + 1 := putA_length _ _ _
        omega
    intro i
    have h1 := gen ((parted t n).take i) []
    have h2 := List.length_take_le i (parted t n)
    simp only [List.length_nil] at h1
    omega
  refine ⟨(parted t n).map intsM, rfl, imms_map intsM_imm _, fun i e => ∃ s5 s6 s11 s12 s13, e = [.a 0 (.ro (ns.map M.int)), .v s3.m, .v (.int n), .v (.int t), .v (dtM (tabM (((parted t n).take i).foldl (addC n) []))), s5, s6, .un, .un, .un, .un, s11, s12, s13], ⟨_, _, _, _, _, rfl⟩, ?_, ?_, ?_⟩
  · rintro i e ⟨s5, s6, s11, s12, s13, rfl⟩; rfl
  · rintro i e m hm ⟨s5, s6, s11, s12, s13, rfl⟩
    obtain ⟨row, hr1, rfl⟩ := map_get hm
    have hrl := hrow row (List.mem_of_getElem? hr1)
    ki_room
    refine Xb.at [.a 0 (.ro (ns.map M.int)), .v s3.m, .v (.int n), .v (.int t), .v (dtM (tabM (((parted t n).take i).foldl (addC n) []))), .v (intsM row), s6, .un, .un, .un, .un, s11, s12, s13] rfl ?_
    refine b_cons ?_; regTopObj_noattr
    refine c_tuple mtuple rfl rfl rfl (acons rfl ?_)
    refine x_lc rfl nd (blkOk_by (own := [("length", 11), ("place", 12)]) rfl) (fun _ => rfl) (r_lst ?_)
    refine c_sorted msorted rfl rfl rfl (acons rfl ?_)
    refine x_lc rfl nd (blkOk_by (own := [("k", 13)]) rfl) (fun _ => rfl) (r_range1 mrange rfl rfl ?_); kl_some
    refine ⟨by omega, ?_⟩
    refine lcw_map (fun a => pairM (row.getD a 0, (a : Int))) _ rfl rfl rfl True.intro (fun a _ => rfl) (by rw [rangeM_length]; exact le_sizeLine (by omega)) (fun a m hm => ?_) ?_
    · obtain ⟨ha, rfl⟩ := rangeM_get hm
      rw [show ((0 : Int) + (a : Int)) = (a : Int) from Int.zero_add _]
      refine ⟨[13], fun j hj => hj, fun acc s H C cl fp => ?_⟩
      kl_room
      intro s H C cl fp
      kl_some
      refine i_tup rfl (atIn (getD_int (by omega))) rfl ?_; kl_some
      exact ⟨rfl, rfl⟩
    have hps : ((List.range (rangeM 0 (n : Int).toNat).length).map fun (a : Nat) => pairM (row.getD a 0, (a : Int))) = (pairsP row n).map pairM := by
      rw [rangeM_length, pairsP, List.map_map]; rfl
    rw [hps]; kl_some
    refine v_sortP rfl ?_
    refine ⟨_, rfl, pairs_imm _, ?_⟩
    refine lcw_map (fun a => .int (((sortP (pairsP row n)).getD a (0, 0)).2)) _ rfl rfl rfl rfl (fun a _ => rfl) ?_ (fun a m hm => ?_) ?_
    · rw [List.length_map, (sortP_perm _).length_eq, pairsP, List.length_map, List.length_range]; exact le_sizeLine (by omega)
    · obtain ⟨q, hq, rfl⟩ := map_get hm
      rw [getD_at hq]
      refine ⟨[11] ++ ([12] ++ []), fun j hj => hj, fun acc s H C cl fp => ?_⟩
      kl_room
      intro s H C cl fp
      kl_some
      exact ⟨rfl, rfl⟩
    rw [List.length_map, range_get (sortP (pairsP row n)) (0, 0) fun p => M.int p.2]
    have ho : (sortP (pairsP row n)).map (fun p => M.int p.2) = (orderP row n).map M.int := by rw [orderP, List.map_map]; rfl
    rw [ho]; kl_some
    refine Xb.at [.a 0 (.ro (ns.map M.int)), .v s3.m, .v (.int n), .v (.int t), .v (dtM (tabM (((parted t n).take i).foldl (addC n) []))), .v (intsM row), .v (.tup (((orderP row n).map Sum.inl).map keyM)), .un, .un, .un, .un, .un, .un, .un] (by rw [keyM_ints]; rfl) ?_
    have hu1 := Nat.lt_of_le_of_lt (Nat.add_le_add_left (show 1 ≤ 64 by decide) _) (Room.units hr)
    refine b_one (s_asg rfl rfl rfl ?_)
    refine x_bin (x_dget2 hu1 ⟨rfl, rfl, rfl, rfl⟩ ?_); kl_some
    refine ⟨.inr ⟨_, rfl⟩, ?_⟩; kl_some
    refine ⟨_, _, .t (l := tabM (((parted t n).take i).foldl (addC n) [])) (k := (orderP row n).map Sum.inl) rfl rfl (tabM_imm _), rfl, rfl, ?_⟩
    rintro md mo ⟨_, rfl⟩
    rw [getD_tab]; kl_some
    refine ⟨_, g_dsub hu1 rfl (fun _ => rfl) ?_⟩; kl_some
    refine ⟨_, _, _, rfl, rfl, .t (l := tabM (((parted t n).take i).foldl (addC n) [])) (key := (orderP row n).map Sum.inl) rfl rfl rfl (tabM_imm _) ?_, ?_⟩
    · rw [tabM, List.length_map]
      have h1 := hclen i
      have h2 := (List.getElem?_eq_some_iff.mp hr1).1
      exact Nat.lt_of_le_of_lt h1 (by rw [PySem.sizeLine_eq]; omega)
    refine ⟨.v (intsM row), .v (.tup (((orderP row n).map Sum.inl).map keyM)), .un, .un, .un, ?_⟩
    rw [putA_tab]
    have hs : ((parted t n).take (i + 1)).foldl (addC n) [] = addC n (((parted t n).take i).foldl (addC n) []) row := by
      rw [List.take_succ, hr1, List.foldl_append]; rfl
    rw [hs]; rfl
  · rintro e ⟨s5, s6, s11, s12, s13, rfl⟩
    rw [List.length_map, List.take_length]
    have hu1 := Nat.lt_of_le_of_lt (Nat.add_le_add_left (show 1 ≤ 64 by decide) _) (Room.units hr)
    refine b_cons (s_for po rfl (fun _ => rfl) (r_lst ?_)); kl_some
    refine ⟨n, rfl, hn, _, rfl, (rowsO n n).map intsM, rfl, imms_map intsM_imm _, fun i e => ∃ s6 s7, e = [.a 0 (.ro (ns.map M.int)), .v s3.m, .v (.int n), .v (.int t), .v (dtM (tabM (cntP t n))), s5, s6, s7, .un, .un, .un, s11, s12, s13], ⟨_, _, rfl⟩, ?_, ?_, ?_⟩
    · rintro i e ⟨s6, s7, rfl⟩; rfl
    · rintro i e m hm ⟨s6, s7, rfl⟩
      obtain ⟨o, ho, rfl⟩ := map_get hm
      obtain ⟨o1, o2, o3⟩ := small_ok hn ht11 (List.mem_of_getElem? ho)
      have ol := (rowsO_small n hn n).2 o (List.mem_of_getElem? ho)
      ki_room
      refine b_cons ?_; regTopObj_noattr; kl_some
      refine ⟨o, t, rfl, by omega, by omega, fun _ => ⟨_, rfl, ?_⟩, fun p hp => absurd (o1 p hp.1) (by rw [hp.2.2]; decide)⟩; kl_some
      refine Xb.at [.a 0 (.ro (ns.map M.int)), .v s3.m, .v (.int n), .v (.int t), .v (dtM (tabM (cntP t n))), s5, .v (.tup ((o.map Sum.inl).map keyM)), .v (.int (countR o t)), .un, .un, .un, s11, s12, s13] (by rw [keyM_ints]; rfl) ?_
      refine b_one (s_if ?_); kl_some
      refine ⟨_, 0, rfl, _, rfl, ?_⟩; kl_some
      refine ⟨fun b => absurd b (by simp [o2]), fun _ => ?_⟩
      k_units; k_units; k_units
      refine x_dget2 hu1 ⟨rfl, rfl, rfl, rfl⟩ ?_; kl_some
      refine ⟨.inr ⟨_, rfl⟩, ?_⟩; kl_some
      refine ⟨_, _, .t (l := tabM (cntP t n)) (k := o.map Sum.inl) rfl rfl (tabM_imm _), rfl, rfl, ?_⟩
      rintro md mo ⟨_, rfl⟩
      rw [getD_tab]; kl_some
      refine ⟨fun b => absurd b (by simp [o3]), fun _ => b_nil ⟨_, _, rfl⟩⟩
    · rintro e ⟨s6, s7, rfl⟩
      refine b_cons ?_; regTopObj_noattr
      refine x_lrg1 rfl mlist mrange rfl rfl rfl rfl ?_; kl_some
      refine ⟨s3, 41, 3, rfl, hs3, by decide, by decide, by decide, fun s4 mm hs4 m0 m1 => ⟨_, rfl, ?_⟩⟩; kl_some
      refine ⟨⟨by omega, by omega⟩, ?_⟩; kl_some
      obtain ⟨m, rfl⟩ : ∃ m : Nat, mm = m := ⟨mm.toNat, by omega⟩
      refine Xb.at [.a 0 (.ro (ns.map M.int)), .v s4.m, .v (.int n), .v (.int t), .v (dtM (tabM (cntP t n))), s5, s6, s7, .v (.lst ((idL m).map M.int)), .un, .un, s11, s12, s13] (by rw [← idL_eq]; rfl) ?_
      refine b_cons ?_; regTopObj_noattr
      refine c_tuple mtuple rfl rfl rfl (acons rfl ?_)
      refine x_lc rfl nd (blkOk_by (own := [("k", 13)]) rfl) (fun _ => rfl) (r_range1 mrange rfl rfl ?_); kl_some
      have hml : (((idL m).map M.int).length : Nat) = m := by simp [idL]
      refine ⟨by omega, ?_⟩
      rw [hml]
      refine ⟨fun i acc e => ∃ (s : Sto) (ps lf : List Int), acc = ps.map M.int ∧ ps.length = i ∧ (ps ++ lf).Perm (idL m) ∧ s.ok (4 + i) ∧ e = [.a 0 (.ro (ns.map M.int)), .v s.m, .v (.int n), .v (.int t), .v (dtM (tabM (cntP t n))), s5, s6, s7, .v (.lst (lf.map M.int)), .un, .un, s11, s12, .un], rfl, ⟨s4, [], idL m, rfl, rfl, .refl _, ⟨hs4.1, hs4.2.1, by have := hs4.2.2; omega⟩, rfl⟩, ?_, ?_, ?_⟩
      · rintro i acc e ⟨s, ps, lf, rfl, _⟩
        exact ⟨True.intro, imms_ints ps⟩
      · rintro i acc e mm hm ⟨s, ps, lf, rfl, hpl, hperm, hs, rfl⟩
        obtain ⟨hi, rfl⟩ := rangeM_get hm
        have hlen : ps.length + lf.length = m := by rw [← List.length_append, hperm.length_eq, idL, List.length_map, List.length_range]
        refine ⟨[13], fun j hj => hj, fun sh0 H0 C0 cl0 fp0 => ?_⟩
        kl_room
        intro s' H' C' cl' fp'
        have hlfl : (lf.map M.int).length = lf.length := List.length_map _
        kl_some
        refine ⟨s, lf.length, 4 + i, by rw [hlfl], hs, by omega, by omega, by omega, fun sn q hsn q0 q1 => ⟨_, rfl, ?_⟩⟩; kl_some
        have hq : q.toNat < lf.length := by omega
        refine SY.m_popAt (m := .int (lf[q.toNat])) rfl rfl (imms_ints lf) ⟨q0, by omega⟩ (by rw [List.getElem?_map, List.getElem?_eq_getElem hq]; rfl) ?_
        refine ⟨_, rfl, rfl, by rw [List.length_map]; exact Nat.lt_of_lt_of_le (show ps.length < 41 by omega) (le_sizeLine (by omega)), sn, ps ++ [lf[q.toNat]], lf.eraseIdx q.toNat, by rw [List.map_append]; rfl, by rw [List.length_append, hpl]; rfl, ?_, ⟨hsn.1, hsn.2.1, by have := hsn.2.2; push_cast; omega⟩, ?_⟩
        · refine List.Perm.trans ?_ hperm
          rw [List.append_assoc]
          refine List.Perm.append_left ps ?_
          exact (perm_erase lf hq).symm
        · rw [← map_erase]; rfl
      rintro acc e ⟨s, ps, lf, rfl, hpl, hperm, hs, rfl⟩
      have hlen : ps.length + lf.length = m := by rw [← List.length_append, hperm.length_eq, idL, List.length_map, List.length_range]
      have hpm : ps.length = m := by rw [hpl, rangeM_length]; exact Int.toNat_natCast m
      obtain rfl : lf = [] := List.length_eq_zero_iff.mp (by omega)
      rw [List.append_nil] at hperm
      have hall := perm_all hperm
      kl_some
      refine Xb.at [.a 0 (.ro (ns.map M.int)), .v s.m, .v (.int n), .v (.int t), .v (dtM (tabM (cntP t n))), s5, .v (intsM ps), s7, .v (.lst []), .un, .un, s11, s12, .un] rfl ?_
      have hsl : s.ok 50 := ⟨hs.1, hs.2.1, by have := hs.2.2; rw [← hpl] at this; omega⟩
      have hsum := least_nonneg ps
      refine b_cons ?_; regTopObj_noattr
      refine Xp.cut (fun t0 e => ∃ (sz : Sto) (tot : Int), 0 ≤ tot ∧ tot ≤ 300 ∧ t0 = .o (.int tot) ∧ e = [.a 0 (.ro (ns.map M.int)), .v sz.m, .v (.int n), .v (.int t), .v (dtM (tabM (cntP t n))), s5, .v (intsM ps), s7, .v (.lst []), .un, .un, s11, s12, .un]) ?_ ?_
      · kl_some
        refine ⟨s, 301, 50, rfl, hsl, by decide, by decide, by decide, fun sa qa hsa a0 a1 => ⟨_, rfl, ?_⟩⟩; kl_some
        refine ⟨ps, rfl, by omega, fun _ => ⟨_, rfl, ?_⟩, fun p hp => absurd (hall p hp.1) (by rw [hp.2.2]; decide)⟩; kl_some
        refine ⟨sa, 60, _, rfl, hsa, by decide, by decide, by decide, fun sb qb hsb b0' b1' => ⟨_, rfl, ?_⟩⟩; kl_some
        refine ⟨sb, 2, _, rfl, hsb, by decide, by decide, by decide, fun sc qc hsc c0' c1' => ⟨_, rfl, ?_⟩⟩
        rcases (show qc = 0 ∨ qc = 1 by omega) with rfl | rfl
        · kl_some
          exact ⟨sc, qa, a0, by omega, rfl, rfl⟩
        · kl_some
          exact ⟨sc, _, by omega, by omega, rfl, rfl⟩
      rintro t0 e ⟨sz, tot, t0', t1', rfl, rfl⟩
      kl_some
      refine b_cons ?_; regTopObj_noattr; kl_some
      refine ⟨ps, rfl, by omega, fun _ => ⟨_, rfl, ?_⟩, fun p hp => absurd (hall p hp.1) (by rw [hp.2.2]; decide)⟩; kl_some
      refine b_cons ?_; regTopObj_noattr; kl_some
      have hplm : (ps.map M.int).length = ps.length := List.length_map _
      refine Xb.at [.a 0 (.ro (ns.map M.int)), .v sz.m, .v (.int n), .v (.int tot), .v (dtM (tabM (cntP t n))), s5, .v (intsM ps), s7, .v (.lst []), .v (.int (tot - (leastL ps).sum)), .v (.int 0), s11, s12, .un] rfl ?_
      refine b_cut (fun e => e = [.a 0 (.ro (ns.map M.int)), .v sz.m, .v (.int n), .v (.int tot), .v (dtM (tabM (cntP t n))), s5, .v (intsM ps), s7, .v (.lst []), .v (.int (tot - (leastL ps).sum)), .v (.int (countR ps tot)), s11, s12, .un]) ?_ ?_
      · refine s_if ?_; kl_some
        refine ⟨fun b => ?_, fun b => b_nil ?_⟩
        · have hb : 0 ≤ tot - (leastL ps).sum := by simpa using b
          refine b_one ?_; regTopObj_noattr; kl_some
          refine ⟨(tot - (leastL ps).sum).toNat, ps.length, by rw [Int.toNat_of_nonneg hb, hplm], by omega, by omega, _, rfl, ?_⟩; kl_some
          rw [countR, if_neg (by omega)]; rfl
        · have hb : ¬ 0 ≤ tot - (leastL ps).sum := by simpa using b
          rw [countR, if_pos (by omega)]
      rintro e rfl
      refine b_one (s_ret ?_); kl_some
      refine ⟨ps, tot, rfl, by omega, by omega, fun _ => ⟨_, rfl, ?_⟩, fun p hp => absurd (hall p hp.1) (by rw [hp.2.2]; decide)⟩; kl_some
      refine ⟨fun _ => ?_, fun b => absurd b (by simp)⟩; kl_some
      refine SY.o_eqD (Room.units hr) rfl rfl (data_ints ps) rfl ?_ ?_
      · rw [shaped_ints ps]; rfl
      rw [eqv_empty]; kl_some
      refine ⟨fun _ => ?_, fun b => ?_⟩
      · kl_some
        exact ⟨_, .arg .nil, k⟩
      have hne : ps ≠ [] := fun z => by rw [z] at b; cases b
      kl_some
      refine ⟨ps.drop (ps.length - 39), ?_, ?_, ?_, bad_of hperm hne (by omega), _, rfl, ?_⟩
      · rw [cutL_map, cutL_neg]; rfl
      · have : 0 < ps.length := List.length_pos_iff.mpr hne
        rw [List.length_drop]; omega
      · rw [List.length_drop]; omega
      kl_some
      exact ⟨_, .arg .nil, k⟩
end
end K40
open PySem L2 SY
open PyProof.Rows (envOfC)
namespace K40
theorem all_mk {l : PySem.W.OpenLaw} {w : World} {K : PySem.W.Frag} {h : Heap} {mg : Str → Option Value} {fa : Addr} (X : K.In h) (G : h.Ns mainGlobals mg) (hfa : mg "law" = some (.ref fa))
    {f0 : Addr} {od0 an0 : Option Addr} {sl0 : Array (Option Value)} {oc0 kV0 dc0 pm0 cd0 ct0 : Value}
    {f1 : Addr} {od1 an1 : Option Addr} {sl1 : Array (Option Value)} {oc1 kV1 dc1 pm1 cd1 ct1 : Value}
    {f2 : Addr} {od2 an2 : Option Addr} {sl2 : Array (Option Value)} {oc2 kV2 dc2 pm2 cd2 ct2 : Value}
    {f3 : Addr} {od3 an3 : Option Addr} {sl3 : Array (Option Value)} {oc3 kV3 dc3 pm3 cd3 ct3 : Value}
    {f4 : Addr} {od4 an4 : Option Addr} {sl4 : Array (Option Value)} {oc4 kV4 dc4 pm4 cd4 ct4 : Value}
    {f5 : Addr} {od5 an5 : Option Addr} {sl5 : Array (Option Value)} {oc5 kV5 dc5 pm5 cd5 ct5 : Value}
    {f6 : Addr} {od6 an6 : Option Addr} {sl6 : Array (Option Value)} {oc6 kV6 dc6 pm6 cd6 ct6 : Value}
    {f7 : Addr} {od7 an7 : Option Addr} {sl7 : Array (Option Value)} {oc7 kV7 dc7 pm7 cd7 ct7 : Value}
    {f8 : Addr} {od8 an8 : Option Addr} {sl8 : Array (Option Value)} {oc8 kV8 dc8 pm8 cd8 ct8 : Value}
    {f9 : Addr} {od9 an9 : Option Addr} {sl9 : Array (Option Value)} {oc9 kV9 dc9 pm9 cd9 ct9 : Value}
    {f10 : Addr} {od10 an10 : Option Addr} {sl10 : Array (Option Value)} {oc10 kV10 dc10 pm10 cd10 ct10 : Value}
    {f11 : Addr} {od11 an11 : Option Addr} {sl11 : Array (Option Value)} {oc11 kV11 dc11 pm11 cd11 ct11 : Value}
    {f12 : Addr} {od12 an12 : Option Addr} {sl12 : Array (Option Value)} {oc12 kV12 dc12 pm12 cd12 ct12 : Value}
    {f13 : Addr} {od13 an13 : Option Addr} {sl13 : Array (Option Value)} {oc13 kV13 dc13 pm13 cd13 ct13 : Value}
    {S C : Addr} {nm q : Str} {N : Addr} {bs : List Value} {sn : List Str} {sub : List Value} {ab : Bool} {col : Option Bool} {dd : Option Addr} {m0 m1 m2 m3 m5 : Option Value} {fI : Addr} {odI anI : Option Addr} {slI : Array (Option Value)} {ocI kVI dcI pmI cdI ctI : Value}
    {g0 : Addr}
    {g1 : Addr}
    {g2 : Addr}
    {g3 : Addr}
    {g4 : Addr}
    {g5 : Addr}
    {g7 : Addr}
    {g8 : Addr}
    {g9 : Addr}
    {g10 : Addr}
    {g11 : Addr}
    (a0 : PySem.W.nsIn K mainGlobals "is_integer" = some (some (.ref f0)))
    (l0 : K.lookup f0 = some ⟨oc0, od0, .func (PySem.W.fnOf "is_integer" "is_integer" (defArgs s_is_integer) (defBody s_is_integer) (defScope s_is_integer) .none kV0 dc0 pm0 an0 cd0 ct0), sl0⟩)
    (c0 : PySem.W.codeIn K cd0 "is_integer" = true)
    (k0 : PySem.W.keepIn K (.ref f0) = true)
    (a1 : PySem.W.nsIn K mainGlobals "check_order" = some (some (.ref f1)))
    (l1 : K.lookup f1 = some ⟨oc1, od1, .func (PySem.W.fnOf "check_order" "check_order" (defArgs s_check_order) (defBody s_check_order) (defScope s_check_order) .none kV1 dc1 pm1 an1 cd1 ct1), sl1⟩)
    (c1 : PySem.W.codeIn K cd1 "check_order" = true)
    (k1 : PySem.W.keepIn K (.ref f1) = true)
    (a2 : PySem.W.nsIn K mainGlobals "least_lengths" = some (some (.ref f2)))
    (l2 : K.lookup f2 = some ⟨oc2, od2, .func (PySem.W.fnOf "least_lengths" "least_lengths" (defArgs s_least_lengths) (defBody s_least_lengths) (defScope s_least_lengths) .none kV2 dc2 pm2 an2 cd2 ct2), sl2⟩)
    (c2 : PySem.W.codeIn K cd2 "least_lengths" = true)
    (k2 : PySem.W.keepIn K (.ref f2) = true)
    (a3 : PySem.W.nsIn K mainGlobals "count_robin" = some (some (.ref f3)))
    (l3 : K.lookup f3 = some ⟨oc3, od3, .func (PySem.W.fnOf "count_robin" "count_robin" (defArgs s_count_robin) (defBody s_count_robin) (defScope s_count_robin) .none kV3 dc3 pm3 an3 cd3 ct3), sl3⟩)
    (c3 : PySem.W.codeIn K cd3 "count_robin" = true)
    (k3 : PySem.W.keepIn K (.ref f3) = true)
    (a4 : PySem.W.nsIn K mainGlobals "_law_mix" = some (some (.ref f4)))
    (l4 : K.lookup f4 = some ⟨oc4, od4, .func (PySem.W.fnOf "_law_mix" "_law_mix" (defArgs s_law_mix) (defBody s_law_mix) (defScope s_law_mix) .none kV4 dc4 pm4 an4 cd4 ct4), sl4⟩)
    (c4 : PySem.W.codeIn K cd4 "_law_mix" = true)
    (k4 : PySem.W.keepIn K (.ref f4) = true)
    (a5 : PySem.W.nsIn K mainGlobals "_law_store" = some (some (.ref f5)))
    (l5 : K.lookup f5 = some ⟨oc5, od5, .func (PySem.W.fnOf "_law_store" "_law_store" (defArgs s_law_store) (defBody s_law_store) (defScope s_law_store) .none kV5 dc5 pm5 an5 cd5 ct5), sl5⟩)
    (c5 : PySem.W.codeIn K cd5 "_law_store" = true)
    (k5 : PySem.W.keepIn K (.ref f5) = true)
    (a6 : PySem.W.nsIn K mainGlobals "_law_pick" = some (some (.ref f6)))
    (l6 : K.lookup f6 = some ⟨oc6, od6, .func (PySem.W.fnOf "_law_pick" "_law_pick" (defArgs s_law_pick) (defBody s_law_pick) (defScope s_law_pick) .none kV6 dc6 pm6 an6 cd6 ct6), sl6⟩)
    (c6 : PySem.W.codeIn K cd6 "_law_pick" = true)
    (k6 : PySem.W.keepIn K (.ref f6) = true)
    (a7 : PySem.W.nsIn K mainGlobals "_law_is_int" = some (some (.ref f7)))
    (l7 : K.lookup f7 = some ⟨oc7, od7, .func (PySem.W.fnOf "_law_is_int" "_law_is_int" (defArgs s_law_is_int) (defBody s_law_is_int) (defScope s_law_is_int) .none kV7 dc7 pm7 an7 cd7 ct7), sl7⟩)
    (c7 : PySem.W.codeIn K cd7 "_law_is_int" = true)
    (k7 : PySem.W.keepIn K (.ref f7) = true)
    (a8 : PySem.W.nsIn K mainGlobals "_law_kind" = some (some (.ref f8)))
    (l8 : K.lookup f8 = some ⟨oc8, od8, .func (PySem.W.fnOf "_law_kind" "_law_kind" (defArgs s_law_kind) (defBody s_law_kind) (defScope s_law_kind) .none kV8 dc8 pm8 an8 cd8 ct8), sl8⟩)
    (c8 : PySem.W.codeIn K cd8 "_law_kind" = true)
    (k8 : PySem.W.keepIn K (.ref f8) = true)
    (a9 : PySem.W.nsIn K mainGlobals "_law_parted" = some (some (.ref f9)))
    (l9 : K.lookup f9 = some ⟨oc9, od9, .func (PySem.W.fnOf "_law_parted" "_law_parted" (defArgs s_law_parted) (defBody s_law_parted) (defScope s_law_parted) .none kV9 dc9 pm9 an9 cd9 ct9), sl9⟩)
    (c9 : PySem.W.codeIn K cd9 "_law_parted" = true)
    (k9 : PySem.W.keepIn K (.ref f9) = true)
    (a10 : PySem.W.nsIn K mainGlobals "_law_orders" = some (some (.ref f10)))
    (l10 : K.lookup f10 = some ⟨oc10, od10, .func (PySem.W.fnOf "_law_orders" "_law_orders" (defArgs s_law_orders) (defBody s_law_orders) (defScope s_law_orders) .none kV10 dc10 pm10 an10 cd10 ct10), sl10⟩)
    (c10 : PySem.W.codeIn K cd10 "_law_orders" = true)
    (k10 : PySem.W.keepIn K (.ref f10) = true)
    (a11 : PySem.W.nsIn K mainGlobals "_law_partitions" = some (some (.ref f11)))
    (l11 : K.lookup f11 = some ⟨oc11, od11, .func (PySem.W.fnOf "_law_partitions" "_law_partitions" (defArgs s_law_partitions) (defBody s_law_partitions) (defScope s_law_partitions) .none kV11 dc11 pm11 an11 cd11 ct11), sl11⟩)
    (c11 : PySem.W.codeIn K cd11 "_law_partitions" = true)
    (k11 : PySem.W.keepIn K (.ref f11) = true)
    (a12 : PySem.W.nsIn K mainGlobals "_law_twice_right" = some (some (.ref f12)))
    (l12 : K.lookup f12 = some ⟨oc12, od12, .func (PySem.W.fnOf "_law_twice_right" "_law_twice_right" (defArgs s_law_twice_right) (defBody s_law_twice_right) (defScope s_law_twice_right) .none kV12 dc12 pm12 an12 cd12 ct12), sl12⟩)
    (c12 : PySem.W.codeIn K cd12 "_law_twice_right" = true)
    (k12 : PySem.W.keepIn K (.ref f12) = true)
    (a13 : PySem.W.nsIn K mainGlobals "law" = some (some (.ref f13)))
    (l13 : K.lookup f13 = some ⟨oc13, od13, .func (PySem.W.fnOf "law" "law" (defArgs s_law) (defBody s_law) (defScope s_law) .none kV13 dc13 pm13 an13 cd13 ct13), sl13⟩)
    (c13 : PySem.W.codeIn K cd13 "law" = true)
    (k13 : PySem.W.keepIn K (.ref f13) = true)
    (aS : PySem.W.nsIn K mainGlobals "SlotError" = some (some (.ref S)))
    (aC : PySem.W.nsIn K mainGlobals "NoOrder" = some (some (.ref C)))
    (xL : K.lookup C = some (excClassObj nm q C N bs [.ref S, .type "ValueError", .type "Exception", .type "BaseException", .type "object"] true sn sub ab col dd m0 m1 m2 m3 m5 "ValueError.__new__"))
    (xsa : PySem.W.findIn K (.ref C) "__setattr__" = some (some (.builtin "object.__setattr__")))
    (xsub : PySem.W.subIn K (.ref C) (.type "BaseException") = some true)
    (xty : PySem.W.typeIn K (.ref C) = some (.type "type"))
    (xk : PySem.W.keepIn K (.ref C) = true)
    (iC : PySem.W.findIn K (.ref C) "__init__" = some (some (.ref fI)))
    (iT : PySem.W.typeIn K (.ref fI) = some (.type "function"))
    (lI : K.lookup fI = some ⟨ocI, odI, .func (PySem.W.fnOf "__init__" "NoOrder.__init__" (defArgs s_NoOrder_init) (defBody s_NoOrder_init) (defScope s_NoOrder_init) .none kVI dcI pmI anI cdI ctI), slI⟩)
    (cI : PySem.W.codeIn K cdI "NoOrder.__init__" = true)
    (kI : PySem.W.keepIn K (.ref fI) = true)
    (sga : PySem.W.specialIn K (.ref S) "__getattribute__" = some (some (.builtin "type.__getattribute__")))
    (srd : PySem.W.readsIn K S (.type "type") = true)
    (sin : PySem.W.findCls K (.ref S) (.type "type") "__init__" = some (.val (.builtin "ValueError.__init__")))
    (ega : PySem.W.findIn K (.ref C) "__getattribute__" = some (some (.builtin "BaseException.__getattribute__")))
    (ehk : PySem.W.findIn K (.ref C) "__getattr__" = some none)
    (ehd : PySem.W.hasDictIn K C = true)
    (eha : PySem.W.findIn K (.ref C) "__class__" = some (some (.builtin "object.__class__")))
    (ehn : PySem.W.specialIn K (.builtin "object.__class__") "__get__" = some (some (.builtin "getset_descriptor.__get__")))
    (eht : PySem.W.takesIn K (.builtin "object.__class__") = some true)
    (ehm : PySem.W.mroIn K C (.type "object") = some true)
    (eno : PySem.W.findIn K (.ref C) "place" = some none)
    (exm : PySem.W.exmOne K (.ref C) (.ref S) = some true)
    (b0 : PySem.W.nsIn K mainGlobals "NoJobs" = some (some (.ref g0)))
    (q0 : PySem.W.kitOne K (.ref C) (.ref g0) = some false)
    (b1 : PySem.W.nsIn K mainGlobals "NoRule" = some (some (.ref g1)))
    (q1 : PySem.W.kitOne K (.ref C) (.ref g1) = some false)
    (b2 : PySem.W.nsIn K mainGlobals "NoLengths" = some (some (.ref g2)))
    (q2 : PySem.W.kitOne K (.ref C) (.ref g2) = some false)
    (b3 : PySem.W.nsIn K mainGlobals "NoLog" = some (some (.ref g3)))
    (q3 : PySem.W.kitOne K (.ref C) (.ref g3) = some false)
    (b4 : PySem.W.nsIn K mainGlobals "NoMarks" = some (some (.ref g4)))
    (q4 : PySem.W.kitOne K (.ref C) (.ref g4) = some false)
    (b5 : PySem.W.nsIn K mainGlobals "NoNamed" = some (some (.ref g5)))
    (q5 : PySem.W.kitOne K (.ref C) (.ref g5) = some false)
    (b7 : PySem.W.nsIn K mainGlobals "NoText" = some (some (.ref g7)))
    (q7 : PySem.W.kitOne K (.ref C) (.ref g7) = some false)
    (b8 : PySem.W.nsIn K mainGlobals "NoNumber" = some (some (.ref g8)))
    (q8 : PySem.W.kitOne K (.ref C) (.ref g8) = some false)
    (b9 : PySem.W.nsIn K mainGlobals "NoName" = some (some (.ref g9)))
    (q9 : PySem.W.kitOne K (.ref C) (.ref g9) = some false)
    (b10 : PySem.W.nsIn K mainGlobals "NoUndo" = some (some (.ref g10)))
    (q10 : PySem.W.kitOne K (.ref C) (.ref g10) = some false)
    (b11 : PySem.W.nsIn K mainGlobals "NoLine" = some (some (.ref g11)))
    (q11 : PySem.W.kitOne K (.ref C) (.ref g11) = some false)
    (qE : PySem.W.kitOne K (.ref C) (.ref C) = some true)
    (qS : PySem.W.kitOne K (.ref C) (.ref S) = some true)
    (qV : PySem.W.kitOne K (.ref C) (.type "ValueError") = some true)
    (zV : PySem.W.nsIn K mainGlobals "ValueError" = some none)
    (z_isinstance : PySem.W.nsIn K mainGlobals "isinstance" = some none)
    (z_int : PySem.W.nsIn K mainGlobals "int" = some none)
    (z_bool : PySem.W.nsIn K mainGlobals "bool" = some none)
    (z_tuple : PySem.W.nsIn K mainGlobals "tuple" = some none)
    (z_enumerate : PySem.W.nsIn K mainGlobals "enumerate" = some none)
    (z_len : PySem.W.nsIn K mainGlobals "len" = some none)
    (z_range : PySem.W.nsIn K mainGlobals "range" = some none)
    (z_sum : PySem.W.nsIn K mainGlobals "sum" = some none)
    (z_zip : PySem.W.nsIn K mainGlobals "zip" = some none)
    (z_str : PySem.W.nsIn K mainGlobals "str" = some none)
    (z_sorted : PySem.W.nsIn K mainGlobals "sorted" = some none)
    (z_list : PySem.W.nsIn K mainGlobals "list" = some none)
    (z_min : PySem.W.nsIn K mainGlobals "min" = some none)
    : ∃ fd : FuncData, (∀ (s : Shared) (v : Value), BindsTo s fd ⟨[v], []⟩ [("script", v)]) ∧ ∀ base : Heap, K.In base → base.Ns mainGlobals mg → FnOk l.prog w K mg base (L2.CX l.prog w) 7 fa fd ["script"] (toSp K sp_law) := by
  have e := hfa.symm.trans (PySem.W.mg_of X G a13)
  cases e
  have F0 := fun_mk (st := s_is_integer) l0 c0 k0
  have b0_ := F0.binds (ps := ["value", "least"]) fun _ _ _ _ _ _ us hl => match us, hl with | [_, _], _ => rfl
  have F1 := fun_mk (st := s_check_order) l1 c1 k1
  have b1_ := F1.binds (ps := ["order"]) fun _ _ _ _ _ _ us hl => match us, hl with | [_], _ => rfl
  have F2 := fun_mk (st := s_least_lengths) l2 c2 k2
  have b2_ := F2.binds (ps := ["order"]) fun _ _ _ _ _ _ us hl => match us, hl with | [_], _ => rfl
  have F3 := fun_mk (st := s_count_robin) l3 c3 k3
  have b3_ := F3.binds (ps := ["order", "total"]) fun _ _ _ _ _ _ us hl => match us, hl with | [_, _], _ => rfl
  have F4 := fun_mk (st := s_law_mix) l4 c4 k4
  have b4_ := F4.binds (ps := ["number", "turn"]) fun _ _ _ _ _ _ us hl => match us, hl with | [_, _], _ => rfl
  have F5 := fun_mk (st := s_law_store) l5 c5 k5
  have b5_ := F5.binds (ps := ["script"]) fun _ _ _ _ _ _ us hl => match us, hl with | [_], _ => rfl
  have F6 := fun_mk (st := s_law_pick) l6 c6 k6
  have b6_ := F6.binds (ps := ["store", "count"]) fun _ _ _ _ _ _ us hl => match us, hl with | [_, _], _ => rfl
  have F7 := fun_mk (st := s_law_is_int) l7 c7 k7
  have b7_ := F7.binds (ps := ["value", "least"]) fun _ _ _ _ _ _ us hl => match us, hl with | [_, _], _ => rfl
  have F8 := fun_mk (st := s_law_kind) l8 c8 k8
  have b8_ := F8.binds (ps := ["caught"]) fun _ _ _ _ _ _ us hl => match us, hl with | [_], _ => rfl
  have F9 := fun_mk (st := s_law_parted) l9 c9 k9
  have b9_ := F9.binds (ps := ["total", "count"]) fun _ _ _ _ _ _ us hl => match us, hl with | [_, _], _ => rfl
  have F10 := fun_mk (st := s_law_orders) l10 c10 k10
  have b10_ := F10.binds (ps := ["count"]) fun _ _ _ _ _ _ us hl => match us, hl with | [_], _ => rfl
  have F11 := fun_mk (st := s_law_partitions) l11 c11 k11
  have b11_ := F11.binds (ps := ["rest", "most"]) fun _ _ _ _ _ _ us hl => match us, hl with | [_, _], _ => rfl
  have F12 := fun_mk (st := s_law_twice_right) l12 c12 k12
  have b12_ := F12.binds (ps := ["order"]) fun _ _ _ _ _ _ us hl => match us, hl with | [_], _ => rfl
  have F13 := fun_mk (st := s_law) l13 c13 k13
  have b13_ := F13.binds (ps := ["script"]) fun _ _ _ _ _ _ us hl => match us, hl with | [_], _ => rfl
  have FI := fun_mk (st := s_NoOrder_init) lI cI kI
  have bI_ := FI.binds (ps := ["self", "place"]) fun _ _ _ _ _ _ us hl => match us, hl with | [_, _], _ => rfl
  have B : Blt mg := ⟨PySem.W.mg_none_of X G z_isinstance, PySem.W.mg_none_of X G z_int, PySem.W.mg_none_of X G z_bool, PySem.W.mg_none_of X G z_tuple, PySem.W.mg_none_of X G z_enumerate, PySem.W.mg_none_of X G z_len, PySem.W.mg_none_of X G z_range, PySem.W.mg_none_of X G z_sum, PySem.W.mg_none_of X G z_zip, PySem.W.mg_none_of X G z_str, PySem.W.mg_none_of X G z_sorted, PySem.W.mg_none_of X G z_list, PySem.W.mg_none_of X G z_min⟩
  have oc : OexC K C := ⟨⟨nm, q, N, bs, _, sn, sub, ab, col, dd, m0, m1, m2, m3, m5, xL, rfl⟩, xsa, xsub, xty, xk⟩
  have sl : SlG K mg S := ⟨PySem.W.mg_of X G aS, sga, srd, sin⟩
  have kg : KdG K mg C := ⟨⟨ega, ehk, xsub, ehd, eha, ehn, eht, ehm⟩, ⟨ega, ehk, xsub, ehd⟩, eno, g0, g1, g2, g3, g4, g5, C, g7, g8, g9, g10, g11, S, PySem.W.mg_of X G b0, PySem.W.mg_of X G b1, PySem.W.mg_of X G b2, PySem.W.mg_of X G b3, PySem.W.mg_of X G b4, PySem.W.mg_of X G b5, PySem.W.mg_of X G aC, PySem.W.mg_of X G b7, PySem.W.mg_of X G b8, PySem.W.mg_of X G b9, PySem.W.mg_of X G b10, PySem.W.mg_of X G b11, PySem.W.mg_of X G aS, PySem.W.mg_none_of X G zV, q0, q1, q2, q3, q4, q5, qE, q7, q8, q9, q10, q11, qS, qV⟩
  refine ⟨PySem.W.fnOf "law" "law" (defArgs s_law) (defBody s_law) (defScope s_law) .none kV13 dc13 pm13 an13 cd13 ct13, fun s v => .of_eq rfl, fun base _ _ => ?_⟩
  have G0 := fnG_mk (P := l.prog) (w := w) (base := base) X G a0 k0 (f_is_integer F0 B.isinstance B.int B.bool) b0_
  have K6 : ClsG l.prog w K mg base 1 "NoOrder" C okPlace := ⟨oc, PySem.W.mg_of X G aC, fI, _, _, iC, iT, f_NoOrder FI oc sl B.str eno, bI_⟩
  have G1 := fnG_mk (P := l.prog) (w := w) (base := base) X G a1 k1 (f_check F1 B.isinstance B.tuple B.enumerate B.len G0 K6) b1_
  have G2 := fnG_mk (P := l.prog) (w := w) (base := base) X G a2 k2 (f_least F2 B.zip B.int B.tuple B.len G1) b2_
  have G3 := fnG_mk (P := l.prog) (w := w) (base := base) X G a3 k3 (f_count F3 B.range B.sum B.len G2) b3_
  have G4 := fnG_mk (P := l.prog) (w := w) (base := base) X G a4 k4 (f_mix F4) b4_
  have G5 := fnG_mk (P := l.prog) (w := w) (base := base) X G a5 k5 (f_store F5 B.len) b5_
  have G6 := fnG_mk (P := l.prog) (w := w) (base := base) X G a6 k6 (f_pick F6 B.len G4) b6_
  have G7 := fnG_mk (P := l.prog) (w := w) (base := base) X G a7 k7 (f_law_is_int F7 B.isinstance B.int B.bool) b7_
  have G8 := fnG_mk (P := l.prog) (w := w) (base := base) X G a8 k8 (f_kind F8 B.isinstance kg) b8_
  have G9 := fnG_mk (P := l.prog) (w := w) (base := base) X G a9 k9 (f_parted F9 B.range) b9_
  have G10 := fnG_mk (P := l.prog) (w := w) (base := base) X G a10 k10 (f_orders F10 B.range) b10_
  have G11 := fnG_mk (P := l.prog) (w := w) (base := base) X G a11 k11 (f_partitions F11 B.range) b11_
  have G12 := fnG_mk (P := l.prog) (w := w) (base := base) X G a12 k12 (f_twice F12 B.len sl.gm exm G3 G8) b12_
  exact f_law F13 B G5 G6 G7 G9 G10 G11 G12 G3 G2
end K40
open PySem PySem.W PyProof.Rows in
set_option maxRecDepth 100000 in
set_option maxHeartbeats 0 in
theorem PySem.Challenge.cw_blindslots_k40_whole_orders_counted_holds : PySem.Challenge.rw_blindslots_k40_whole_orders_counted.Holds := by
  w_on; o_law; k_head; (case hw => w_witness2)
  k_fill
  refine L2.walk_of (l := PySem.Challenge.rw_blindslots_k40_whole_orders_counted) (n := 63) (k := 7) (x := "script") (CX := fun w => L2.CX PySem.Challenge.rw_blindslots_k40_whole_orders_counted.prog w) (sp := fun w => SY.toSp _ K40.sp_law) rfl (by decide) rfl ⟨rfl, by decide, by decide⟩ (fun w h Y => PySem.W.kIn_of Y) ?F (fun _ _ a ns hl hO hS => SY.law_sp hO hS ⟨ns, rfl, hl, rfl⟩) (fun _ => SY.cx_no)
  case F =>
    intro w mg fa h KX G hmg
    refine' K40.all_mk KX G hmg ?a0 ?l0 ?c0 ?k0 ?a1 ?l1 ?c1 ?k1 ?a2 ?l2 ?c2 ?k2 ?a3 ?l3 ?c3 ?k3 ?a4 ?l4 ?c4 ?k4 ?a5 ?l5 ?c5 ?k5 ?a6 ?l6 ?c6 ?k6 ?a7 ?l7 ?c7 ?k7 ?a8 ?l8 ?c8 ?k8 ?a9 ?l9 ?c9 ?k9 ?a10 ?l10 ?c10 ?k10 ?a11 ?l11 ?c11 ?k11 ?a12 ?l12 ?c12 ?k12 ?a13 ?l13 ?c13 ?k13 ?aS ?aC ?xL ?xsa ?xsub ?xty ?xk ?iC ?iT ?lI ?cI ?kI ?sga ?srd ?sin ?ega ?ehk ?ehd ?eha ?ehn ?eht ?ehm ?eno ?exm ?b0 ?q0 ?b1 ?q1 ?b2 ?q2 ?b3 ?q3 ?b4 ?q4 ?b5 ?q5 ?b7 ?q7 ?b8 ?q8 ?b9 ?q9 ?b10 ?q10 ?b11 ?q11 ?qE ?qS ?qV ?zV ?z_isinstance ?z_int ?z_bool ?z_tuple ?z_enumerate ?z_len ?z_range ?z_sum ?z_zip ?z_str ?z_sorted ?z_list ?z_min
    (case a0 => first | k_is | rfl)
    (case l0 => first | k_is | rfl)
    (case c0 => first | k_is | rfl)
    (case k0 => first | k_is | rfl)
    (case a1 => first | k_is | rfl)
    (case l1 => first | k_is | rfl)
    (case c1 => first | k_is | rfl)
    (case k1 => first | k_is | rfl)
    (case a2 => first | k_is | rfl)
    (case l2 => first | k_is | rfl)
    (case c2 => first | k_is | rfl)
    (case k2 => first | k_is | rfl)
    (case a3 => first | k_is | rfl)
    (case l3 => first | k_is | rfl)
    (case c3 => first | k_is | rfl)
    (case k3 => first | k_is | rfl)
    (case a4 => first | k_is | rfl)
    (case l4 => first | k_is | rfl)
    (case c4 => first | k_is | rfl)
    (case k4 => first | k_is | rfl)
    (case a5 => first | k_is | rfl)
    (case l5 => first | k_is | rfl)
    (case c5 => first | k_is | rfl)
    (case k5 => first | k_is | rfl)
    (case a6 => first | k_is | rfl)
    (case l6 => first | k_is | rfl)
    (case c6 => first | k_is | rfl)
    (case k6 => first | k_is | rfl)
    (case a7 => first | k_is | rfl)
    (case l7 => first | k_is | rfl)
    (case c7 => first | k_is | rfl)
    (case k7 => first | k_is | rfl)
    (case a8 => first | k_is | rfl)
    (case l8 => first | k_is | rfl)
    (case c8 => first | k_is | rfl)
    (case k8 => first | k_is | rfl)
    (case a9 => first | k_is | rfl)
    (case l9 => first | k_is | rfl)
    (case c9 => first | k_is | rfl)
    (case k9 => first | k_is | rfl)
    (case a10 => first | k_is | rfl)
    (case l10 => first | k_is | rfl)
    (case c10 => first | k_is | rfl)
    (case k10 => first | k_is | rfl)
    (case a11 => first | k_is | rfl)
    (case l11 => first | k_is | rfl)
    (case c11 => first | k_is | rfl)
    (case k11 => first | k_is | rfl)
    (case a12 => first | k_is | rfl)
    (case l12 => first | k_is | rfl)
    (case c12 => first | k_is | rfl)
    (case k12 => first | k_is | rfl)
    (case a13 => first | k_is | rfl)
    (case l13 => first | k_is | rfl)
    (case c13 => first | k_is | rfl)
    (case k13 => first | k_is | rfl)
    (case aS => first | k_is | rfl)
    (case aC => first | k_is | rfl)
    (case xL => first | k_is | rfl)
    (case xsa => first | k_is | rfl)
    (case xsub => first | k_is | rfl)
    (case xty => first | k_is | rfl)
    (case xk => first | k_is | rfl)
    (case iC => first | k_is | rfl)
    (case iT => first | k_is | rfl)
    (case lI => first | k_is | rfl)
    (case cI => first | k_is | rfl)
    (case kI => first | k_is | rfl)
    (case sga => first | k_is | rfl)
    (case srd => first | k_is | rfl)
    (case sin => first | k_is | rfl)
    (case ega => first | k_is | rfl)
    (case ehk => first | k_is | rfl)
    (case ehd => first | k_is | rfl)
    (case eha => first | k_is | rfl)
    (case ehn => first | k_is | rfl)
    (case eht => first | k_is | rfl)
    (case ehm => first | k_is | rfl)
    (case eno => first | k_is | rfl)
    (case exm => first | k_is | rfl)
    (case b0 => first | k_is | rfl)
    (case q0 => first | k_is | rfl)
    (case b1 => first | k_is | rfl)
    (case q1 => first | k_is | rfl)
    (case b2 => first | k_is | rfl)
    (case q2 => first | k_is | rfl)
    (case b3 => first | k_is | rfl)
    (case q3 => first | k_is | rfl)
    (case b4 => first | k_is | rfl)
    (case q4 => first | k_is | rfl)
    (case b5 => first | k_is | rfl)
    (case q5 => first | k_is | rfl)
    (case b7 => first | k_is | rfl)
    (case q7 => first | k_is | rfl)
    (case b8 => first | k_is | rfl)
    (case q8 => first | k_is | rfl)
    (case b9 => first | k_is | rfl)
    (case q9 => first | k_is | rfl)
    (case b10 => first | k_is | rfl)
    (case q10 => first | k_is | rfl)
    (case b11 => first | k_is | rfl)
    (case q11 => first | k_is | rfl)
    (case qE => first | k_is | rfl)
    (case qS => first | k_is | rfl)
    (case qV => first | k_is | rfl)
    (case zV => first | k_is | rfl)
    (case z_isinstance => first | k_is | rfl)
    (case z_int => first | k_is | rfl)
    (case z_bool => first | k_is | rfl)
    (case z_tuple => first | k_is | rfl)
    (case z_enumerate => first | k_is | rfl)
    (case z_len => first | k_is | rfl)
    (case z_range => first | k_is | rfl)
    (case z_sum => first | k_is | rfl)
    (case z_zip => first | k_is | rfl)
    (case z_str => first | k_is | rfl)
    (case z_sorted => first | k_is | rfl)
    (case z_list => first | k_is | rfl)
    (case z_min => first | k_is | rfl)
