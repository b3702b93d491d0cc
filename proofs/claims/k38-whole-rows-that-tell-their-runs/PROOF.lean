import PyProof.Rows.All
import Wide.All
import OpenK.AllK
import Wide.FinOn
import HandS.ForMost
import HandS.ForExc
import HandS.Wide
import HandS.Zip
import HandS.TupAny
import HandS.TupMul
import HandS.IsInst
import HandS.Style
import HandS.Flow
import HandS.Conv
import HandS.Evl
import HandS.Deep
import KE.KTupSum
import KE.DatumOrd
import PyProof.Rows.TupReads
import HandS.RaiseMore
import HandS.EndBits
import KE.GoesMore
import HandS.SortInts
import PyProof.Rows.SetFrom
import KE.DatumIndex
import KE.KIndexOf
import KE.Datum
import PySem.Challenge.RW_wholeyard_k38_whole_rows_that_tell_their
set_option Elab.async false
set_option linter.all false
set_option maxRecDepth 100000
set_option exponentiation.threshold 9000
set_option maxHeartbeats 0
namespace PL
open PySem PySem.Spec PyProof.Rows L2
/-! PL: plain values over the hand layer. -/

/-! ### plain values -/
inductive PV where
  | non | bl (b : Bool) | int (i : Int) | str (s : Str)
  | tup (xs : List PV) | lst (xs : List PV)
  | cell (n : Nat) | scr (xs : List PV)

mutual
def PV.flat : PV → Bool
  | .non => true
  | .bl _ => true
  | .int _ => true
  | .str _ => true
  | .tup xs => flats xs
  | .lst _ => false
  | .cell _ => true
  | .scr _ => false
def flats : List PV → Bool
  | [] => true
  | x :: xs => x.flat && flats xs
end

structure PExc where
  cls : Str
  fld : List (Str × PV)

abbrev Hc := List (List PV)
inductive Res (α : Type) where
  | ok (a : α) (h : Hc)
  | exc (e : PExc) (h : Hc)
  | stuck
def M (α : Type) := Hc → Res α
def M.pure {α : Type} (a : α) : M α := fun h => .ok a h
def M.bind {α β : Type} (m : M α) (f : α → M β) : M β := fun h => match m h with
  | .ok a h' => f a h'
  | .exc e h' => .exc e h'
  | .stuck => .stuck
def M.stuck {α : Type} : M α := fun _ => .stuck
def M.exc {α : Type} (e : PExc) : M α := fun h => .exc e h
instance : Monad M where
  pure := M.pure
  bind := M.bind
theorem pure_eq {α : Type} (a : α) : (Pure.pure a : M α) = M.pure a := rfl
theorem bind_eq {α β : Type} (m : M α) (f : α → M β) : (m >>= f) = M.bind m f := rfl
@[simp] theorem pure_bind' {α β : Type} (a : α) (f : α → M β) : ((Pure.pure a : M α) >>= f) = f a := rfl
@[simp] theorem bind_pure' {α : Type} (m : M α) : (m >>= fun a => (Pure.pure a : M α)) = m := by
  funext h
  show (match m h with | .ok a h' => Res.ok a h' | .exc e h' => .exc e h' | .stuck => .stuck) = m h
  cases m h <;> rfl
@[simp] theorem bind_assoc' {α β δ : Type} (m : M α) (f : α → M β) (g : β → M δ) : ((m >>= f) >>= g) = (m >>= fun a => f a >>= g) := by
  funext h
  show M.bind (M.bind m f) g h = M.bind m (fun a => M.bind (f a) g) h
  unfold M.bind
  cases m h <;> rfl
@[simp] theorem stuck_bind {α β : Type} (f : α → M β) : ((M.stuck : M α) >>= f) = M.stuck := rfl
@[simp] theorem exc_bind {α β : Type} (e : PExc) (f : α → M β) : ((M.exc e : M α) >>= f) = M.exc e := rfl
/-- what is wanted of a result -/
def post {α : Type} (r : Res α) (Q : α → Hc → Prop) (E : PExc → Hc → Prop) : Prop := match r with
  | .ok a h => Q a h
  | .exc e h => E e h
  | .stuck => False
theorem post_mono {α : Type} {r : Res α} {Q Q' : α → Hc → Prop} {E E' : PExc → Hc → Prop} (p : post r Q E) (hq : ∀ a h, Q a h → Q' a h) (he : ∀ e h, E e h → E' e h) : post r Q' E' := by
  cases r with
  | ok a h => exact hq a h p
  | exc e h => exact he e h p
  | stuck => exact p
theorem post_bind {α β : Type} {m : M α} {f : α → M β} {h : Hc} {Q : β → Hc → Prop} {E : PExc → Hc → Prop} : post ((m >>= f) h) Q E ↔ post (m h) (fun a h' => post (f a h') Q E) E := by
  show post (M.bind m f h) Q E ↔ _
  unfold M.bind
  cases m h <;> rfl

/-! ### what stands for a plain value -/
/-- a list that nobody writes: locked, or of the module -/
def SqF (K : PySem.W.Frag) (H : Hp) (a : Addr) (vs : List V) : Prop := (∃ o, H a = some (.frz o (.lst vs))) ∨
  ∃ (o : Obj) (its : Array Value) (n : Nat), K.lookup a = some o ∧ o.cls = .type "list" ∧ o.dict = none ∧ o.data = .seq its n ∧ its.size ≤ sizeLine ∧ Vals vs its.toList
theorem SqF.sq {K : PySem.W.Frag} {H : Hp} {a : Addr} {vs : List V} (s : SqF K H a vs) : SqL K H a vs := s.elim (fun ⟨o, h⟩ => .inl (.inr ⟨o, h⟩)) .inr
mutual
inductive Rep (K : PySem.W.Frag) (O : Addr → Prop) (γ : List Addr) (H : Hp) : PV → V → Prop
  | non : Rep K O γ H .non .non
  | bl (b : Bool) : Rep K O γ H (.bl b) (.bl b)
  | int (i : Int) : Rep K O γ H (.int i) (.int i)
  | str (x : Str) : Rep K O γ H (.str x) (.str x)
  | tup {a : Addr} {vs : List V} {xs : List PV} : SqT K H a vs → Reps K O γ H xs vs → Rep K O γ H (.tup xs) (.ref a)
  | lst {a : Addr} {vs : List V} {xs : List PV} : H a = some (.lst vs) → ¬ O a → Reps K O γ H xs vs → Rep K O γ H (.lst xs) (.ref a)
  | cell {a : Addr} {n : Nat} : γ[n]? = some a → Rep K O γ H (.cell n) (.ref a)
  | scr {a : Addr} {vs : List V} {xs : List PV} : SqF K H a vs → Reps K O γ H xs vs → Rep K O γ H (.scr xs) (.ref a)
inductive Reps (K : PySem.W.Frag) (O : Addr → Prop) (γ : List Addr) (H : Hp) : List PV → List V → Prop
  | nil : Reps K O γ H [] []
  | cons {x : PV} {v : V} {xs : List PV} {vs : List V} : Rep K O γ H x v → Reps K O γ H xs vs → Reps K O γ H (x :: xs) (v :: vs)
end

structure Later (O : Addr → Prop) (γ : List Addr) (H : Hp) (O' : Addr → Prop) (γ' : List Addr) (H' : Hp) : Prop where
  ls : ∀ a vs, H a = some (.lst vs) → ¬ O a → H' a = some (.lst vs) ∧ ¬ O' a
  nl : ∀ a o, H a = some o → (∀ vs, o ≠ .lst vs) → H' a = some o
  ga : ∀ (n : Nat) (a : Addr), γ[n]? = some a → γ'[n]? = some a

theorem SqT.later {K : PySem.W.Frag} {H H' : Hp} {a : Addr} {vs : List V} (nl : ∀ a o, H a = some o → (∀ vs, o ≠ .lst vs) → H' a = some o) (s : SqT K H a vs) : SqT K H' a vs := by
  rcases s with (h | ⟨o, h⟩) | h
  · exact .inl (.inl (nl _ _ h (fun _ => nofun)))
  · exact .inl (.inr ⟨o, nl _ _ h (fun _ => nofun)⟩)
  · exact .inr h
section
variable {K : PySem.W.Frag} {O O' : Addr → Prop} {γ γ' : List Addr} {H H' : Hp}
mutual
theorem Rep.later (L : Later O γ H O' γ' H') : ∀ {p : PV} {v : V}, Rep K O γ H p v → Rep K O' γ' H' p v
  | _, _, .non => .non
  | _, _, .bl b => .bl b
  | _, _, .int i => .int i
  | _, _, .str x => .str x
  | _, _, .tup s r => .tup (SqT.later L.nl s) (Reps.later L r)
  | _, _, .lst s o r => .lst (L.ls _ _ s o).1 (L.ls _ _ s o).2 (Reps.later L r)
  | _, _, .cell g => .cell (L.ga _ _ g)
  | _, _, .scr s r => .scr (s.elim (fun ⟨o, h⟩ => .inl ⟨o, L.nl _ _ h (fun _ => nofun)⟩) .inr) (Reps.later L r)
theorem Reps.later (L : Later O γ H O' γ' H') : ∀ {ps : List PV} {vs : List V}, Reps K O γ H ps vs → Reps K O' γ' H' ps vs
  | _, _, .nil => .nil
  | _, _, .cons r s => .cons (Rep.later L r) (Reps.later L s)
end
end
/-! ### states -/
abbrev OT : Addr → Prop := fun _ => True
structure Cells (K : PySem.W.Frag) (γ : List Addr) (H : Hp) (h : Hc) : Prop where
  len : γ.length = h.length
  nd : γ.Nodup
  pl : ∀ (n : Nat) (a : Addr) (xs : List PV), γ[n]? = some a → h[n]? = some xs → ∃ vs, H a = some (.lst vs) ∧ Reps K OT γ H xs vs
theorem Cells.mem {K : PySem.W.Frag} {γ : List Addr} {H : Hp} {h : Hc} (c : Cells K γ H h) {a : Addr} (m : a ∈ γ) : ∃ vs, H a = some (.lst vs) := by
  obtain ⟨n, hn, e⟩ := List.mem_iff_getElem.mp m
  have hn' : n < h.length := by rw [← c.len]; exact hn
  obtain ⟨vs, e2, _⟩ := c.pl n a h[n] (by rw [List.getElem?_eq_getElem hn, e]) (List.getElem?_eq_getElem hn')
  exact ⟨vs, e2⟩

/-- behind an expression -/
structure EL (γ : List Addr) (H : Hp) (γ' : List Addr) (H' : Hp) : Prop where
  kp : ∀ a o, H a = some o → a ∉ γ → H' a = some o
  nl : ∀ a o, H a = some o → (∀ vs, o ≠ .lst vs) → H' a = some o
  al : ∀ a, H' a = none → H a = none
  ga : ∀ (n : Nat) (a : Addr), γ[n]? = some a → γ'[n]? = some a
  nw : ∀ a, a ∈ γ' → a ∈ γ ∨ H a = none
theorem EL.refl {γ : List Addr} {H : Hp} : EL γ H γ H := ⟨fun _ _ e _ => e, fun _ _ e _ => e, fun _ e => e, fun _ _ e => e, fun _ m => .inl m⟩
theorem EL.trans {γ γ1 γ2 : List Addr} {H H1 H2 : Hp} (a : EL γ H γ1 H1) (b : EL γ1 H1 γ2 H2) : EL γ H γ2 H2 where
  kp := fun c o e n => b.kp c o (a.kp c o e n) fun m => (a.nw c m).elim n fun z => by rw [e] at z; cases z
  nl := fun c o e n => b.nl c o (a.nl c o e n) n
  al := fun c e => a.al c (b.al c e)
  ga := fun n c e => b.ga n c (a.ga n c e)
  nw := fun c m => (b.nw c m).elim (a.nw c) fun z => .inr (a.al c z)
/-- a new object -/
theorem EL.new {γ : List Addr} {H : Hp} {p : Addr} {o : HO} (n : H p = none) : EL γ H γ (upd H p o) where
  kp := fun a u e _ => by rw [upd_ne (ne_of_none e n)]; exact e
  nl := fun a u e _ => by rw [upd_ne (ne_of_none e n)]; exact e
  al := fun a e => by
    by_cases q : a = p
    · subst q; exact n
    · rw [upd_ne q] at e; exact e
  ga := fun _ _ e => e
  nw := fun _ m => .inl m
/-- behind a statement -/
structure SL (γ : List Addr) (ω : Nat → Option Addr) (H : Hp) (γ' : List Addr) (ω' : Nat → Option Addr) (H' : Hp) : Prop where
  kp : ∀ a o, H a = some o → a ∉ γ → (∀ i, ω i ≠ some a) → H' a = some o
  nl : ∀ a o, H a = some o → (∀ vs, o ≠ .lst vs) → H' a = some o
  al : ∀ a, H' a = none → H a = none
  ga : ∀ (n : Nat) (a : Addr), γ[n]? = some a → γ'[n]? = some a
  nw : ∀ a, a ∈ γ' → a ∈ γ ∨ H a = none
  ow : ∀ i a, ω' i = some a → (∃ j, ω j = some a) ∨ H a = none
theorem SL.refl {γ : List Addr} {ω : Nat → Option Addr} {H : Hp} : SL γ ω H γ ω H := ⟨fun _ _ e _ _ => e, fun _ _ e _ => e, fun _ e => e, fun _ _ e => e, fun _ m => .inl m, fun i _ e => .inl ⟨i, e⟩⟩
theorem SL.trans {γ γ1 γ2 : List Addr} {ω ω1 ω2 : Nat → Option Addr} {H H1 H2 : Hp} (a : SL γ ω H γ1 ω1 H1) (b : SL γ1 ω1 H1 γ2 ω2 H2) : SL γ ω H γ2 ω2 H2 where
  kp := fun c o e n m => b.kp c o (a.kp c o e n m) (fun z => (a.nw c z).elim n fun z => by rw [e] at z; cases z) fun i z => (a.ow i c z).elim (fun ⟨j, z⟩ => m j z) fun z => by rw [e] at z; cases z
  nl := fun c o e n => b.nl c o (a.nl c o e n) n
  al := fun c e => a.al c (b.al c e)
  ga := fun n c e => b.ga n c (a.ga n c e)
  nw := fun c m => (b.nw c m).elim (a.nw c) fun z => .inr (a.al c z)
  ow := fun i c m => (b.ow i c m).elim (fun ⟨j, z⟩ => a.ow j c z) fun z => .inr (a.al c z)
theorem EL.sl {γ γ' : List Addr} {ω : Nat → Option Addr} {H H' : Hp} (a : EL γ H γ' H') : SL γ ω H γ' ω H' :=
  ⟨fun c o e n _ => a.kp c o e n, a.nl, a.al, a.ga, a.nw, fun i _ e => .inl ⟨i, e⟩⟩

abbrev ω0 : Nat → Option Addr := fun _ => none
def Ob (F : Addr → Prop) (γ : List Addr) (ω : Nat → Option Addr) : Addr → Prop := fun a => F a ∨ a ∈ γ ∨ ∃ i, ω i = some a
section
variable {K : PySem.W.Frag} {F : Addr → Prop} {γ γ' : List Addr} {ω ω' : Nat → Option Addr} {H H' : Hp} {h h' : Hc}
theorem SL.later (L : SL γ ω H γ' ω' H') : Later (Ob F γ ω) γ H (Ob F γ' ω') γ' H' where
  ls := fun a vs e n => ⟨L.kp a _ e (fun m => n (.inr (.inl m))) fun i m => n (.inr (.inr ⟨i, m⟩)), fun q => by
    rcases q with q | q | ⟨i, q⟩
    · exact n (.inl q)
    · exact (L.nw a q).elim (fun m => n (.inr (.inl m))) fun z => by rw [e] at z; cases z
    · exact (L.ow i a q).elim (fun ⟨j, m⟩ => n (.inr (.inr ⟨j, m⟩))) fun z => by rw [e] at z; cases z⟩
  nl := L.nl
  ga := L.ga
theorem EL.later (L : EL γ H γ' H') : Later (Ob F γ ω) γ H (Ob F γ' ω) γ' H' := L.sl.later
theorem EL.laterT (L : EL γ H γ' H') : Later OT γ H OT γ' H' := ⟨fun _ _ _ n => absurd trivial n, L.nl, L.ga⟩
theorem SL.laterT (L : SL γ ω H γ' ω' H') : Later OT γ H OT γ' H' := ⟨fun _ _ _ n => absurd trivial n, L.nl, L.ga⟩
/-- a looser bar -/
theorem Later.bar {O O' : Addr → Prop} (i : ∀ a vs, H a = some (.lst vs) → O' a → O a) : Later O γ H O' γ H := ⟨fun a _ e n => ⟨e, fun m => n (i a _ e m)⟩, fun _ _ e _ => e, fun _ _ e => e⟩
theorem Rep.bar {O O' : Addr → Prop} (i : ∀ a vs, H a = some (.lst vs) → O' a → O a) {p : PV} {v : V} (r : Rep K O γ H p v) : Rep K O' γ H p v := r.later (Later.bar i)
theorem Reps.bar {O O' : Addr → Prop} (i : ∀ a vs, H a = some (.lst vs) → O' a → O a) {p : List PV} {v : List V} (r : Reps K O γ H p v) : Reps K O' γ H p v := r.later (Later.bar i)
theorem Cells.new {p : Addr} {o : HO} (n : H p = none) (c : Cells K γ H h) : Cells K γ (upd H p o) h where
  len := c.len
  nd := c.nd
  pl := fun i a xs e1 e2 => by
    obtain ⟨vs, e3, r⟩ := c.pl i a xs e1 e2
    exact ⟨vs, by rw [upd_ne (ne_of_none e3 n)]; exact e3, r.later (EL.new n).laterT⟩
mutual
theorem Rep.flat {O : Addr → Prop} : ∀ {p : PV} {v : V}, p.flat = true → Rep K O γ H p v → Rep K OT γ H p v
  | _, _, _, .non => .non
  | _, _, _, .bl b => .bl b
  | _, _, _, .int i => .int i
  | _, _, _, .str x => .str x
  | _, _, f, .tup s r => .tup s (Reps.flat (by simpa [PV.flat] using f) r)
  | _, _, f, .lst _ _ _ => by simp [PV.flat] at f
  | _, _, _, .cell g => .cell g
  | _, _, f, .scr _ _ => by simp [PV.flat] at f
theorem Reps.flat {O : Addr → Prop} : ∀ {ps : List PV} {vs : List V}, flats ps = true → Reps K O γ H ps vs → Reps K OT γ H ps vs
  | _, _, _, .nil => .nil
  | _, _, f, .cons r s => by
    simp only [flats, Bool.and_eq_true] at f
    exact .cons (Rep.flat f.1 r) (Reps.flat f.2 s)
end
theorem Rep.any {O : Addr → Prop} {p : PV} {v : V} (r : Rep K OT γ H p v) : Rep K O γ H p v := r.bar fun _ _ _ _ => trivial
theorem Reps.any {O : Addr → Prop} {p : List PV} {v : List V} (r : Reps K OT γ H p v) : Reps K O γ H p v := r.bar fun _ _ _ _ => trivial
end
section
variable {K : PySem.W.Frag} {O : Addr → Prop} {γ : List Addr} {H : Hp}
theorem Reps.length : ∀ {ps : List PV} {vs : List V}, Reps K O γ H ps vs → ps.length = vs.length
  | _, _, .nil => rfl
  | _, _, .cons _ s => congrArg (· + 1) s.length
theorem Reps.get : ∀ {ps : List PV} {vs : List V} {i : Nat} {p : PV}, Reps K O γ H ps vs → ps[i]? = some p → ∃ v, vs[i]? = some v ∧ Rep K O γ H p v
  | _, _, _, _, .nil, e => by simp at e
  | _, _, 0, _, .cons r _, e => by simp at e; subst e; exact ⟨_, rfl, r⟩
  | _, _, i + 1, _, .cons _ s, e => by
    obtain ⟨v, h1, h2⟩ := Reps.get (i := i) s (by simpa using e)
    exact ⟨v, by simpa using h1, h2⟩
theorem Reps.getV : ∀ {ps : List PV} {vs : List V} {i : Nat} {v : V}, Reps K O γ H ps vs → vs[i]? = some v → ∃ p, ps[i]? = some p ∧ Rep K O γ H p v
  | _, _, _, _, .nil, e => by simp at e
  | _, _, 0, _, .cons r _, e => by simp at e; subst e; exact ⟨_, rfl, r⟩
  | _, _, i + 1, _, .cons _ s, e => by
    obtain ⟨v, h1, h2⟩ := Reps.getV (i := i) s (by simpa using e)
    exact ⟨v, by simpa using h1, h2⟩
theorem Reps.append : ∀ {ps qs : List PV} {vs us : List V}, Reps K O γ H ps vs → Reps K O γ H qs us → Reps K O γ H (ps ++ qs) (vs ++ us)
  | _, _, _, _, .nil, s => s
  | _, _, _, _, .cons r t, s => .cons r (t.append s)
theorem Reps.set {p : PV} {v : V} (r : Rep K O γ H p v) : ∀ {ps : List PV} {vs : List V} (i : Nat), Reps K O γ H ps vs → Reps K O γ H (ps.set i p) (vs.set i v)
  | _, _, _, .nil => .nil
  | _, _, 0, .cons _ t => .cons r t
  | _, _, i + 1, .cons q t => .cons q (t.set r i)
theorem Reps.take : ∀ {ps : List PV} {vs : List V} (n : Nat), Reps K O γ H ps vs → Reps K O γ H (ps.take n) (vs.take n)
  | _, _, 0, _ => .nil
  | _, _, _ + 1, .nil => .nil
  | _, _, n + 1, .cons r t => .cons r (t.take n)
theorem Reps.drop : ∀ {ps : List PV} {vs : List V} (n : Nat), Reps K O γ H ps vs → Reps K O γ H (ps.drop n) (vs.drop n)
  | _, _, 0, r => r
  | _, _, _ + 1, .nil => .nil
  | _, _, n + 1, .cons _ t => t.drop n
theorem Reps.reverse {ps : List PV} {vs : List V} (r : Reps K O γ H ps vs) : Reps K O γ H ps.reverse vs.reverse := by
  induction ps generalizing vs with
  | nil => cases r; exact .nil
  | cons p ps ih =>
    cases r with
    | cons r s =>
      rw [List.reverse_cons, List.reverse_cons]
      exact (ih s).append (.cons r .nil)
theorem Reps.eraseIdx : ∀ {ps : List PV} {vs : List V} (i : Nat), Reps K O γ H ps vs → Reps K O γ H (ps.eraseIdx i) (vs.eraseIdx i)
  | _, _, _, .nil => .nil
  | _, _, 0, .cons _ t => t
  | _, _, i + 1, .cons q t => .cons q (t.eraseIdx i)
theorem Reps.rep {ps : List PV} {vs : List V} (r : Reps K O γ H ps vs) : ∀ k : Nat, Reps K O γ H (List.replicate k ps).flatten (List.replicate k vs).flatten
  | 0 => .nil
  | k + 1 => by
    rw [List.replicate_succ, List.replicate_succ, List.flatten_cons, List.flatten_cons]
    exact r.append (r.rep k)
theorem Reps.ints : ∀ {ns : List Int} {vs : List V}, Reps K O γ H (ns.map PV.int) vs → vs = ns.map V.int
  | [], _, h => by cases h; rfl
  | n :: ns, _, h => by
    cases h with
    | cons r s => cases r; rw [Reps.ints s]; rfl
theorem Reps.of_ints : ∀ {ns : List Int}, Reps K O γ H (ns.map PV.int) (ns.map V.int)
  | [] => .nil
  | n :: ns => .cons (.int n) Reps.of_ints
theorem Reps.bls : ∀ {ns : List Bool} {vs : List V}, Reps K O γ H (ns.map PV.bl) vs → vs = ns.map V.bl
  | [], _, h => by cases h; rfl
  | n :: ns, _, h => by
    cases h with
    | cons r s => cases r; rw [Reps.bls s]; rfl
end

/-! ### the slots -/
inductive Sl where
  | no | va (p : PV) | ow (xs : List PV)
abbrev En := List Sl
structure ER (K : PySem.W.Frag) (F : Addr → Prop) (γ : List Addr) (ω : Nat → Option Addr) (H : Hp) (ρ : En) (σ : L2.St) : Prop where
  len : ρ.length = σ.length
  va : ∀ (i : Nat) p, ρ[i]? = some (.va p) → ∃ v, σ[i]? = some (some v) ∧ Rep K (Ob F γ ω) γ H p v
  ow : ∀ (i : Nat) xs, ρ[i]? = some (.ow xs) → ∃ a vs, ω i = some a ∧ σ[i]? = some (some (.ref a)) ∧ H a = some (.lst vs) ∧ Reps K (Ob F γ ω) γ H xs vs
  inj : ∀ (i j : Nat) a, ω i = some a → ω j = some a → i = j
  oc : ∀ (i : Nat) a, ω i = some a → a ∉ γ ∧ ∃ vs, H a = some (.lst vs)
  of : ∀ (i : Nat) a, ω i = some a → ¬ F a
  fo : ∀ a, F a → a ∉ γ ∧ ∃ vs, H a = some (.lst vs)
section
variable {K : PySem.W.Frag} {F : Addr → Prop} {γ γ' : List Addr} {ω ω' : Nat → Option Addr} {H H' : Hp} {ρ : En} {σ : L2.St}
theorem ER.el (R : ER K F γ ω H ρ σ) (L : EL γ H γ' H') : ER K F γ' ω H' ρ σ where
  len := R.len
  va := fun i p e => let ⟨v, e1, r⟩ := R.va i p e; ⟨v, e1, r.later L.later⟩
  ow := fun i xs e => let ⟨a, vs, e0, e1, e2, r⟩ := R.ow i xs e; ⟨a, vs, e0, e1, L.kp _ _ e2 (R.oc i a e0).1, r.later L.later⟩
  inj := R.inj
  of := R.of
  oc := fun i a e => by
    obtain ⟨n, vs, e2⟩ := R.oc i a e
    exact ⟨fun m => (L.nw a m).elim n (fun z => by rw [e2] at z; cases z), vs, L.kp _ _ e2 n⟩
  fo := fun a f => by
    obtain ⟨n, vs, e2⟩ := R.fo a f
    exact ⟨fun m => (L.nw a m).elim n (fun z => by rw [e2] at z; cases z), vs, L.kp _ _ e2 n⟩
/-- a slot is set to a value -/
theorem ER.set (R : ER K F γ ω H ρ σ) {p : PV} {v : V} (r : Rep K (Ob F γ ω) γ H p v) (i : Nat) : ER K F γ ω H (ρ.set i (.va p)) (σ.set i (some v)) where
  len := by rw [List.length_set, List.length_set]; exact R.len
  va := fun j q e => by
    by_cases hj : i = j
    · subst hj
      by_cases hi : i < ρ.length
      · rw [List.getElem?_set_self hi] at e
        cases e
        exact ⟨v, List.getElem?_set_self (by rw [← R.len]; exact hi), r⟩
      · rw [List.getElem?_eq_none (by simpa using hi)] at e; cases e
    · rw [List.getElem?_set_ne hj] at e ⊢
      exact R.va j q e
  ow := fun j xs e => by
    by_cases hj : i = j
    · subst hj
      by_cases hi : i < ρ.length
      · rw [List.getElem?_set_self hi] at e; cases e
      · rw [List.getElem?_eq_none (by simpa using hi)] at e; cases e
    · rw [List.getElem?_set_ne hj] at e ⊢
      exact R.ow j xs e
  inj := R.inj
  oc := R.oc
  of := R.of
  fo := R.fo
/-- a slot is forgotten -/
theorem ER.drop (R : ER K F γ ω H ρ σ) (i : Nat) (x : Option V) : ER K F γ ω H (ρ.set i .no) (σ.set i x) where
  len := by rw [List.length_set, List.length_set]; exact R.len
  va := fun j q e => by
    by_cases hj : i = j
    · subst hj
      by_cases hi : i < ρ.length
      · rw [List.getElem?_set_self hi] at e; cases e
      · rw [List.getElem?_eq_none (by simpa using hi)] at e; cases e
    · rw [List.getElem?_set_ne hj] at e ⊢
      exact R.va j q e
  ow := fun j xs e => by
    by_cases hj : i = j
    · subst hj
      by_cases hi : i < ρ.length
      · rw [List.getElem?_set_self hi] at e; cases e
      · rw [List.getElem?_eq_none (by simpa using hi)] at e; cases e
    · rw [List.getElem?_set_ne hj] at e ⊢
      exact R.ow j xs e
  inj := R.inj
  oc := R.oc
  of := R.of
  fo := R.fo
def setω (ω : Nat → Option Addr) (i : Nat) (o : Option Addr) : Nat → Option Addr := fun j => if j = i then o else ω j
theorem setω_same {ω : Nat → Option Addr} {i : Nat} {o : Option Addr} : setω ω i o i = o := if_pos rfl
theorem setω_ne {ω : Nat → Option Addr} {i j : Nat} {o : Option Addr} (h : j ≠ i) : setω ω i o j = ω j := if_neg h
/-- a slot is set to a new list of one's own -/
theorem ER.own (R0 : ER K F γ ω H ρ σ) (L : EL γ H γ' H') {i : Nat} {a : Addr} {xs : List PV} {vs : List V} (na : H a = none) (ha : H' a = some (.lst vs)) (hg : a ∉ γ')
    (r : Reps K (fun b => Ob F γ' ω b ∨ b = a) γ' H' xs vs) : ER K F γ' (setω ω i (some a)) H' (ρ.set i (.ow xs)) (σ.set i (some (.ref a))) := by
  have R := R0.el L
  have hn : ∀ j, ω j ≠ some a := fun j z => by
    obtain ⟨_, vs, e⟩ := R0.oc j a z
    rw [na] at e; cases e
  have bar : ∀ b, Ob F γ' (setω ω i (some a)) b → (Ob F γ' ω b ∨ b = a) := fun b q => by
    rcases q with q | q | ⟨j, q⟩
    · exact .inl (.inl q)
    · exact .inl (.inr (.inl q))
    · by_cases hj : j = i
      · subst hj; rw [setω_same] at q; cases q; exact .inr rfl
      · rw [setω_ne hj] at q; exact .inl (.inr (.inr ⟨j, q⟩))
  have later : Later (Ob F γ ω) γ H (Ob F γ' (setω ω i (some a))) γ' H' := by
    have l := L.later (F := F) (ω := ω)
    exact ⟨fun b ws e n => ⟨(l.ls b ws e n).1, fun m => (bar b m).elim (l.ls b ws e n).2 fun z => by rw [z, na] at e; cases e⟩, l.nl, l.ga⟩
  refine ⟨by rw [List.length_set, List.length_set]; exact R.len, fun j q e => ?_, fun j ys e => ?_, fun j k b e1 e2 => ?_, fun j b e => ?_, fun j b e f => ?_, R.fo⟩
  · by_cases hj : i = j
    · subst hj
      by_cases hi : i < ρ.length
      · rw [List.getElem?_set_self hi] at e; cases e
      · rw [List.getElem?_eq_none (by simpa using hi)] at e; cases e
    · rw [List.getElem?_set_ne hj] at e ⊢
      obtain ⟨v, e1, q1⟩ := R0.va j q e
      exact ⟨v, e1, q1.later later⟩
  · by_cases hj : i = j
    · subst hj
      by_cases hi : i < ρ.length
      · rw [List.getElem?_set_self hi] at e
        cases e
        exact ⟨a, vs, setω_same, List.getElem?_set_self (by rw [← R.len]; exact hi), ha, r.bar fun b _ _ m => bar b m⟩
      · rw [List.getElem?_eq_none (by simpa using hi)] at e; cases e
    · rw [List.getElem?_set_ne hj] at e ⊢
      obtain ⟨b, us, e0, e1, e2, q1⟩ := R0.ow j ys e
      exact ⟨b, us, by rw [setω_ne (Ne.symm hj)]; exact e0, e1, L.kp _ _ e2 (R0.oc j b e0).1, q1.later later⟩
  · by_cases hj : j = i
    · subst hj
      rw [setω_same] at e1; cases e1
      by_cases hk : k = j
      · exact hk.symm
      · rw [setω_ne hk] at e2; exact absurd e2 (hn k)
    · rw [setω_ne hj] at e1
      by_cases hk : k = i
      · subst hk; rw [setω_same] at e2; cases e2; exact absurd e1 (hn j)
      · rw [setω_ne hk] at e2; exact R.inj j k b e1 e2
  · by_cases hj : j = i
    · subst hj; rw [setω_same] at e; cases e; exact ⟨hg, vs, ha⟩
    · rw [setω_ne hj] at e; exact R.oc j b e
  · by_cases hj : j = i
    · subst hj; rw [setω_same] at e; cases e
      obtain ⟨_, ws, z⟩ := R0.fo _ f
      rw [na] at z; cases z
    · rw [setω_ne hj] at e; exact R.of j b e f
/-- one's own list is changed -/
theorem ER.put (R : ER K F γ ω H ρ σ) {i : Nat} {a : Addr} {xs : List PV} {vs : List V} (hi : i < ρ.length) (hω : ω i = some a) (hs : σ[i]? = some (some (.ref a))) (r : Reps K (Ob F γ ω) γ H xs vs) : ER K F γ ω (upd H a (.lst vs)) (ρ.set i (.ow xs)) σ := by
  obtain ⟨ng, ws, hw⟩ := R.oc i a hω
  have later : Later (Ob F γ ω) γ H (Ob F γ ω) γ (upd H a (.lst vs)) := ⟨fun b us e n => ⟨by
      rw [upd_ne (fun z => n (.inr (.inr ⟨i, by rw [hω, z]⟩)))]; exact e, n⟩, fun b o e n => by rw [upd_ne (fun z => by rw [z, hw] at e; cases e; exact n ws rfl)]; exact e, fun _ _ e => e⟩
  refine ⟨by rw [List.length_set]; exact R.len, fun j q e => ?_, fun j ys e => ?_, R.inj, fun j b e => ?_, R.of, fun b f => ?_⟩
  · by_cases hj : i = j
    · subst hj; rw [List.getElem?_set_self hi] at e; cases e
    · rw [List.getElem?_set_ne hj] at e
      obtain ⟨v, e1, q1⟩ := R.va j q e
      exact ⟨v, e1, q1.later later⟩
  · by_cases hj : i = j
    · subst hj
      rw [List.getElem?_set_self hi] at e
      cases e
      exact ⟨a, vs, hω, hs, upd_same, r.later later⟩
    · rw [List.getElem?_set_ne hj] at e
      obtain ⟨b, us, e0, e1, e2, q1⟩ := R.ow j ys e
      exact ⟨b, us, e0, e1, by rw [upd_ne (fun z => hj (R.inj i j a hω (by rw [e0, z])))]; exact e2, q1.later later⟩
  · obtain ⟨n, us, e2⟩ := R.oc j b e
    by_cases hb : b = a
    · subst hb; exact ⟨n, vs, upd_same⟩
    · exact ⟨n, us, by rw [upd_ne hb]; exact e2⟩
  · obtain ⟨n, us, e2⟩ := R.fo b f
    by_cases hb : b = a
    · subst hb; exact ⟨n, vs, upd_same⟩
    · exact ⟨n, us, by rw [upd_ne hb]; exact e2⟩
theorem SL.put {a : Addr} {i : Nat} {vs ws : List V} (hω : ω i = some a) (ng : a ∉ γ) (hw : H a = some (.lst ws)) : SL γ ω H γ ω (upd H a (.lst vs)) where
  kp := fun b o e _ n => by rw [upd_ne (fun z => n i (by rw [hω, z]))]; exact e
  nl := fun b o e n => by rw [upd_ne (fun z => by rw [z, hw] at e; cases e; exact n ws rfl)]; exact e
  al := fun b e => by
    by_cases hb : b = a
    · subst hb; rw [upd_same] at e; cases e
    · rw [upd_ne hb] at e; exact e
  ga := fun _ _ e => e
  nw := fun _ m => .inl m
  ow := fun i _ e => .inl ⟨i, e⟩
theorem Cells.put {K : PySem.W.Frag} {a : Addr} {i : Nat} {vs ws : List V} {h : Hc} (c : Cells K γ H h) (hω : ω i = some a) (ng : a ∉ γ) (hw : H a = some (.lst ws)) : Cells K γ (upd H a (.lst vs)) h where
  len := c.len
  nd := c.nd
  pl := fun n b xs e1 e2 => by
    obtain ⟨us, e3, r⟩ := c.pl n b xs e1 e2
    refine ⟨us, by rw [upd_ne (fun z => ng (by rw [← z]; exact List.mem_of_getElem? e1))]; exact e3, r.later (SL.put hω ng hw).laterT⟩
/-- one's own list is frozen -/
theorem ER.freeze (R : ER K F γ ω H ρ σ) {i : Nat} {xs : List PV} (hx : ρ[i]? = some (.ow xs)) : ER K F γ (setω ω i none) H (ρ.set i (.va (.lst xs))) σ := by
  obtain ⟨a, vs, h0, h1, h2, r0⟩ := R.ow i xs hx
  have hi : i < ρ.length := (List.getElem?_eq_some_iff.mp hx).1
  have bar : ∀ b, Ob F γ (setω ω i none) b → Ob F γ ω b := fun b q => by
    rcases q with q | q | ⟨j, q⟩
    · exact .inl q
    · exact .inr (.inl q)
    · by_cases hj : j = i
      · subst hj; rw [setω_same] at q; cases q
      · rw [setω_ne hj] at q; exact .inr (.inr ⟨j, q⟩)
  have na : ¬ Ob F γ (setω ω i none) a := fun q => by
    rcases q with q | q | ⟨j, q⟩
    · exact R.of i a h0 q
    · exact (R.oc i a h0).1 q
    · by_cases hj : j = i
      · subst hj; rw [setω_same] at q; cases q
      · rw [setω_ne hj] at q; exact hj (R.inj j i a q h0)
  have sub : ∀ j b, setω ω i none j = some b → ω j = some b ∧ j ≠ i := fun j b e => by
    by_cases hj : j = i
    · subst hj; rw [setω_same] at e; cases e
    · rw [setω_ne hj] at e; exact ⟨e, hj⟩
  refine ⟨by rw [List.length_set]; exact R.len, fun j q e => ?_, fun j ys e => ?_, fun j k b e1 e2 => R.inj j k b (sub j b e1).1 (sub k b e2).1, fun j b e => R.oc j b (sub j b e).1, fun j b e => R.of j b (sub j b e).1, R.fo⟩
  · by_cases hj : i = j
    · subst hj
      rw [List.getElem?_set_self hi] at e
      cases e
      exact ⟨_, h1, .lst h2 na (r0.bar fun b _ _ m => bar b m)⟩
    · rw [List.getElem?_set_ne hj] at e
      obtain ⟨v, e1, q1⟩ := R.va j q e
      exact ⟨v, e1, q1.bar fun b _ _ m => bar b m⟩
  · by_cases hj : i = j
    · subst hj; rw [List.getElem?_set_self hi] at e; cases e
    · rw [List.getElem?_set_ne hj] at e
      obtain ⟨b, us, e0, e1, e2, q1⟩ := R.ow j ys e
      exact ⟨b, us, by rw [setω_ne (Ne.symm hj)]; exact e0, e1, e2, q1.bar fun b _ _ m => bar b m⟩
theorem SL.freeze {i : Nat} : SL γ ω H γ (setω ω i none) H where
  kp := fun _ _ e _ _ => e
  nl := fun _ _ e _ => e
  al := fun _ e => e
  ga := fun _ _ e => e
  nw := fun _ m => .inl m
  ow := fun j b e => by
    by_cases hj : j = i
    · subst hj; rw [setω_same] at e; cases e
    · rw [setω_ne hj] at e; exact .inl ⟨j, e⟩
end
/-! ### the judgements -/
def XRel (mg : Str → Option Value) (ex : PExc) (cls : Value) (d : Option Addr) (H : Hp) : Prop := ∃ C, mg ex.cls = some (.ref C) ∧ cls = .ref C ∧ (ex.fld = [] → d = none)
def OutV (K : PySem.W.Frag) (F : Addr → Prop) (ω : Nat → Option Addr) (γ : List Addr) (H : Hp) (Q : VK) : PV → Hc → Prop := fun p h' => ∀ γ' H' v, EL γ H γ' H' → Cells K γ' H' h' → Rep K (Ob F γ' ω) γ' H' p v → Q v H'
def OutVs (K : PySem.W.Frag) (F : Addr → Prop) (ω : Nat → Option Addr) (γ : List Addr) (H : Hp) (Q : List V → Hp → Prop) : List PV → Hc → Prop := fun p h' => ∀ γ' H' v, EL γ H γ' H' → Cells K γ' H' h' → Reps K (Ob F γ' ω) γ' H' p v → Q v H'
def OutB (K : PySem.W.Frag) (γ : List Addr) (H : Hp) (Q : Bool → Hp → Prop) : Bool → Hc → Prop := fun b h' => ∀ γ' H', EL γ H γ' H' → Cells K γ' H' h' → Q b H'
def OutX (K : PySem.W.Frag) (W : WX) (mg : Str → Option Value) (γ : List Addr) (H : Hp) (σ : L2.St) : PExc → Hc → Prop := fun ex h' => ∀ γ' H' cls d, EL γ H γ' H' → Cells K γ' H' h' → XRel mg ex cls d H' → W cls d σ H'
/-- a new list of one's own -/
def OutO (K : PySem.W.Frag) (F : Addr → Prop) (ω : Nat → Option Addr) (γ : List Addr) (H : Hp) (Q : VK) : List PV → Hc → Prop := fun xs h' => ∀ γ' H' a vs, EL γ H γ' H' → Cells K γ' H' h' → H a = none → a ∉ γ' → H' a = some (.lst vs) →
  Reps K (fun b => Ob F γ' ω b ∨ b = a) γ' H' xs vs → Q (.ref a) H'
theorem OutX.el {K : PySem.W.Frag} {W : WX} {mg : Str → Option Value} {γ γ1 : List Addr} {H H1 : Hp} {σ : L2.St} {e : PExc} {h : Hc} (L : EL γ H γ1 H1) (o : OutX K W mg γ H σ e h) : OutX K W mg γ1 H1 σ e h := fun γ' H' cls d L' => o γ' H' cls d (L.trans L')
theorem OutV.el {K : PySem.W.Frag} {F : Addr → Prop} {ω : Nat → Option Addr} {γ γ1 : List Addr} {H H1 : Hp} {Q : VK} {p : PV} {h : Hc} (L : EL γ H γ1 H1) (o : OutV K F ω γ H Q p h) : OutV K F ω γ1 H1 Q p h := fun γ' H' v L' => o γ' H' v (L.trans L')
theorem OutVs.el {K : PySem.W.Frag} {F : Addr → Prop} {ω : Nat → Option Addr} {γ γ1 : List Addr} {H H1 : Hp} {Q : List V → Hp → Prop} {p : List PV} {h : Hc} (L : EL γ H γ1 H1) (o : OutVs K F ω γ H Q p h) : OutVs K F ω γ1 H1 Q p h := fun γ' H' v L' => o γ' H' v (L.trans L')
theorem OutB.el {K : PySem.W.Frag} {γ γ1 : List Addr} {H H1 : Hp} {Q : Bool → Hp → Prop} {p : Bool} {h : Hc} (L : EL γ H γ1 H1) (o : OutB K γ H Q p h) : OutB K γ1 H1 Q p h := fun γ' H' L' => o γ' H' (L.trans L')
theorem OutO.el {K : PySem.W.Frag} {F : Addr → Prop} {ω : Nat → Option Addr} {γ γ1 : List Addr} {H H1 : Hp} {Q : VK} {p : List PV} {h : Hc} (L : EL γ H γ1 H1) (o : OutO K F ω γ H Q p h) : OutO K F ω γ1 H1 Q p h := fun γ' H' a vs L' c n => o γ' H' a vs (L.trans L') c (L.al a n)

abbrev EX := En → M PV
abbrev TX := En → M Bool
abbrev AX := En → M (List PV)
structure SE (X : Cx) (W : WX) (e : Expr) (m : EX) : Prop where
  ex : ∃ t, PE X e t ∧ ∀ F γ ω ρ h σ H Q, ER X.K F γ ω H ρ σ → Cells X.K γ H h → post (m ρ h) (OutV X.K F ω γ H Q) (OutX X.K W X.mg γ H σ) → t σ H Q
structure SO (X : Cx) (W : WX) (e : Expr) (m : AX) : Prop where
  ex : ∃ t, PE X e t ∧ ∀ F γ ω ρ h σ H Q, ER X.K F γ ω H ρ σ → Cells X.K γ H h → post (m ρ h) (OutO X.K F ω γ H Q) (OutX X.K W X.mg γ H σ) → t σ H Q
structure ST (X : Cx) (W : WX) (e : Expr) (m : TX) : Prop where
  ex : ∃ t, PT X e t ∧ ∀ F γ ω ρ h σ H Q, ER X.K F γ ω H ρ σ → Cells X.K γ H h → post (m ρ h) (OutB X.K γ H Q) (OutX X.K W X.mg γ H σ) → t σ H Q
structure SW (X : Cx) (W : WX) (e : Expr) (m : TX) : Prop where
  ex : ∃ t, PW X e t ∧ ∀ F γ ω ρ h σ H Q, ER X.K F γ ω H ρ σ → Cells X.K γ H h → post (m ρ h) (OutB X.K γ H Q) (OutX X.K W X.mg γ H σ) → t σ H Q
structure SA (X : Cx) (W : WX) (es : List Expr) (m : AX) : Prop where
  ex : ∃ t, PA X es t ∧ ∀ F γ ω ρ h σ H Q, ER X.K F γ ω H ρ σ → Cells X.K γ H h → post (m ρ h) (OutVs X.K F ω γ H Q) (OutX X.K W X.mg γ H σ) → t σ H Q

section
variable {K : PySem.W.Frag} {F : Addr → Prop} {γ : List Addr} {ω : Nat → Option Addr} {H : Hp} {ρ : En} {σ : L2.St} {h : Hc}
theorem ER.there (R : ER K F γ ω H ρ σ) (C : Cells K γ H h) : ∀ a, Ob F γ ω a → H a ≠ none := fun a q z => by
  rcases q with q | q | ⟨i, q⟩
  · obtain ⟨_, _, e⟩ := R.fo a q; rw [z] at e; cases e
  · obtain ⟨_, e⟩ := C.mem q; rw [z] at e; cases e
  · obtain ⟨_, _, e⟩ := R.oc i a q; rw [z] at e; cases e
end
section
variable {X : Cx} {W : WX} {a b e : Expr} {ma mb mc : EX} {pos : Pos}
/-- an own list, as a value -/
theorem SO.se {m : AX} (s : SO X W e m) : SE X W e (fun ρ => m ρ >>= fun xs => pure (.lst xs)) := by
  obtain ⟨t, pe, q⟩ := s.ex
  refine ⟨t, pe, fun F γ ω ρ h σ H Q R C p => q F γ ω ρ h σ H Q R C ?_⟩
  rw [post_bind] at p
  refine post_mono p (fun xs h' o γ' H' a vs L C' na ng e r => ?_) (fun _ _ x => x)
  exact o γ' H' (.ref a) L C' (.lst e (fun z => by
    rcases z with z | z | ⟨i, z⟩
    · obtain ⟨_, _, e⟩ := R.fo a z; rw [na] at e; cases e
    · exact ng z
    · obtain ⟨_, _, e⟩ := R.oc i a z; rw [na] at e; cases e) (r.bar fun _ _ _ m => .inl m))

/-! ### names, constants -/
def eV (i : Nat) : EX := fun ρ => match ρ[i]? with
  | some (.va p) => pure p
  | _ => M.stuck
def eC (p : PV) : EX := fun _ => pure p
theorem se_var (i : Nat) {x : Str} (hN : X.N[i]? = some x := by rfl) (hv : Vis X.env.scope x := by first | exact Or.inl rfl | exact Or.inr (Or.inl rfl) | exact Or.inr (Or.inr rfl)) (hd : (x == ("__debug__" : Str)) = false := by decide)
    (hcd : (x == ("__classdict__" : Str)) = false := by decide) : SE X W (.Name x pos) (eV i) := by
  refine ⟨tVar i, pe_var hN hv hd hcd, fun F γ ω ρ h σ H Q R C p => ?_⟩
  unfold eV at p
  cases e : ρ[i]? with
  | none => rw [e] at p; exact p.elim
  | some s =>
    rw [e] at p
    cases s with
    | no => exact p.elim
    | ow _ => exact p.elim
    | va q =>
      obtain ⟨v, e1, r⟩ := R.va i q e
      exact ⟨v, e1, p γ H v EL.refl C r⟩
theorem se_c {p : PV} {v : V} (hp : PE X e (tC v)) (r : ∀ K O γ H, Rep K O γ H p v) : SE X W e (eC p) :=
  ⟨tC v, hp, fun F γ ω ρ h σ H Q R C q => q γ H v EL.refl C (r _ _ _ _)⟩
theorem se_int {i : Int} {j : Nat} : SE X W (.Constant (.int i) j pos) (eC (.int i)) := se_c pe_int fun _ _ _ _ => .int i
theorem se_bl {i : Bool} {j : Nat} : SE X W (.Constant (.bool i) j pos) (eC (.bl i)) := se_c pe_bl fun _ _ _ _ => .bl i
theorem se_non {j : Nat} : SE X W (.Constant .none j pos) (eC .non) := se_c pe_non fun _ _ _ _ => .non
theorem se_str {i : Str} {j : Nat} : SE X W (.Constant (.str i) j pos) (eC (.str i)) := se_c pe_str fun _ _ _ _ => .str i
/-- a constant of the module that is an int or a text -/
theorem se_gint {x : Str} {i : Int} {t : Tok} (hm : X.mg x = some (.int i t)) (hg : Gl X x) (hd : (x == ("__debug__" : Str)) = false := by decide) : SE X W (.Name x pos) (eC (.int i)) := se_c (v := V.int i) (pe_glob hg hm ⟨t, rfl⟩ hd) fun _ _ _ _ => .int i
theorem se_gstr {x : Str} {i : Str} {t : Tok} (hm : X.mg x = some (.str i t)) (hg : Gl X x) (hd : (x == ("__debug__" : Str)) = false := by decide) : SE X W (.Name x pos) (eC (.str i)) := se_c (v := V.str i) (pe_glob hg hm ⟨t, rfl⟩ hd) fun _ _ _ _ => .str i

/-! ### operators -/
def OpS (K : PySem.W.Frag) (r : R2) (f : PV → PV → M PV) : Prop := ∀ F γ ω h H x y v w Q, Cells K γ H h → (∀ a, Ob F γ ω a → H a ≠ none) → Rep K (Ob F γ ω) γ H x v → Rep K (Ob F γ ω) γ H y w → post (f x y h) (OutV K F ω γ H Q) (fun _ _ => False) → r v w H Q
def eBin (f : PV → PV → M PV) (a b : EX) : EX := fun ρ => a ρ >>= fun x => b ρ >>= fun y => f x y
def eUn (f : PV → M PV) (a : EX) : EX := fun ρ => a ρ >>= f
/-- two values in a row, then something -/
theorem two {R : V → V → Hp → Prop} {ta tb : TE} {F : Addr → Prop} {γ : List Addr} {ω : Nat → Option Addr} {H : Hp} {ρ : En} {σ : L2.St} {h : Hc} {β : Type} {f : PV → PV → M β} {Qn : β → Hc → Prop}
    (ha : ∀ F γ ω ρ h σ H Q, ER X.K F γ ω H ρ σ → Cells X.K γ H h → post (ma ρ h) (OutV X.K F ω γ H Q) (OutX X.K W X.mg γ H σ) → ta σ H Q)
    (hb : ∀ F γ ω ρ h σ H Q, ER X.K F γ ω H ρ σ → Cells X.K γ H h → post (mb ρ h) (OutV X.K F ω γ H Q) (OutX X.K W X.mg γ H σ) → tb σ H Q)
    (ER0 : ER X.K F γ ω H ρ σ) (C : Cells X.K γ H h) (p : post ((ma ρ >>= fun x => mb ρ >>= fun y => f x y) h) Qn (OutX X.K W X.mg γ H σ))
    (hk : ∀ γ2 H2 h2 x y v w, EL γ H γ2 H2 → ER X.K F γ2 ω H2 ρ σ → Cells X.K γ2 H2 h2 → Rep X.K (Ob F γ2 ω) γ2 H2 x v → Rep X.K (Ob F γ2 ω) γ2 H2 y w → post (f x y h2) Qn (OutX X.K W X.mg γ H σ) → R v w H2) :
    ta σ H fun v H1 => tb σ H1 fun w H2 => R v w H2 := by
  rw [post_bind] at p
  refine ha F γ ω ρ h σ H _ ER0 C (post_mono p (fun x h1 p1 γ1 H1 v L1 C1 r1 => ?_) (fun _ _ z => z))
  rw [post_bind] at p1
  refine hb F γ1 ω ρ h1 σ H1 _ (ER0.el L1) C1 (post_mono p1 (fun y h2 p2 γ2 H2 w L2 C2 r2 => ?_) (fun _ _ z => z.el L1))
  exact hk γ2 H2 h2 x y v w (L1.trans L2) (ER0.el (L1.trans L2)) C2 (r1.later L2.later) r2 p2
theorem post_false {α : Type} {r : Res α} {Q : α → Hc → Prop} {E : PExc → Hc → Prop} (p : post r Q E) (n : ∀ e h, r ≠ .exc e h) : post r Q (fun _ _ => False) := by
  cases r with
  | ok a h => exact p
  | exc e h => exact absurd rfl (n e h)
  | stuck => exact p
/-- never an exception -/
def NoX2 (f : PV → PV → M PV) : Prop := ∀ x y h e h', f x y h ≠ .exc e h'
def NoX1 (f : PV → M PV) : Prop := ∀ x h e h', f x h ≠ .exc e h'
def NoXs (f : List PV → M PV) : Prop := ∀ x h e h', f x h ≠ .exc e h'
theorem se_op {op : Operator} {r : R2} {f : PV → PV → M PV} (ho : OpR X (binaryOp op) r) (s : OpS X.K r f) (n : NoX2 f) (sa : SE X W a ma) (sb : SE X W b mb) : SE X W (.BinOp a op b pos) (eBin f ma mb) := by
  obtain ⟨ta, pa, qa⟩ := sa.ex
  obtain ⟨tb, pb, qb⟩ := sb.ex
  refine ⟨_, pe_op ho pa pb, fun F γ ω ρ h σ H Q R C p => two (f := f) qa qb R C p fun γ2 H2 h2 x y v w L2 R2 C2 r1 r2 p2 => ?_⟩
  exact s F γ2 ω h2 H2 x y v w Q C2 (R2.there C2) r1 r2 (post_mono (post_false p2 (n x y h2)) (fun _ _ z => z.el L2) (fun _ _ z => z))
theorem se_cmp {op : CmpOp} {r : R2} {f : PV → PV → M PV} (ho : OpR X (compareOp op) r) (s : OpS X.K r f) (n : NoX2 f) (sa : SE X W a ma) (sb : SE X W b mb) (hm : behindInMarks op b = false := by first | rfl | exact nomark _) : SE X W (.Compare a [op] [b] pos) (eBin f ma mb) := by
  obtain ⟨ta, pa, qa⟩ := sa.ex
  obtain ⟨tb, pb, qb⟩ := sb.ex
  refine ⟨_, pe_cmpR ho pa pb hm, fun F γ ω ρ h σ H Q R C p => two (f := f) qa qb R C p fun γ2 H2 h2 x y v w L2 R2 C2 r1 r2 p2 => ?_⟩
  exact s F γ2 ω h2 H2 x y v w Q C2 (R2.there C2) r1 r2 (post_mono (post_false p2 (n x y h2)) (fun _ _ z => z.el L2) (fun _ _ z => z))
def toB : PV → M Bool
  | .bl b => pure b
  | _ => M.stuck
theorem toB_post {p : PV} {h : Hc} {Q : Bool → Hc → Prop} {E : PExc → Hc → Prop} (q : post (toB p h) Q E) : ∃ b, p = .bl b ∧ Q b h := by
  cases p <;> first | exact q.elim | exact ⟨_, rfl, q⟩
def tOf (m : EX) : TX := fun ρ => m ρ >>= toB
theorem st_cmp {op : CmpOp} {r : R2} {f : PV → PV → M PV} (ho : OpR X (compareOp op) r) (s : OpS X.K r f) (n : NoX2 f) (sa : SE X W a ma) (sb : SE X W b mb) (hm : behindInMarks op b = false := by first | rfl | exact nomark _) : ST X W (.Compare a [op] [b] pos) (tOf (eBin f ma mb)) := by
  obtain ⟨ta, pa, qa⟩ := sa.ex
  obtain ⟨tb, pb, qb⟩ := sb.ex
  refine ⟨_, pt_cmpR ho pa pb hm, fun F γ ω ρ h σ H Q R C p => ?_⟩
  have p' : post ((ma ρ >>= fun x => mb ρ >>= fun y => (f x y >>= toB)) h) (OutB X.K γ H Q) (OutX X.K W X.mg γ H σ) := by
    simp only [tOf, eBin, bind_assoc'] at p
    exact p
  refine two (f := fun x y => f x y >>= toB) qa qb R C p' fun γ2 H2 h2 x y v w L2 R2 C2 r1 r2 p2 => ?_
  rw [post_bind] at p2
  refine s F γ2 ω h2 H2 x y v w _ C2 (R2.there C2) r1 r2 (post_mono (post_false p2 (n x y h2)) (fun z h3 p3 γ3 H3 u L3 C3 r3 => ?_) (fun _ _ z => z))
  obtain ⟨k, rfl, q⟩ := toB_post p3
  cases r3
  exact ⟨k, rfl, q γ3 H3 (L2.trans L3) C3⟩
/-- a value that is a bool, as a test -/
theorem SE.st (s : SE X W e ma) (he : ∀ whole, isTrue e X.env whole = (do let v ← whole; standAt e.pos; holding [v] (truthy v)) := by intro _; rfl) : ST X W e (tOf ma) := by
  obtain ⟨t, pe, q⟩ := s.ex
  refine ⟨_, pt_val pe he, fun F γ ω ρ h σ H Q R C p => ?_⟩
  unfold tOf at p
  rw [post_bind] at p
  refine q F γ ω ρ h σ H _ R C (post_mono p (fun z h1 p1 γ1 H1 v L1 C1 r1 => ?_) (fun _ _ x => x))
  obtain ⟨k, rfl, q'⟩ := toB_post p1
  cases r1
  exact ⟨k, rfl, q' γ1 H1 L1 C1⟩
end

/-! ### truth -/
section
variable {X : Cx} {W : WX} {a b c e : Expr} {ma mb mc : EX} {ca cb : TX} {pos : Pos} {rest : List Expr}
def tAndX (x y : TX) : TX := fun ρ => x ρ >>= fun k => if k = true then y ρ else pure false
def tOrX (x y : TX) : TX := fun ρ => x ρ >>= fun k => if k = true then pure true else y ρ
def tNotX (x : TX) : TX := fun ρ => x ρ >>= fun k => pure (!k)
theorem SW.st (s : SW X W e ca) : ST X W e ca := let ⟨t, p, q⟩ := s.ex; ⟨t, p.pt, q⟩
theorem sw_and1 (s : ST X W a ca) : SW X W (.BoolOp .And [a] pos) ca := let ⟨t, p, q⟩ := s.ex; ⟨t, pw_and1 p, q⟩
theorem sw_or1 (s : ST X W a ca) : SW X W (.BoolOp .Or [a] pos) ca := let ⟨t, p, q⟩ := s.ex; ⟨t, pw_or1 p, q⟩
theorem sw_and (sa : ST X W a ca) (sb : SW X W (.BoolOp .And (b :: rest) pos) cb) : SW X W (.BoolOp .And (a :: b :: rest) pos) (tAndX ca cb) := by
  obtain ⟨ta, pa, qa⟩ := sa.ex
  obtain ⟨tb, pb, qb⟩ := sb.ex
  refine ⟨_, pw_and pa pb, fun F γ ω ρ h σ H Q R C p => ?_⟩
  unfold tAndX at p
  rw [post_bind] at p
  refine qa F γ ω ρ h σ H _ R C (post_mono p (fun k h1 p1 γ1 H1 L1 C1 => ?_) (fun _ _ x => x))
  cases k with
  | true => exact (if_pos rfl).mpr (qb F γ1 ω ρ h1 σ H1 Q (R.el L1) C1 (post_mono p1 (fun _ _ z => z.el L1) (fun _ _ z => z.el L1)))
  | false => exact p1 γ1 H1 L1 C1
theorem sw_or (sa : ST X W a ca) (sb : SW X W (.BoolOp .Or (b :: rest) pos) cb) : SW X W (.BoolOp .Or (a :: b :: rest) pos) (tOrX ca cb) := by
  obtain ⟨ta, pa, qa⟩ := sa.ex
  obtain ⟨tb, pb, qb⟩ := sb.ex
  refine ⟨_, pw_or pa pb, fun F γ ω ρ h σ H Q R C p => ?_⟩
  unfold tOrX at p
  rw [post_bind] at p
  refine qa F γ ω ρ h σ H _ R C (post_mono p (fun k h1 p1 γ1 H1 L1 C1 => ?_) (fun _ _ x => x))
  cases k with
  | true => exact p1 γ1 H1 L1 C1
  | false => exact qb F γ1 ω ρ h1 σ H1 Q (R.el L1) C1 (post_mono p1 (fun _ _ z => z.el L1) (fun _ _ z => z.el L1))
theorem st_not (sa : ST X W a ca) : ST X W (.UnaryOp .Not a pos) (tNotX ca) := by
  obtain ⟨ta, pa, qa⟩ := sa.ex
  refine ⟨_, pt_not pa, fun F γ ω ρ h σ H Q R C p => ?_⟩
  unfold tNotX at p
  rw [post_bind] at p
  exact qa F γ ω ρ h σ H _ R C (post_mono p (fun k h1 p1 γ1 H1 L1 C1 => p1 γ1 H1 L1 C1) (fun _ _ x => x))
/-! as values: each side a bool -/
def eAndX (x y : EX) : EX := fun ρ => x ρ >>= fun v => toB v >>= fun k => if k = true then y ρ else pure (.bl false)
def eOrX (x y : EX) : EX := fun ρ => x ρ >>= fun v => toB v >>= fun k => if k = true then pure (.bl true) else y ρ
def eNotX (x : EX) : EX := fun ρ => x ρ >>= fun v => toB v >>= fun k => pure (.bl (!k))
theorem se_one {op : BoolOp} (s : SE X W a ma) : SE X W (.BoolOp op [a] pos) ma := let ⟨t, p, q⟩ := s.ex; ⟨t, pe_one p, q⟩
theorem se_and (sa : SE X W a ma) (sb : SE X W (.BoolOp .And (b :: rest) pos) mb) : SE X W (.BoolOp .And (a :: b :: rest) pos) (eAndX ma mb) := by
  obtain ⟨ta, pa, qa⟩ := sa.ex
  obtain ⟨tb, pb, qb⟩ := sb.ex
  refine ⟨_, pe_and pa pb, fun F γ ω ρ h σ H Q R C p => ?_⟩
  unfold eAndX at p
  rw [post_bind] at p
  refine qa F γ ω ρ h σ H _ R C (post_mono p (fun k h1 p1 γ1 H1 v L1 C1 r1 => ?_) (fun _ _ x => x))
  rw [post_bind] at p1
  obtain ⟨k, rfl, p1⟩ := toB_post p1
  cases r1
  refine ⟨k, rfl, ?_⟩
  cases k with
  | true => exact (if_pos rfl).mpr (qb F γ1 ω ρ h1 σ H1 Q (R.el L1) C1 (post_mono p1 (fun _ _ z => z.el L1) (fun _ _ z => z.el L1)))
  | false => exact p1 γ1 H1 _ L1 C1 (.bl false)
theorem se_or (sa : SE X W a ma) (sb : SE X W (.BoolOp .Or (b :: rest) pos) mb) : SE X W (.BoolOp .Or (a :: b :: rest) pos) (eOrX ma mb) := by
  obtain ⟨ta, pa, qa⟩ := sa.ex
  obtain ⟨tb, pb, qb⟩ := sb.ex
  refine ⟨_, pe_or pa pb, fun F γ ω ρ h σ H Q R C p => ?_⟩
  unfold eOrX at p
  rw [post_bind] at p
  refine qa F γ ω ρ h σ H _ R C (post_mono p (fun k h1 p1 γ1 H1 v L1 C1 r1 => ?_) (fun _ _ x => x))
  rw [post_bind] at p1
  obtain ⟨k, rfl, p1⟩ := toB_post p1
  cases r1
  refine ⟨k, rfl, ?_⟩
  cases k with
  | true => exact p1 γ1 H1 _ L1 C1 (.bl true)
  | false => exact qb F γ1 ω ρ h1 σ H1 Q (R.el L1) C1 (post_mono p1 (fun _ _ z => z.el L1) (fun _ _ z => z.el L1))
theorem se_not (sa : SE X W a ma) : SE X W (.UnaryOp .Not a pos) (eNotX ma) := by
  obtain ⟨ta, pa, qa⟩ := sa.ex
  refine ⟨_, pe_not pa, fun F γ ω ρ h σ H Q R C p => ?_⟩
  unfold eNotX at p
  rw [post_bind] at p
  refine qa F γ ω ρ h σ H _ R C (post_mono p (fun k h1 p1 γ1 H1 v L1 C1 r1 => ?_) (fun _ _ x => x))
  rw [post_bind] at p1
  obtain ⟨k, rfl, p1⟩ := toB_post p1
  cases r1
  exact ⟨k, rfl, p1 γ1 H1 _ L1 C1 (.bl _)⟩
def eIfX (t : TX) (x y : EX) : EX := fun ρ => t ρ >>= fun k => if k = true then x ρ else y ρ
theorem se_if (sc : ST X W c ca) (sa : SE X W a ma) (sb : SE X W b mb) : SE X W (.IfExp c a b pos) (eIfX ca ma mb) := by
  obtain ⟨tc, pc, qc⟩ := sc.ex
  obtain ⟨ta, pa, qa⟩ := sa.ex
  obtain ⟨tb, pb, qb⟩ := sb.ex
  refine ⟨_, pe_ifExp pc pa pb, fun F γ ω ρ h σ H Q R C p => ?_⟩
  unfold eIfX at p
  rw [post_bind] at p
  refine qc F γ ω ρ h σ H _ R C (post_mono p (fun k h1 p1 γ1 H1 L1 C1 => ?_) (fun _ _ x => x))
  cases k with
  | true => exact (if_pos rfl).mpr (qa F γ1 ω ρ h1 σ H1 Q (R.el L1) C1 (post_mono p1 (fun _ _ z => z.el L1) (fun _ _ z => z.el L1)))
  | false => exact qb F γ1 ω ρ h1 σ H1 Q (R.el L1) C1 (post_mono p1 (fun _ _ z => z.el L1) (fun _ _ z => z.el L1))
/-- a op b op' c -/
def eChain (f g : PV → PV → M PV) (a b c : EX) : EX := fun ρ => a ρ >>= fun x => b ρ >>= fun y => f x y >>= toB >>= fun k => if k = true then c ρ >>= fun z => g y z else pure (.bl false)
end

/-! ### argument lists -/
section
variable {X : Cx} {W : WX} {e : Expr} {es : List Expr} {me : EX} {mr : AX} {pos : Pos}
def aNil : AX := fun _ => pure []
def aCons (a : EX) (r : AX) : AX := fun ρ => a ρ >>= fun x => r ρ >>= fun xs => pure (x :: xs)
theorem sa_nil : SA X W [] aNil := ⟨tNil, pa_nil, fun F γ ω ρ h σ H Q R C p => p γ H [] EL.refl C .nil⟩
theorem sa_cons (sa : SE X W e me) (sr : SA X W es mr) (hs : starEach (e :: es) X.env = (false, eval e X.env) :: starEach es X.env := by rfl) : SA X W (e :: es) (aCons me mr) := by
  obtain ⟨ta, pa, qa⟩ := sa.ex
  obtain ⟨tr, pr, qr⟩ := sr.ex
  refine ⟨_, pa_cons pa pr hs, fun F γ ω ρ h σ H Q R C p => ?_⟩
  unfold aCons at p
  rw [post_bind] at p
  refine qa F γ ω ρ h σ H _ R C (post_mono p (fun x h1 p1 γ1 H1 v L1 C1 r1 => ?_) (fun _ _ x => x))
  rw [post_bind] at p1
  refine qr F γ1 ω ρ h1 σ H1 _ (R.el L1) C1 (post_mono p1 (fun xs h2 p2 γ2 H2 vs L2 C2 r2 => ?_) (fun _ _ z => z.el L1))
  exact p2 γ2 H2 (v :: vs) (L1.trans L2) C2 (.cons (r1.later L2.later) r2)
def listOk (xs : List PV) : Bool := decide (xs.length ≤ sizeLine)
def mkTup (xs : List PV) : M PV := if xs.length ≤ sizeLine then pure (.tup xs) else M.stuck
def mkLst (xs : List PV) : M (List PV) := if xs.length ≤ sizeLine then pure xs else M.stuck
def eTup (m : AX) : EX := fun ρ => m ρ >>= mkTup
def oLst (m : AX) : AX := fun ρ => m ρ >>= mkLst
theorem se_tup {x1 : Nat} (s : SA X W es mr) : SE X W (.Tuple es x1 pos) (eTup mr) := by
  obtain ⟨t, pa, qa⟩ := s.ex
  refine ⟨_, pe_tup pa, fun F γ ω ρ h σ H Q R C p => ?_⟩
  unfold eTup at p
  rw [post_bind] at p
  refine qa F γ ω ρ h σ H _ R C (post_mono p (fun xs h1 p1 γ1 H1 vs L1 C1 r1 => ?_) (fun _ _ x => x))
  unfold mkTup at p1
  split at p1
  · rename_i hl
    refine ⟨by rw [← r1.length]; exact hl, fun q nq => ?_⟩
    exact p1 γ1 _ (.ref q) (L1.trans (EL.new nq)) (C1.new nq) (.tup (.inl (.inl upd_same)) (r1.later (EL.new nq).later))
  · exact p1.elim
theorem so_lst (s : SA X W es mr) : SO X W (.List es pos) (oLst mr) := by
  obtain ⟨t, pa, qa⟩ := s.ex
  refine ⟨_, pe_lst pa, fun F γ ω ρ h σ H Q R C p => ?_⟩
  unfold oLst at p
  rw [post_bind] at p
  refine qa F γ ω ρ h σ H _ R C (post_mono p (fun xs h1 p1 γ1 H1 vs L1 C1 r1 => ?_) (fun _ _ x => x))
  unfold mkLst at p1
  split at p1
  · rename_i hl
    refine ⟨by rw [← r1.length]; exact hl, fun q nq => ?_⟩
    have ng : q ∉ γ1 := fun m => by obtain ⟨_, e⟩ := C1.mem m; rw [nq] at e; cases e
    refine p1 γ1 _ q vs (L1.trans (EL.new nq)) (C1.new nq) (L1.al q nq) ng upd_same ?_
    exact r1.later ⟨fun b ws e n => ⟨by rw [upd_ne (ne_of_none e nq)]; exact e, fun z => z.elim n fun z => by rw [z, nq] at e; cases e⟩, (EL.new (γ := γ1) nq).nl, fun _ _ e => e⟩
  · exact p1.elim
end
section
variable {X : Cx} {W : WX} {a b c : Expr} {ma mb mc : EX} {pos : Pos}
theorem se_chain {op op' : CmpOp} {r r' : R2} {f g : PV → PV → M PV} (ho : OpR X (compareOp op) r) (ho' : OpR X (compareOp op') r') (s : OpS X.K r f) (s' : OpS X.K r' g) (n : NoX2 f) (n' : NoX2 g)
    (sa : SE X W a ma) (sb : SE X W b mb) (sc : SE X W c mc) (hm : lastMarks [op, op'] [b, c] = false := by with_unfolding_all rfl) : SE X W (.Compare a [op, op'] [b, c] pos) (eChain f g ma mb mc) := by
  obtain ⟨ta, pa, qa⟩ := sa.ex
  obtain ⟨tb, pb, qb⟩ := sb.ex
  obtain ⟨tc, pc, qc⟩ := sc.ex
  refine ⟨_, pe_chain ho ho' pa pb pc hm, fun F γ ω ρ h σ H Q R C p => ?_⟩
  refine two (f := fun x y => f x y >>= toB >>= fun k => if k = true then mc ρ >>= fun z => g y z else pure (.bl false)) qa qb R C p fun γ2 H2 h2 x y v w L2 R2 C2 r1 r2 p2 => ?_
  rw [post_bind, post_bind] at p2
  have p3 := post_false p2 (n x y h2)
  refine s F γ2 ω h2 H2 x y v w _ C2 (R2.there C2) r1 r2 (post_mono p3 (fun z h3 p3 γ3 H3 u L3 C3 r3 => ?_) (fun _ _ z => z))
  obtain ⟨k, rfl, p4⟩ := toB_post p3
  cases r3
  refine ⟨k, rfl, ?_⟩
  have L23 := L2.trans L3
  cases k with
  | false => exact p4 γ3 H3 _ L23 C3 (.bl false)
  | true =>
    refine (if_pos rfl).mpr ?_
    have p4 : post ((mc ρ >>= fun z => g y z) h3) (OutV X.K F ω γ H Q) (OutX X.K W X.mg γ H σ) := p4
    rw [post_bind] at p4
    refine qc F γ3 ω ρ h3 σ H3 _ (R.el L23) C3 (post_mono p4 (fun z h4 p5 γ4 H4 u L4 C4 r4 => ?_) (fun _ _ z => z.el L23))
    have L24 := L23.trans L4
    exact s' F γ4 ω h4 H4 y z w u Q C4 ((R.el L24).there C4) ((r2.later L3.later).later L4.later) r4 (post_mono (post_false p5 (n' y z h4)) (fun _ _ z => z.el L24) (fun _ _ z => z))
theorem st_chain {op op' : CmpOp} {r r' : R2} {f g : PV → PV → M PV} (ho : OpR X (compareOp op) r) (ho' : OpR X (compareOp op') r') (s : OpS X.K r f) (s' : OpS X.K r' g) (n : NoX2 f) (n' : NoX2 g)
    (sa : SE X W a ma) (sb : SE X W b mb) (sc : SE X W c mc) (hm : lastMarks [op, op'] [b, c] = false := by with_unfolding_all rfl) : ST X W (.Compare a [op, op'] [b, c] pos) (tOf (eChain f g ma mb mc)) := by
  obtain ⟨ta, pa, qa⟩ := sa.ex
  obtain ⟨tb, pb, qb⟩ := sb.ex
  obtain ⟨tc, pc, qc⟩ := sc.ex
  refine ⟨_, pt_chain ho ho' pa pb pc hm, fun F γ ω ρ h σ H Q R C p => ?_⟩
  have p' : post ((ma ρ >>= fun x => mb ρ >>= fun y => f x y >>= toB >>= fun k => (if k = true then mc ρ >>= fun z => g y z else pure (.bl false)) >>= toB) h) (OutB X.K γ H Q) (OutX X.K W X.mg γ H σ) := by
    have e : (tOf (eChain f g ma mb mc) ρ) = (ma ρ >>= fun x => mb ρ >>= fun y => f x y >>= toB >>= fun k => (if k = true then mc ρ >>= fun z => g y z else pure (.bl false)) >>= toB) := by
      simp only [tOf, eChain, bind_assoc']
    rw [← e]; exact p
  refine two (f := fun x y => f x y >>= toB >>= fun k => (if k = true then mc ρ >>= fun z => g y z else pure (.bl false)) >>= toB) qa qb R C p' fun γ2 H2 h2 x y v w L2 R2 C2 r1 r2 p2 => ?_
  rw [post_bind, post_bind] at p2
  have p3 := post_false p2 (n x y h2)
  refine s F γ2 ω h2 H2 x y v w _ C2 (R2.there C2) r1 r2 (post_mono p3 (fun z h3 p3 γ3 H3 u L3 C3 r3 => ?_) (fun _ _ z => z))
  obtain ⟨k, rfl, p4⟩ := toB_post p3
  cases r3
  refine ⟨k, rfl, ?_⟩
  have L23 := L2.trans L3
  cases k with
  | false =>
    have p4 : post ((pure false : M Bool) h3) (OutB X.K γ H Q) (OutX X.K W X.mg γ H σ) := p4
    exact ⟨false, rfl, p4 γ3 H3 L23 C3⟩
  | true =>
    refine (if_pos rfl).mpr ?_
    have p4 : post ((mc ρ >>= fun z => g y z >>= toB) h3) (OutB X.K γ H Q) (OutX X.K W X.mg γ H σ) := by
      have e : ((if true = true then mc ρ >>= fun z => g y z else pure (.bl false)) >>= toB) = (mc ρ >>= fun z => g y z >>= toB) := by
        rw [if_pos rfl, bind_assoc']
      rw [← e]; exact p4
    rw [post_bind] at p4
    refine qc F γ3 ω ρ h3 σ H3 _ (R.el L23) C3 (post_mono p4 (fun z h4 p5 γ4 H4 u L4 C4 r4 => ?_) (fun _ _ z => z.el L23))
    have L24 := L23.trans L4
    rw [post_bind] at p5
    refine s' F γ4 ω h4 H4 y z w u _ C4 ((R.el L24).there C4) ((r2.later L3.later).later L4.later) r4 (post_mono (post_false p5 (n' y z h4)) (fun z h5 p6 γ5 H5 u5 L5 C5 r5 => ?_) (fun _ _ z => z))
    obtain ⟨k, rfl, q⟩ := toB_post p6
    cases r5
    exact ⟨k, rfl, q γ5 H5 (L24.trans L5) C5⟩
theorem se_un {op : UnaryOp} {r : V → Hp → VK → Prop} {f : PV → M PV} (ho : UnR X (unaryOp op) r) (s : ∀ F γ ω h H x v Q, Cells X.K γ H h → Rep X.K (Ob F γ ω) γ H x v → post (f x h) (OutV X.K F ω γ H Q) (fun _ _ => False) → r v H Q) (n : NoX1 f) (sa : SE X W a ma) :
    SE X W (.UnaryOp op a pos) (eUn f ma) := by
  obtain ⟨ta, pa, qa⟩ := sa.ex
  refine ⟨_, pe_un ho pa, fun F γ ω ρ h σ H Q R C p => ?_⟩
  unfold eUn at p
  rw [post_bind] at p
  refine qa F γ ω ρ h σ H _ R C (post_mono p (fun z h1 p1 γ1 H1 v L1 C1 r1 => ?_) (fun _ _ x => x))
  exact s F γ1 ω h1 H1 z v Q C1 r1 (post_mono (post_false p1 (n z h1)) (fun _ _ z => z.el L1) (fun _ _ z => z))
end

/-! ### the operators on plain values -/
def MulOk (i j : Int) : Prop := CMul i j ∨ CMulW i j
def DivOk (j : Int) : Prop := j ≠ 0 ∧ j.natAbs.log2 < 9000
open Classical in
noncomputable def guardM (p : Prop) (m : M PV) : M PV := if p then m else M.stuck
theorem guard_post {p : Prop} {m : M PV} {h : Hc} {Q : PV → Hc → Prop} {E : PExc → Hc → Prop} (q : post (guardM p m h) Q E) : p ∧ post (m h) Q E := by
  unfold guardM at q
  split at q
  · exact ⟨by assumption, q⟩
  · exact q.elim
theorem guard_true {p : Prop} {m : M PV} (h : p) : guardM p m = m := if_pos h
theorem guard_nox {p : Prop} {m : M PV} {h : Hc} (n : ∀ e h', m h ≠ .exc e h') : ∀ e h', guardM p m h ≠ .exc e h' := fun e h' q => by
  unfold guardM at q
  split at q
  · exact n e h' q
  · cases q
theorem pure_nox {α : Type} {a : α} {h : Hc} : ∀ e h', (pure a : M α) h ≠ .exc e h' := fun e h' q => by cases q
theorem stuck_nox {α : Type} {h : Hc} : ∀ e h', (M.stuck : M α) h ≠ .exc e h' := fun e h' q => by cases q

noncomputable def pAdd : PV → PV → M PV
  | .int i, .int j => pure (.int (i + j))
  | .str a, .str b => guardM (a.length + b.length ≤ sizeLine) (pure (.str (a ++ b)))
  | .tup a, .tup b => guardM (a.length + b.length ≤ sizeLine) (pure (.tup (a ++ b)))
  | .lst a, .lst b => guardM (a.length + b.length ≤ sizeLine) (pure (.lst (a ++ b)))
  | _, _ => M.stuck
def rAddP (K : PySem.W.Frag) : R2 := fun x y H Q => (rI0 (fun i j => V.int (i + j)) x y H Q) ∨ ((fun x y H Q => ∃ i j, x = V.str i ∧ y = V.str j ∧ i.length + j.length ≤ sizeLine ∧ Q (.str (i ++ j)) H) x y H Q) ∨ (rCatA K x y H Q) ∨ (rCat x y H Q)
theorem op_addP {X : Cx} : OpR X (binaryOp .Add) (rAddP X.K) := op_add.or (op_add_str.or (op_catA.or op_cat))
theorem nox_add : NoX2 pAdd := fun x y h => by
  unfold pAdd
  split <;> first | exact pure_nox | exact guard_nox pure_nox | exact stuck_nox
theorem OutV.now {K : PySem.W.Frag} {F : Addr → Prop} {ω : Nat → Option Addr} {γ : List Addr} {H : Hp} {Q : VK} {p : PV} {h : Hc} {v : V} (o : OutV K F ω γ H Q p h) (C : Cells K γ H h) (r : Rep K (Ob F γ ω) γ H p v) : Q v H := o γ H v EL.refl C r
theorem OutV.nowTup {K : PySem.W.Frag} {F : Addr → Prop} {ω : Nat → Option Addr} {γ : List Addr} {H : Hp} {Q : VK} {xs : List PV} {h : Hc} {vs : List V} (o : OutV K F ω γ H Q (.tup xs) h) (C : Cells K γ H h) (r : Reps K (Ob F γ ω) γ H xs vs) (p : Addr) (np : H p = none) :
    Q (.ref p) (upd H p (.tup vs)) := o γ _ _ (EL.new np) (C.new np) (.tup (.inl (.inl upd_same)) (r.later (EL.new np).later))
theorem OutV.nowLst {K : PySem.W.Frag} {F : Addr → Prop} {ω : Nat → Option Addr} {γ : List Addr} {H : Hp} {Q : VK} {xs : List PV} {h : Hc} {vs : List V} (o : OutV K F ω γ H Q (.lst xs) h) (C : Cells K γ H h) (B : ∀ a, Ob F γ ω a → H a ≠ none) (r : Reps K (Ob F γ ω) γ H xs vs) (p : Addr) (np : H p = none) :
    Q (.ref p) (upd H p (.lst vs)) := o γ _ _ (EL.new np) (C.new np) (.lst upd_same (fun z => B p z np) (r.later (EL.new np).later))
theorem s_add {K : PySem.W.Frag} : OpS K (rAddP K) pAdd := by
  intro F γ ω h H x y v w Q C B rx ry p
  unfold pAdd at p
  split at p
  · cases rx; cases ry
    exact .inl ⟨_, _, rfl, rfl, OutV.now p C (.int _)⟩
  · obtain ⟨hl, p⟩ := guard_post p
    cases rx; cases ry
    exact .inr (.inl ⟨_, _, rfl, rfl, hl, OutV.now p C (.str _)⟩)
  · obtain ⟨hl, p⟩ := guard_post p
    rename_i xs ys
    cases rx with
    | tup s1 r1 =>
      cases ry with
      | tup s2 r2 =>
        refine .inr (.inr (.inl ⟨_, _, _, _, rfl, rfl, s1, s2, by rw [← r1.length, ← r2.length]; exact hl, fun e => ?_, fun _ e => ?_, fun _ _ q nq => ?_⟩))
        · subst e; cases r1; exact OutV.now p C (.tup s2 r2)
        · subst e; cases r2
          rw [List.append_nil] at p
          exact OutV.now p C (.tup s1 r1)
        · exact OutV.nowTup p C (r1.append r2) q nq
  · obtain ⟨hl, p⟩ := guard_post p
    cases rx with
    | lst s1 o1 r1 =>
      cases ry with
      | lst s2 o2 r2 =>
        exact .inr (.inr (.inr ⟨_, _, _, _, rfl, rfl, s1, s2, by rw [← r1.length, ← r2.length]; exact hl, fun q nq => OutV.nowLst p C B (r1.append r2) q nq⟩))
  · exact p.elim

def pSub : PV → PV → M PV
  | .int i, .int j => pure (.int (i - j))
  | _, _ => M.stuck
theorem nox_sub : NoX2 pSub := fun x y h => by
  unfold pSub
  split <;> first | exact pure_nox | exact stuck_nox
theorem s_sub {K : PySem.W.Frag} : OpS K (rI0 fun i j => V.int (i - j)) pSub := by
  intro F γ ω h H x y v w Q C B rx ry p
  unfold pSub at p
  split at p
  · cases rx; cases ry
    exact ⟨_, _, rfl, rfl, OutV.now p C (.int _)⟩
  · exact p.elim

theorem tuple_mul1 (l : Addr) (items : Array Value) (n : Nat) (dd : Option Addr) (sl : Array (Option Value)) (u : Tok) :
    Meets (Builtin.«tuple.__mul__» ⟨[.ref l, .int 1 u], []⟩) (fun _ R s => s.heap.get? l = some { cls := .type "tuple", dict := dd, data := .seq items n, slots := sl } ∧
      R (.ok (.ret (Value.ref l))) s) :=
  .of_wp fun prog w A R s h => by
    obtain ⟨hp, g, d, tk, os⟩ := s
    obtain ⟨hl, h⟩ := h
    have f1 := AutoSeq1.idx_int
    have c1 : (items.isEmpty || (1 : Int) == 1) = true := by simp
    wp_walk using wpAny_loadPart' hl
    repeat (first
      | (refine wpAny_ite_true (decide_eq_true (by rw [c1])) ?_; wp_walk using wpAny_loadPart' hl)
      | (refine wpAny_ite_false (decide_eq_false (by decide)) ?_; wp_walk using wpAny_loadPart' hl))
    exact ⟨_, rfl, h⟩
def rRep1 (K : PySem.W.Frag) : R2 := fun x y H Q => ∃ l xs, x = .ref l ∧ y = .int 1 ∧ SqT K H l xs ∧ Q (.ref l) H
theorem op_rep1 {X : Cx} : OpR X (binaryOp .Mult) (rRep1 X.K) := by
  intro pins s σ H x y v u Q I rx ry h
  obtain ⟨l, xs, rfl, rfl, hT, q⟩ := h
  cases rx
  obtain ⟨t, rfl⟩ := ry
  obtain ⟨its, r, ⟨⟨cls, dd, data, sl⟩, ho, hc, n, hd⟩, hs⟩ := I.tuple hT
  simp only at hc hd
  subst hc hd
  refine wpAny_binaryOp_repeat_ref (T := "tuple") (U := "int") (by decide) ⟨_, ho, rfl⟩ (fun s' => typeIs_int s' 1 t) noFill_tuple_mul F.fills_int_mul F.slot_int_rmul repeat_tuple F.slot_int_index.lookup
    (call_meets F.slot_int_rmul (typeIs_int s 1 t) F.entry_int_rmul (F.args_int_rmul_2 _ _) (int_rmul_tuple 1 t l its.toArray n dd sl)
      ⟨ho, rfl, ⟨_, ho, rfl⟩, call_meets F.slot_tuple_mul ⟨_, ho, rfl⟩ F.entry_tuple_mul (F.args_tuple_mul_2 _ _) (tuple_mul1 l its.toArray n dd sl t) ⟨ho, ?_⟩⟩)
  exact ⟨.ref l, H, I, rfl, q⟩
noncomputable def pMul : PV → PV → M PV
  | .int i, .int j => guardM (MulOk i j) (pure (.int (i * j)))
  | .lst xs, .int k => guardM (-(2 ^ 63) ≤ k ∧ k < 2 ^ 63 ∧ xs.length * k.toNat ≤ sizeLine) (pure (.lst (List.replicate k.toNat xs).flatten))
  | .tup xs, .int k => if k = 1 then pure (.tup xs) else guardM (xs ≠ [] ∧ 2 ≤ k ∧ k ≤ 1000 ∧ xs.length ≤ 1000) (pure (.tup (List.replicate k.toNat xs).flatten))
  | _, _ => M.stuck
theorem nox_mul : NoX2 pMul := fun x y h => by
  unfold pMul
  split <;> first | exact pure_nox | exact guard_nox pure_nox | exact stuck_nox | (split <;> first | exact pure_nox | exact guard_nox pure_nox)
def rMulP (K : PySem.W.Frag) : R2 := fun x y H Q => (rI CMul (fun i j => V.int (i * j)) x y H Q) ∨ (rI CMulW (fun i j => V.int (i * j)) x y H Q) ∨ (rRep x y H Q) ∨ (rRepT K x y H Q) ∨ (rRep1 K x y H Q)
theorem op_mulP {X : Cx} : OpR X (binaryOp .Mult) (rMulP X.K) := op_mul.or (op_mulW.or (op_rep.or (op_repT.or op_rep1)))
theorem s_mul {K : PySem.W.Frag} : OpS K (rMulP K) pMul := by
  intro F γ ω h H x y v w Q C B rx ry p
  unfold pMul at p
  split at p
  · obtain ⟨hl, p⟩ := guard_post p
    cases rx; cases ry
    rcases hl with hl | hl
    · exact .inl ⟨_, _, rfl, rfl, hl, OutV.now p C (.int _)⟩
    · exact .inr (.inl ⟨_, _, rfl, rfl, hl, OutV.now p C (.int _)⟩)
  · obtain ⟨⟨h1, h2, hl⟩, p⟩ := guard_post p
    cases ry
    cases rx with
    | lst s1 o1 r1 => exact .inr (.inr (.inl ⟨_, _, _, rfl, rfl, s1, h1, h2, by rw [← r1.length]; exact hl, fun q nq => OutV.nowLst p C B (r1.rep _) q nq⟩))
  · rename_i xs k
    by_cases hk : k = 1
    · subst hk
      rw [if_pos rfl] at p
      cases ry
      cases rx with
      | tup s1 r1 => exact .inr (.inr (.inr (.inr ⟨_, _, rfl, rfl, s1, OutV.now p C (.tup s1 r1)⟩)))
    rw [if_neg hk] at p
    obtain ⟨⟨h0, h1, h2, hl⟩, p⟩ := guard_post p
    cases ry
    cases rx with
    | tup s1 r1 => exact .inr (.inr (.inr (.inl ⟨_, _, _, rfl, rfl, s1, fun e => h0 (by subst e; cases r1; rfl), h1, h2, by rw [← r1.length]; exact hl, fun q nq => OutV.nowTup p C (r1.rep _) q nq⟩)))
  · exact p.elim

noncomputable def pDiv : PV → PV → M PV
  | .int i, .int j => guardM (DivOk j) (pure (.int (i.fdiv j)))
  | _, _ => M.stuck
theorem nox_div : NoX2 pDiv := fun x y h => by
  unfold pDiv
  split <;> first | exact guard_nox pure_nox | exact stuck_nox
theorem op_divP {X : Cx} : OpR X (binaryOp .FloorDiv) (rI (fun _ j => DivOk j) fun i j => V.int (i.fdiv j)) := opI fun i j _ _ _ _ _ hc q => floordiv_int hc.1 q (.inl (PyProof.noPylong_of_log2 hc.2))
theorem s_div {K : PySem.W.Frag} : OpS K (rI (fun _ j => DivOk j) fun i j => V.int (i.fdiv j)) pDiv := by
  intro F γ ω h H x y v w Q C B rx ry p
  unfold pDiv at p
  split at p
  · obtain ⟨hl, p⟩ := guard_post p
    cases rx; cases ry
    exact ⟨_, _, rfl, rfl, hl, OutV.now p C (.int _)⟩
  · exact p.elim
noncomputable def pMod : PV → PV → M PV
  | .int i, .int j => guardM (j ≠ 0) (pure (.int (i.fmod j)))
  | _, _ => M.stuck
theorem nox_mod : NoX2 pMod := fun x y h => by
  unfold pMod
  split <;> first | exact guard_nox pure_nox | exact stuck_nox
theorem s_mod {K : PySem.W.Frag} : OpS K (rI (fun _ j => j ≠ 0) fun i j => V.int (i.fmod j)) pMod := by
  intro F γ ω h H x y v w Q C B rx ry p
  unfold pMod at p
  split at p
  · obtain ⟨hl, p⟩ := guard_post p
    cases rx; cases ry
    exact ⟨_, _, rfl, rfl, hl, OutV.now p C (.int _)⟩
  · exact p.elim
noncomputable def pPow : PV → PV → M PV
  | .int i, .int j => guardM (CPow i j) (pure (.int (i ^ j.toNat)))
  | _, _ => M.stuck
theorem nox_pow : NoX2 pPow := fun x y h => by
  unfold pPow
  split <;> first | exact guard_nox pure_nox | exact stuck_nox
theorem s_pow {K : PySem.W.Frag} : OpS K (rI CPow fun i j => V.int (i ^ j.toNat)) pPow := by
  intro F γ ω h H x y v w Q C B rx ry p
  unfold pPow at p
  split at p
  · obtain ⟨hl, p⟩ := guard_post p
    cases rx; cases ry
    exact ⟨_, _, rfl, rfl, hl, OutV.now p C (.int _)⟩
  · exact p.elim
def pNeg : PV → M PV
  | .int i => pure (.int (-i))
  | _ => M.stuck
theorem nox_neg : NoX1 pNeg := fun x h => by
  unfold pNeg
  split <;> first | exact pure_nox | exact stuck_nox
theorem s_neg {K : PySem.W.Frag} : ∀ F γ ω h H x v Q, Cells K γ H h → Rep K (Ob F γ ω) γ H x v → post (pNeg x h) (OutV K F ω γ H Q) (fun _ _ => False) → rU (fun i => V.int (-i)) v H Q := by
  intro F γ ω h H x v Q C rx p
  unfold pNeg at p
  split at p
  · cases rx
    exact ⟨_, rfl, OutV.now p C (.int _)⟩
  · exact p.elim

/-! ### comparisons -/
def pCmpI (g : Int → Int → Bool) : PV → PV → M PV
  | .int i, .int j => pure (.bl (g i j))
  | _, _ => M.stuck
theorem nox_cmpI {g : Int → Int → Bool} : NoX2 (pCmpI g) := fun x y h => by
  unfold pCmpI
  split <;> first | exact pure_nox | exact stuck_nox
theorem s_cmpI {K : PySem.W.Frag} {g : Int → Int → Bool} : OpS K (rI0 fun i j => V.bl (g i j)) (pCmpI g) := by
  intro F γ ω h H x y v w Q C B rx ry p
  unfold pCmpI at p
  split at p
  · cases rx; cases ry
    exact ⟨_, _, rfl, rfl, OutV.now p C (.bl _)⟩
  · exact p.elim
abbrev pLt := pCmpI fun i j => decide (i < j)
abbrev pLe := pCmpI fun i j => decide (i ≤ j)
abbrev pGt := pCmpI fun i j => decide (j < i)
abbrev pGe := pCmpI fun i j => decide (j ≤ i)

mutual
def PV.toD : PV → PyData
  | .non => .none
  | .bl b => .bool b
  | .int i => .int i
  | .str x => .str x
  | .tup xs => .tuple (toDs xs)
  | .lst xs => .list (toDs xs)
  | .cell _ => .none
  | .scr xs => .list (toDs xs)
def toDs : List PV → List PyData
  | [] => []
  | x :: xs => x.toD :: toDs xs
end
mutual
/-- no cell within -/
def PV.dat : PV → Bool
  | .non => true
  | .bl _ => true
  | .int _ => true
  | .str _ => true
  | .tup xs => dats xs
  | .lst xs => dats xs
  | .cell _ => false
  | .scr xs => dats xs
def dats : List PV → Bool
  | [] => true
  | x :: xs => x.dat && dats xs
end
section
variable {K : PySem.W.Frag} {O : Addr → Prop} {γ : List Addr} {H : Hp}
mutual
theorem Rep.dp : ∀ {p : PV} {v : V}, p.dat = true → Rep K O γ H p v → Dp K H v p.toD
  | _, _, _, .non => by simp only [PV.toD]; exact .non
  | _, _, _, .bl b => by simp only [PV.toD]; exact .bl b
  | _, _, _, .int i => by simp only [PV.toD]; exact .int i
  | _, _, _, .str x => by simp only [PV.toD]; exact .str x
  | _, _, d, .tup s r => by simp only [PV.toD]; exact .tup s (Reps.dp (by simpa [PV.dat] using d) r)
  | _, _, d, .lst s _ r => by simp only [PV.toD]; exact .lst (SqL.of s) (Reps.dp (by simpa [PV.dat] using d) r)
  | _, _, d, .cell _ => by simp [PV.dat] at d
  | _, _, d, .scr s r => by simp only [PV.toD]; exact .lst s.sq (Reps.dp (by simpa [PV.dat] using d) r)
theorem Reps.dp : ∀ {ps : List PV} {vs : List V}, dats ps = true → Reps K O γ H ps vs → DpAll K H vs (toDs ps)
  | _, _, _, .nil => by simp only [toDs]; exact .nil
  | _, _, d, .cons r s => by
    simp only [dats, Bool.and_eq_true] at d
    simp only [toDs]
    exact .cons (Rep.dp d.1 r) (Reps.dp d.2 s)
end
end
/-- it may be compared -/
def CmpOk (p : PV) : Prop := p.dat = true ∧ SeqAt.shaped p.toD = true
def eqb (x y : PV) : Bool := PyData.eqv x.toD y.toD
noncomputable def pEq (x y : PV) : M PV := guardM (CmpOk x ∧ CmpOk y) (pure (.bl (eqb x y)))
noncomputable def pNe (x y : PV) : M PV := guardM (CmpOk x ∧ CmpOk y) (pure (.bl (!eqb x y)))
theorem nox_eq : NoX2 pEq := fun x y h => guard_nox pure_nox
theorem nox_ne : NoX2 pNe := fun x y h => guard_nox pure_nox
theorem s_eq {K : PySem.W.Frag} : OpS K (rEqD K) pEq := by
  intro F γ ω h H x y v w Q C B rx ry p
  obtain ⟨⟨c1, c2⟩, p⟩ := guard_post p
  exact ⟨_, _, rx.dp c1.1, ry.dp c2.1, c1.2, c2.2, OutV.now p C (.bl _)⟩
theorem s_ne {K : PySem.W.Frag} : OpS K (rNeD K) pNe := by
  intro F γ ω h H x y v w Q C B rx ry p
  obtain ⟨⟨c1, c2⟩, p⟩ := guard_post p
  exact ⟨_, _, rx.dp c1.1, ry.dp c2.1, c1.2, c2.2, OutV.now p C (.bl _)⟩
/-! is None, is True, is False -/
def pIsN : PV → PV → M PV
  | .non, .non => pure (.bl true)
  | _, .non => pure (.bl false)
  | .bl a, .bl b => pure (.bl (decide (a = b)))
  | _, _ => M.stuck
def pNotN : PV → PV → M PV
  | .non, .non => pure (.bl false)
  | _, .non => pure (.bl true)
  | .bl a, .bl b => pure (.bl (!decide (a = b)))
  | _, _ => M.stuck
theorem nox_is : NoX2 pIsN := fun x y h => by
  unfold pIsN
  split <;> first | exact pure_nox | exact stuck_nox
theorem nox_isnot : NoX2 pNotN := fun x y h => by
  unfold pNotN
  split <;> first | exact pure_nox | exact stuck_nox
def rIsP : R2 := fun x y H Q => (y = .non ∧ Q (.bl (decide (x = .non))) H) ∨ rIsB x y H Q
def rNotP : R2 := fun x y H Q => (y = .non ∧ Q (.bl (!decide (x = .non))) H) ∨ rNotB x y H Q
theorem op_isP {X : Cx} : OpR X (compareOp .Is) rIsP := op_isN.or op_isBl
theorem op_notP {X : Cx} : OpR X (compareOp .IsNot) rNotP := op_notN.or op_notBl
theorem Rep.isNon {K : PySem.W.Frag} {O : Addr → Prop} {γ : List Addr} {H : Hp} {p : PV} {v : V} (r : Rep K O γ H p v) (n : p ≠ .non) : v ≠ .non := by
  cases r <;> first | exact absurd rfl n | exact nofun
theorem s_is {K : PySem.W.Frag} : OpS K rIsP pIsN := by
  intro F γ ω h H x y v w Q C B rx ry p
  unfold pIsN at p
  split at p
  · cases rx; cases ry
    exact .inl ⟨rfl, OutV.now p C (.bl true)⟩
  · rename_i n
    cases ry
    refine .inl ⟨rfl, ?_⟩
    rw [decide_eq_false (rx.isNon (by intro e; subst e; simp at n))]
    exact OutV.now p C (.bl false)
  · cases rx; cases ry
    exact .inr ⟨_, _, rfl, rfl, OutV.now p C (.bl _)⟩
  · exact p.elim
theorem s_isnot {K : PySem.W.Frag} : OpS K rNotP pNotN := by
  intro F γ ω h H x y v w Q C B rx ry p
  unfold pNotN at p
  split at p
  · cases rx; cases ry
    exact .inl ⟨rfl, OutV.now p C (.bl false)⟩
  · rename_i n
    cases ry
    refine .inl ⟨rfl, ?_⟩
    rw [decide_eq_false (rx.isNon (by intro e; subst e; simp at n))]
    exact OutV.now p C (.bl true)
  · cases rx; cases ry
    exact .inr ⟨_, _, rfl, rfl, OutV.now p C (.bl _)⟩
  · exact p.elim

/-! ### subscripts -/
def seqOf : PV → Option (List PV)
  | .lst xs => some xs
  | .tup xs => some xs
  | .scr xs => some xs
  | _ => none
theorem Rep.seq {K : PySem.W.Frag} {O : Addr → Prop} {γ : List Addr} {H : Hp} {p : PV} {v : V} {xs : List PV} (r : Rep K O γ H p v) (e : seqOf p = some xs) : ∃ a vs, v = .ref a ∧ (SqL K H a vs ∨ SqT K H a vs) ∧ Reps K O γ H xs vs := by
  cases r with
  | tup s r => cases e; exact ⟨_, _, rfl, .inr s, r⟩
  | lst s o r => cases e; exact ⟨_, _, rfl, .inl (SqL.of s), r⟩
  | scr s r => cases e; exact ⟨_, _, rfl, .inl s.sq, r⟩
  | _ => cases e
theorem Reps.atI {K : PySem.W.Frag} {O : Addr → Prop} {γ : List Addr} {H : Hp} {ps : List PV} {vs : List V} {i : Int} {p : PV} (r : Reps K O γ H ps vs) (e : L2.atI ps i = some p) : ∃ v, L2.atI vs i = some v ∧ Rep K O γ H p v := by
  unfold L2.atI at e ⊢
  rw [← r.length]
  cases q : ixN ps.length i with
  | none => rw [q] at e; cases e
  | some j =>
    rw [q] at e
    exact r.get e
def oM {α : Type} : Option α → M α
  | some a => pure a
  | none => M.stuck
theorem oM_post {α : Type} {o : Option α} {h : Hc} {Q : α → Hc → Prop} {E : PExc → Hc → Prop} (q : post (oM o h) Q E) : ∃ a, o = some a ∧ Q a h := by
  cases o with
  | none => exact q.elim
  | some a => exact ⟨a, rfl, q⟩
theorem oM_nox {α : Type} {o : Option α} {h : Hc} : ∀ e h', oM o h ≠ .exc e h' := by
  cases o with
  | none => exact fun e h' q => by cases q
  | some a => exact pure_nox
/-- x[i] of a list, a tuple, a cell's list, a text -/
def ixI (i : Int) : PV → M PV
  | .cell n => fun h => match h[n]? with
    | some xs => oM (atI xs i) h
    | none => .stuck
  | .str z => if z.length ≤ sizeLine then oM ((atI z.cps.toList i).map fun c => .str ⟨#[c]⟩) else M.stuck
  | .lst xs => oM (atI xs i)
  | .tup xs => oM (atI xs i)
  | .scr xs => oM (atI xs i)
  | .non => M.stuck
  | .bl _ => M.stuck
  | .int _ => M.stuck
def pIx (x : PV) : PV → M PV
  | .int i => ixI i x
  | _ => M.stuck
theorem nox_ix : NoX2 pIx := fun x y h => by
  cases y <;> first | (intro e h' q; cases q; done) | skip
  rename_i i
  cases x <;> first | (intro e h' q; cases q; done) | exact oM_nox | skip
  · rename_i z
    show ∀ e h', (if z.length ≤ sizeLine then oM ((atI z.cps.toList i).map fun c => PV.str ⟨#[c]⟩) else M.stuck : M PV) h ≠ .exc e h'
    split
    · exact oM_nox
    · exact fun e h' q => by cases q
  · rename_i n
    show ∀ e h', (match h[n]? with | some xs => oM (atI xs i) h | none => .stuck) ≠ .exc e h'
    split
    · exact oM_nox
    · exact fun e h' q => by cases q
theorem s_ix {K : PySem.W.Frag} : OpS K (rIx K) pIx := by
  intro F γ ω h H x y v w Q C B rx ry p
  cases y <;> first | exact p.elim | skip
  rename_i i
  cases ry
  have p : post (ixI i x h) (OutV K F ω γ H Q) (fun _ _ => False) := p
  have sq : ∀ xs, seqOf x = some xs → post (oM (atI xs i) h) (OutV K F ω γ H Q) (fun _ _ => False) → rIx K v (.int i) H Q := fun xs e p => by
    obtain ⟨q, e2, p⟩ := oM_post p
    obtain ⟨a, vs, rfl, s, r⟩ := rx.seq e
    obtain ⟨u, e4, r4⟩ := r.atI e2
    rcases s with s | s
    · exact .inl ⟨a, vs, _, u, rfl, rfl, s, e4, OutV.now p C r4⟩
    · exact .inr (.inl ⟨a, vs, _, u, rfl, rfl, s, e4, OutV.now p C r4⟩)
  cases x with
  | non => exact p.elim
  | bl _ => exact p.elim
  | int _ => exact p.elim
  | tup xs => exact sq xs rfl p
  | lst xs => exact sq xs rfl p
  | scr xs => exact sq xs rfl p
  | str z =>
    have p : post ((if z.length ≤ sizeLine then oM ((atI z.cps.toList i).map fun c => PV.str ⟨#[c]⟩) else M.stuck : M PV) h) (OutV K F ω γ H Q) (fun _ _ => False) := p
    split at p
    · rename_i hl
      obtain ⟨q, e2, p⟩ := oM_post p
      cases rx
      cases e3 : atI z.cps.toList i with
      | none => rw [e3] at e2; cases e2
      | some c =>
        rw [e3] at e2; cases e2
        exact .inr (.inr ⟨_, _, c, rfl, rfl, hl, e3, OutV.now p C (.str _)⟩)
    · exact p.elim
  | cell n =>
    have p : post (match h[n]? with | some xs => oM (atI xs i) h | none => .stuck) (OutV K F ω γ H Q) (fun _ _ => False) := p
    split at p
    · rename_i xs e
      obtain ⟨q, e2, p⟩ := oM_post p
      cases rx with
      | cell g =>
        obtain ⟨vs, e3, r⟩ := C.pl n _ xs g e
        obtain ⟨u, e4, r4⟩ := r.atI e2
        exact .inl ⟨_, vs, i, u, rfl, rfl, SqL.of e3, e4, OutV.now p C r4.any⟩
    · exact p.elim
section
variable {X : Cx} {W : WX} {a b : Expr} {ma mb : EX} {pos : Pos}
theorem se_ix (sa : SE X W a ma) (sb : SE X W b mb) (hs : PlainIx b := by exact fun _ _ => rfl) : SE X W (.Subscript a b pos) (eBin pIx ma mb) := by
  obtain ⟨ta, pa, qa⟩ := sa.ex
  obtain ⟨tb, pb, qb⟩ := sb.ex
  refine ⟨_, pe_ix ix_seq pa pb hs, fun F γ ω ρ h σ H Q R C p => two (f := pIx) qa qb R C p fun γ2 H2 h2 x y v w L2 R2 C2 r1 r2 p2 => ?_⟩
  exact s_ix F γ2 ω h2 H2 x y v w Q C2 (R2.there C2) r1 r2 (post_mono (post_false p2 (nox_ix x y h2)) (fun _ _ z => z.el L2) (fun _ _ z => z))
end
/-! ### slices -/
structure SP0 (X : Cx) (W : WX) (e : Option Expr) (m : En → M (Option Int)) : Prop where
  ex : ∃ t, PO X e t ∧ ∀ F γ ω ρ h σ H (Q : Option Int → Hp → Prop), ER X.K F γ ω H ρ σ → Cells X.K γ H h → post (m ρ h) (fun o h' => ∀ γ' H', EL γ H γ' H' → Cells X.K γ' H' h' → Q o H') (OutX X.K W X.mg γ H σ) → t σ H Q
def toI : PV → M (Option Int)
  | .int i => pure (some i)
  | _ => M.stuck
def noP : En → M (Option Int) := fun _ => pure none
def soP (m : EX) : En → M (Option Int) := fun ρ => m ρ >>= toI
def cutP (xs : List PV) (lo hi : Option Int) : List PV := (xs.drop (HT.sIx xs.length 0 lo)).take (HT.sIx xs.length xs.length hi - HT.sIx xs.length 0 lo)
def pSl (lo hi : Option Int) : PV → M PV
  | .tup xs => pure (.tup (cutP xs lo hi))
  | .lst xs => pure (.lst (cutP xs lo hi))
  | .scr xs => pure (.lst (cutP xs lo hi))
  | _ => M.stuck
def eSl (a : EX) (lo hi : En → M (Option Int)) : EX := fun ρ => a ρ >>= fun x => lo ρ >>= fun l => hi ρ >>= fun u => pSl l u x
theorem nox_sl {lo hi : Option Int} : NoX1 (pSl lo hi) := fun x h => by
  cases x <;> (intro e h' q; cases q)
theorem Reps.cut {K : PySem.W.Frag} {O : Addr → Prop} {γ : List Addr} {H : Hp} {ps : List PV} {vs : List V} (r : Reps K O γ H ps vs) (lo hi : Option Int) : Reps K O γ H (cutP ps lo hi) (cutV vs lo hi) := by
  unfold cutP cutV
  rw [r.length]
  exact (r.drop _).take _
section
variable {X : Cx} {W : WX} {e : Expr} {lo hi : Option Expr} {me : EX} {ml mh : En → M (Option Int)} {pos p2 : Pos}
theorem sp_none : SP0 X W none noP := ⟨_, po_none, fun F γ ω ρ h σ H Q R C p => p γ H EL.refl C⟩
theorem sp_some (s : SE X W e me) : SP0 X W (some e) (soP me) := by
  obtain ⟨t, p, q⟩ := s.ex
  refine ⟨_, po_some p, fun F γ ω ρ h σ H Q R C p => ?_⟩
  unfold soP at p
  rw [post_bind] at p
  refine q F γ ω ρ h σ H _ R C (post_mono p (fun x h1 p1 γ1 H1 v L1 C1 r1 => ?_) (fun _ _ x => x))
  cases x <;> first | exact p1.elim | skip
  cases r1
  exact ⟨_, rfl, p1 γ1 H1 L1 C1⟩
theorem se_slice (se : SE X W e me) (sl : SP0 X W lo ml) (sh : SP0 X W hi mh) : SE X W (.Subscript e (.Slice lo hi none p2) pos) (eSl me ml mh) := by
  obtain ⟨te, pe, qe⟩ := se.ex
  obtain ⟨tl, pl, ql⟩ := sl.ex
  obtain ⟨th, ph, qh⟩ := sh.ex
  refine ⟨_, pe_slice (sl_tupA.or sl_list) pe pl ph, fun F γ ω ρ h σ H Q R C p => ?_⟩
  unfold eSl at p
  rw [post_bind] at p
  refine qe F γ ω ρ h σ H _ R C (post_mono p (fun x h1 p1 γ1 H1 v L1 C1 r1 => ?_) (fun _ _ x => x))
  rw [post_bind] at p1
  refine ql F γ1 ω ρ h1 σ H1 _ (R.el L1) C1 (post_mono p1 (fun l h2 p2 γ2 H2 L2 C2 => ?_) (fun _ _ z => z.el L1))
  rw [post_bind] at p2
  have L12 := L1.trans L2
  refine qh F γ2 ω ρ h2 σ H2 _ (R.el L12) C2 (post_mono p2 (fun u h3 p3 γ3 H3 L3 C3 => ?_) (fun _ _ z => z.el L12))
  have L13 := L12.trans L3
  have r3 := (r1.later L2.later).later L3.later
  have B := (R.el L13).there C3
  have p4 : post (pSl l u x h3) (OutV X.K F ω γ3 H3 Q) (fun _ _ => False) := post_mono (post_false p3 (nox_sl x h3)) (fun _ _ z => z.el L13) (fun _ _ z => z)
  cases x with
  | tup xs =>
    cases r3 with
    | tup s r =>
      refine .inl ⟨_, _, rfl, s, fun w => ?_, fun w q nq => OutV.nowTup p4 C3 (r.cut l u) q nq⟩
      have e : cutP xs l u = xs := by
        unfold cutP
        rw [r.length, w.1, w.2, Nat.sub_zero, List.drop_zero, ← r.length, List.take_length]
      rw [show pSl l u (.tup xs) = pure (.tup xs) by show pure (PV.tup (cutP xs l u)) = _; rw [e]] at p4
      exact OutV.now p4 C3 (.tup s r)
  | lst xs =>
    cases r3 with
    | lst s o r => exact .inr ⟨_, _, rfl, SqL.of s, fun q nq => OutV.nowLst p4 C3 B (r.cut l u) q nq⟩
  | scr xs =>
    cases r3 with
    | scr s r => exact .inr ⟨_, _, rfl, s.sq, fun q nq => OutV.nowLst p4 C3 B (r.cut l u) q nq⟩
  | _ => exact p4.elim
end

/-! ### built-in functions -/
def CallS (K : PySem.W.Frag) (r : List V → Hp → VK → Prop) (f : List PV → M PV) : Prop := ∀ F γ ω h H xs vs Q, Cells K γ H h → (∀ a, Ob F γ ω a → H a ≠ none) → Reps K (Ob F γ ω) γ H xs vs → post (f xs h) (OutV K F ω γ H Q) (fun _ _ => False) → r vs H Q
def eF (f : List PV → M PV) (m : AX) : EX := fun ρ => m ρ >>= f
section
variable {X : Cx} {W : WX} {x : Str} {p pos : Pos} {e : Expr} {es : List Expr} {m : AX} {id T : String} {r : List V → Hp → VK → Prop} {f : List PV → M PV}
theorem se_callB (hc : CallR X (.builtin id) r) (s : CallS X.K r f) (n : NoXs f) (hg : Gl X x) (hm : X.mg x = none) (hv : bootBuiltins x = some (.builtin id)) (sa : SA X W (e :: es) m) (hn : x ≠ "__name__" := by decide) (hdb : (x == ("__debug__" : Str)) = false := by decide)
    (he : starEach (e :: es) X.env = (false, eval e X.env) :: starEach es X.env := by rfl) (hpl : (backTo pos (starEach es X.env)).any (·.1) = false := by rfl) : SE X W (.Call (.Name x p) (e :: es) [] pos) (eF f m) := by
  obtain ⟨t, pa, qa⟩ := sa.ex
  refine ⟨_, pe_callB hc hg hm hv pa hn hdb he hpl, fun F γ ω ρ h σ H Q R C p => ?_⟩
  unfold eF at p
  rw [post_bind] at p
  refine qa F γ ω ρ h σ H _ R C (post_mono p (fun xs h1 p1 γ1 H1 vs L1 C1 r1 => ?_) (fun _ _ x => x))
  exact s F γ1 ω h1 H1 xs vs Q C1 ((R.el L1).there C1) r1 (post_mono (post_false p1 (n xs h1)) (fun _ _ z => z.el L1) (fun _ _ z => z))
theorem se_callTy (hc : CallR X (.type T) r) (s : CallS X.K r f) (n : NoXs f) (hg : Gl X x) (hm : X.mg x = none) (hv : bootBuiltins x = some (.type T)) (sa : SA X W (e :: es) m) (hn : x ≠ "__name__" := by decide) (hdb : (x == ("__debug__" : Str)) = false := by decide)
    (he : starEach (e :: es) X.env = (false, eval e X.env) :: starEach es X.env := by rfl) (hpl : (backTo pos (starEach es X.env)).any (·.1) = false := by rfl) : SE X W (.Call (.Name x p) (e :: es) [] pos) (eF f m) := by
  obtain ⟨t, pa, qa⟩ := sa.ex
  refine ⟨_, pe_callTy hc hg hm hv pa hn hdb he hpl, fun F γ ω ρ h σ H Q R C p => ?_⟩
  unfold eF at p
  rw [post_bind] at p
  refine qa F γ ω ρ h σ H _ R C (post_mono p (fun xs h1 p1 γ1 H1 vs L1 C1 r1 => ?_) (fun _ _ x => x))
  exact s F γ1 ω h1 H1 xs vs Q C1 ((R.el L1).there C1) r1 (post_mono (post_false p1 (n xs h1)) (fun _ _ z => z.el L1) (fun _ _ z => z))
end
def f1 (f : PV → M PV) : List PV → M PV
  | [x] => f x
  | _ => M.stuck
theorem nox_f1 {f : PV → M PV} (n : NoX1 f) : NoXs (f1 f) := fun xs h => by
  match xs with
  | [] => exact fun e h' q => by cases q
  | [x] => exact n x h
  | _ :: _ :: _ => exact fun e h' q => by cases q
theorem Reps.one {K : PySem.W.Frag} {O : Addr → Prop} {γ : List Addr} {H : Hp} {x : PV} {vs : List V} (r : Reps K O γ H [x] vs) : ∃ v, vs = [v] ∧ Rep K O γ H x v := by
  cases r with
  | cons r s => cases s; exact ⟨_, rfl, r⟩
theorem Reps.twoR {K : PySem.W.Frag} {O : Addr → Prop} {γ : List Addr} {H : Hp} {x y : PV} {vs : List V} (r : Reps K O γ H [x, y] vs) : ∃ v w, vs = [v, w] ∧ Rep K O γ H x v ∧ Rep K O γ H y w := by
  cases r with
  | cons r s =>
    cases s with
    | cons r' s => cases s; exact ⟨_, _, rfl, r, r'⟩
theorem cs_f1 {K : PySem.W.Frag} {r : List V → Hp → VK → Prop} {f : PV → M PV} (q : ∀ F γ ω h H x v Q, Cells K γ H h → (∀ a, Ob F γ ω a → H a ≠ none) → Rep K (Ob F γ ω) γ H x v → post (f x h) (OutV K F ω γ H Q) (fun _ _ => False) → r [v] H Q) : CallS K r (f1 f) := by
  intro F γ ω h H xs vs Q C B rs p
  match xs, rs, p with
  | [], _, p => exact p.elim
  | [x], rs, p =>
    obtain ⟨v, rfl, rv⟩ := rs.one
    exact q F γ ω h H x v Q C B rv p
  | _ :: _ :: _, _, p => exact p.elim
def f2 (f : PV → PV → M PV) : List PV → M PV
  | [x, y] => f x y
  | _ => M.stuck
theorem nox_f2 {f : PV → PV → M PV} (n : NoX2 f) : NoXs (f2 f) := fun xs h => by
  match xs with
  | [] => exact fun e h' q => by cases q
  | [_] => exact fun e h' q => by cases q
  | [x, y] => exact n x y h
  | _ :: _ :: _ :: _ => exact fun e h' q => by cases q
theorem cs_f2 {K : PySem.W.Frag} {r : List V → Hp → VK → Prop} {f : PV → PV → M PV} (q : ∀ F γ ω h H x y v w Q, Cells K γ H h → (∀ a, Ob F γ ω a → H a ≠ none) → Rep K (Ob F γ ω) γ H x v → Rep K (Ob F γ ω) γ H y w → post (f x y h) (OutV K F ω γ H Q) (fun _ _ => False) → r [v, w] H Q) : CallS K r (f2 f) := by
  intro F γ ω h H xs vs Q C B rs p
  match xs, rs, p with
  | [], _, p => exact p.elim
  | [_], _, p => exact p.elim
  | [x, y], rs, p =>
    obtain ⟨v, w, rfl, rv, rw'⟩ := rs.twoR
    exact q F γ ω h H x y v w Q C B rv rw' p
  | _ :: _ :: _ :: _, _, p => exact p.elim

/-- len -/
def pLen : PV → M PV
  | .str z => if z.length ≤ sizeLine then pure (.int z.length) else M.stuck
  | .cell n => fun h => match h[n]? with
    | some xs => .ok (.int xs.length) h
    | none => .stuck
  | .lst xs => pure (.int xs.length)
  | .tup xs => pure (.int xs.length)
  | .scr xs => pure (.int xs.length)
  | .non => M.stuck
  | .bl _ => M.stuck
  | .int _ => M.stuck
theorem nox_len : NoX1 pLen := fun x h => by
  cases x <;> first | (intro e h' q; cases q; done) | skip
  · rename_i z
    show ∀ e h', (if z.length ≤ sizeLine then pure (.int z.length) else M.stuck : M PV) h ≠ .exc e h'
    split
    · exact pure_nox
    · exact fun e h' q => by cases q
  · rename_i n
    show ∀ e h', (match h[n]? with | some xs => .ok (.int xs.length) h | none => .stuck : Res PV) ≠ .exc e h'
    split <;> exact fun e h' q => by cases q
def rLenP (K : PySem.W.Frag) : List V → Hp → VK → Prop := fun xs H Q => (∃ p ys, xs = [.ref p] ∧ (SqL K H p ys ∨ SqT K H p ys) ∧ Q (.int ys.length) H) ∨ (∃ z, xs = [.str z] ∧ z.length ≤ sizeLine ∧ Q (.int z.length) H)
theorem call_lenP {X : Cx} : CallR X (.builtin "len") (rLenP X.K) := call_len_seq.or call_len_str
theorem c_len {K : PySem.W.Frag} : CallS K (rLenP K) (f1 pLen) := cs_f1 fun F γ ω h H x v Q C B rx p => by
  have sq : ∀ xs, seqOf x = some xs → post ((pure (.int xs.length) : M PV) h) (OutV K F ω γ H Q) (fun _ _ => False) → rLenP K [v] H Q := fun xs e p => by
    obtain ⟨a, vs, rfl, s, r⟩ := rx.seq e
    refine .inl ⟨a, vs, rfl, s, ?_⟩
    rw [← r.length]
    exact OutV.now p C (.int _)
  cases x with
  | non => exact p.elim
  | bl _ => exact p.elim
  | int _ => exact p.elim
  | tup xs => exact sq xs rfl p
  | lst xs => exact sq xs rfl p
  | scr xs => exact sq xs rfl p
  | str z =>
    have p : post ((if z.length ≤ sizeLine then pure (.int z.length) else M.stuck : M PV) h) (OutV K F ω γ H Q) (fun _ _ => False) := p
    split at p
    · rename_i hl
      cases rx
      exact .inr ⟨z, rfl, hl, OutV.now p C (.int _)⟩
    · exact p.elim
  | cell n =>
    have p : post (match h[n]? with | some xs => .ok (.int xs.length) h | none => .stuck : Res PV) (OutV K F ω γ H Q) (fun _ _ => False) := p
    split at p
    · rename_i xs e
      cases rx with
      | cell g =>
        obtain ⟨vs, e3, r⟩ := C.pl n _ xs g e
        refine .inl ⟨_, vs, rfl, .inl (SqL.of e3), ?_⟩
        rw [← r.length]
        exact OutV.now p C (.int _)
    · exact p.elim
/-- abs -/
def pAbs : PV → M PV
  | .int i => pure (.int (if i < 0 then -i else i))
  | _ => M.stuck
theorem nox_abs : NoX1 pAbs := fun x h => by cases x <;> (intro e h' q; cases q)
theorem c_abs {K : PySem.W.Frag} : CallS K (fun xs H Q => ∃ i, xs = [V.int i] ∧ Q (.int (if i < 0 then -i else i)) H) (f1 pAbs) := cs_f1 fun F γ ω h H x v Q C B rx p => by
  cases x <;> first | exact p.elim | skip
  cases rx
  exact ⟨_, rfl, OutV.now p C (.int _)⟩
/-- max, min of two ints -/
def pMax2 : PV → PV → M PV
  | .int i, .int j => pure (.int (if j > i then j else i))
  | _, _ => M.stuck
def pMin2 : PV → PV → M PV
  | .int i, .int j => pure (.int (if j < i then j else i))
  | _, _ => M.stuck
theorem nox_max2 : NoX2 pMax2 := fun x y h => by cases x <;> cases y <;> (intro e h' q; cases q)
theorem nox_min2 : NoX2 pMin2 := fun x y h => by cases x <;> cases y <;> (intro e h' q; cases q)
theorem c_max2 {K : PySem.W.Frag} : CallS K (fun xs H Q => ∃ i j, xs = [V.int i, V.int j] ∧ Q (.int (if j > i then j else i)) H) (f2 pMax2) := cs_f2 fun F γ ω h H x y v w Q C B rx ry p => by
  cases x <;> first | exact p.elim | skip
  cases y <;> first | exact p.elim | skip
  cases rx; cases ry
  exact ⟨_, _, rfl, OutV.now p C (.int _)⟩
theorem c_min2 {K : PySem.W.Frag} : CallS K (fun xs H Q => ∃ i j, xs = [V.int i, V.int j] ∧ Q (.int (if j < i then j else i)) H) (f2 pMin2) := cs_f2 fun F γ ω h H x y v w Q C B rx ry p => by
  cases x <;> first | exact p.elim | skip
  cases y <;> first | exact p.elim | skip
  cases rx; cases ry
  exact ⟨_, _, rfl, OutV.now p C (.int _)⟩
/-- int(x) -/
def pInt : PV → M PV
  | .int i => pure (.int i)
  | .bl k => pure (.int (if k then 1 else 0))
  | _ => M.stuck
theorem nox_int : NoX1 pInt := fun x h => by cases x <;> (intro e h' q; cases q)
theorem c_int {K : PySem.W.Frag} : CallS K (fun xs H Q => (∃ i, xs = [V.int i] ∧ Q (.int i) H) ∨ ∃ k, xs = [V.bl k] ∧ Q (.int (if k then 1 else 0)) H) (f1 pInt) := cs_f1 fun F γ ω h H x v Q C B rx p => by
  cases x <;> first | exact p.elim | skip
  · cases rx; exact .inr ⟨_, rfl, OutV.now p C (.int _)⟩
  · cases rx; exact .inl ⟨_, rfl, OutV.now p C (.int _)⟩
/-- all, any of a list of bools -/
def blsOf : List PV → Option (List Bool)
  | [] => some []
  | .bl b :: r => (blsOf r).map (b :: ·)
  | _ :: _ => none
theorem blsOf_eq : ∀ {xs : List PV} {bs : List Bool}, blsOf xs = some bs → xs = bs.map PV.bl
  | [], _, e => by cases e; rfl
  | x :: r, bs, e => by
    cases x <;> first | (cases e; done) | skip
    unfold blsOf at e
    cases q : blsOf r with
    | none => rw [q] at e; cases e
    | some cs =>
      rw [q] at e; cases e
      rw [blsOf_eq q]; rfl
theorem blsOf_map : ∀ (bs : List Bool), blsOf (bs.map PV.bl) = some bs
  | [] => rfl
  | b :: r => by show (blsOf (r.map PV.bl)).map (b :: ·) = _; rw [blsOf_map r]; rfl
def pAll : PV → M PV
  | .lst xs => oM ((blsOf xs).map fun bs => .bl (bs.all id))
  | _ => M.stuck
def pAny : PV → M PV
  | .lst xs => oM ((blsOf xs).map fun bs => .bl (bs.any id))
  | _ => M.stuck
theorem nox_all : NoX1 pAll := fun x h => by cases x <;> first | exact oM_nox | (intro e h' q; cases q)
theorem nox_any : NoX1 pAny := fun x h => by cases x <;> first | exact oM_nox | (intro e h' q; cases q)
theorem c_all {K : PySem.W.Frag} : CallS K (rAll K) (f1 pAll) := cs_f1 fun F γ ω h H x v Q C B rx p => by
  cases x <;> first | exact p.elim | skip
  rename_i xs
  obtain ⟨q, e, p⟩ := oM_post p
  cases e2 : blsOf xs with
  | none => rw [e2] at e; cases e
  | some bs =>
    rw [e2] at e; cases e
    cases rx with
    | lst s o r =>
      rw [blsOf_eq e2] at r
      have := r.bls
      subst this
      exact ⟨_, bs, rfl, SqL.of s, OutV.now p C (.bl _)⟩
theorem c_any {K : PySem.W.Frag} : CallS K (rAny K) (f1 pAny) := cs_f1 fun F γ ω h H x v Q C B rx p => by
  cases x <;> first | exact p.elim | skip
  rename_i xs
  obtain ⟨q, e, p⟩ := oM_post p
  cases e2 : blsOf xs with
  | none => rw [e2] at e; cases e
  | some bs =>
    rw [e2] at e; cases e
    cases rx with
    | lst s o r =>
      rw [blsOf_eq e2] at r
      have := r.bls
      subst this
      exact ⟨_, bs, rfl, SqL.of s, OutV.now p C (.bl _)⟩
/-- sum, max, min of a list of ints -/
def intsOf : List PV → Option (List Int)
  | [] => some []
  | .int b :: r => (intsOf r).map (b :: ·)
  | _ :: _ => none
theorem intsOf_eq : ∀ {xs : List PV} {bs : List Int}, intsOf xs = some bs → xs = bs.map PV.int
  | [], _, e => by cases e; rfl
  | x :: r, bs, e => by
    cases x <;> first | (cases e; done) | skip
    unfold intsOf at e
    cases q : intsOf r with
    | none => rw [q] at e; cases e
    | some cs =>
      rw [q] at e; cases e
      rw [intsOf_eq q]; rfl
theorem intsOf_map : ∀ (bs : List Int), intsOf (bs.map PV.int) = some bs
  | [] => rfl
  | b :: r => by show (intsOf (r.map PV.int)).map (b :: ·) = _; rw [intsOf_map r]; rfl
def pSum : PV → M PV
  | .lst xs => oM ((intsOf xs).map fun ns => .int ns.sum)
  | .tup xs => oM ((intsOf xs).map fun ns => .int ns.sum)
  | _ => M.stuck
theorem nox_sum : NoX1 pSum := fun x h => by cases x <;> first | exact oM_nox | (intro e h' q; cases q)
def rSumT (K : PySem.W.Frag) : List V → Hp → VK → Prop := fun vs H Q => ∃ (a : Addr) (ns : List Int), vs = [V.ref a] ∧ SqT K H a (ns.map V.int) ∧ Q (.int ns.sum) H
theorem cr_sumT {X : Cx} (hc : X.calm = true) : CallR X (.builtin "sum") (rSumT X.K) := by
  intro pins s σ H vs us Q I r hh
  obtain ⟨a, ns, rfl, hs, q⟩ := hh
  obtain ⟨its, rv, tp, _⟩ := I.tuple hs
  rw [Vals.ref1 r]
  obtain ⟨zs, ez⟩ := rv.ints.allInts.items
  have en : numsOf (intItems zs).toList = ns := by rw [← ez]; exact rv.ints.numsOf
  rw [nums_intItems] at en
  have tp2 : s.heap.IsTuple a (intItems zs) := by rw [← ez]; exact tp
  refine PySem.W.ktm_sumG (I.ok.hd hc) tp2 fun h' tk t' hk => ?_
  rw [preSum_eq, List.take_of_length_le (by simp), en]
  exact ⟨.int _, H, I.kept hk, ⟨_, rfl⟩, q⟩
def rSumX (K : PySem.W.Frag) : List V → Hp → VK → Prop := fun vs H Q => rSum K vs H Q ∨ rSumT K vs H Q
theorem cr_sumX {X : Cx} (hc : X.calm = true) : CallR X (.builtin "sum") (rSumX X.K) := (L2.cr_sum hc).or (cr_sumT hc)
theorem c_sum {K : PySem.W.Frag} : CallS K (rSumX K) (f1 pSum) := cs_f1 fun F γ ω h H x v Q C B rx p => by
  cases x <;> first | exact p.elim | skip
  all_goals
    rename_i xs
    obtain ⟨q, e, p⟩ := oM_post p
    cases e2 : intsOf xs with
    | none => rw [e2] at e; cases e
    | some ns =>
      rw [e2] at e; cases e
      cases rx
      rename_i r
      rw [intsOf_eq e2] at r
      have := r.ints
      subst this
      first
        | exact .inl ⟨_, ns, rfl, SqL.of (by assumption), OutV.now p C (.int _)⟩
        | exact .inr ⟨_, ns, rfl, by assumption, OutV.now p C (.int _)⟩
def maxI : List Int → Int
  | [] => 0
  | x :: r => r.foldl (fun a b => if b > a then b else a) x
def minI : List Int → Int
  | [] => 0
  | x :: r => r.foldl (fun a b => if b < a then b else a) x
theorem foldl_max : ∀ (r : List Int) (x : Int), x ≤ r.foldl (fun a b => if b > a then b else a) x ∧ (∀ y ∈ r, y ≤ r.foldl (fun a b => if b > a then b else a) x) ∧ (r.foldl (fun a b => if b > a then b else a) x = x ∨ r.foldl (fun a b => if b > a then b else a) x ∈ r)
  | [], x => ⟨Int.le_refl _, fun _ h => (nomatch h), .inl rfl⟩
  | y :: r, x => by
    obtain ⟨h1, h2, h3⟩ := foldl_max r (if y > x then y else x)
    rw [List.foldl_cons]
    refine ⟨?_, fun z hz => ?_, ?_⟩
    · split at h1 <;> rename_i q <;> simp only [q] <;> simp at * <;> omega
    · rcases List.mem_cons.mp hz with rfl | hz
      · split at h1 <;> rename_i q <;> simp only [q] <;> simp at * <;> omega
      · exact h2 z hz
    · rcases h3 with h3 | h3
      · by_cases q : y > x
        · rw [if_pos q] at h3 ⊢; exact .inr (by rw [h3]; exact List.mem_cons_self)
        · rw [if_neg q] at h3 ⊢; exact .inl h3
      · exact .inr (List.mem_cons_of_mem _ h3)
theorem foldl_min : ∀ (r : List Int) (x : Int), r.foldl (fun a b => if b < a then b else a) x ≤ x ∧ (∀ y ∈ r, r.foldl (fun a b => if b < a then b else a) x ≤ y) ∧ (r.foldl (fun a b => if b < a then b else a) x = x ∨ r.foldl (fun a b => if b < a then b else a) x ∈ r)
  | [], x => ⟨Int.le_refl _, fun _ h => (nomatch h), .inl rfl⟩
  | y :: r, x => by
    obtain ⟨h1, h2, h3⟩ := foldl_min r (if y < x then y else x)
    rw [List.foldl_cons]
    refine ⟨?_, fun z hz => ?_, ?_⟩
    · split at h1 <;> rename_i q <;> simp only [q] <;> simp at * <;> omega
    · rcases List.mem_cons.mp hz with rfl | hz
      · split at h1 <;> rename_i q <;> simp only [q] <;> simp at * <;> omega
      · exact h2 z hz
    · rcases h3 with h3 | h3
      · by_cases q : y < x
        · rw [if_pos q] at h3 ⊢; exact .inr (by rw [h3]; exact List.mem_cons_self)
        · rw [if_neg q] at h3 ⊢; exact .inl h3
      · exact .inr (List.mem_cons_of_mem _ h3)
theorem maxI_mem {ns : List Int} (h : ns ≠ []) : maxI ns ∈ ns := by
  cases ns with
  | nil => exact absurd rfl h
  | cons x r =>
    rcases (foldl_max r x).2.2 with q | q
    · show List.foldl _ x r ∈ _; rw [q]; exact List.mem_cons_self
    · exact List.mem_cons_of_mem _ q
theorem maxI_ge {ns : List Int} : ∀ y ∈ ns, y ≤ maxI ns := by
  cases ns with
  | nil => exact fun y h => (nomatch h)
  | cons x r => exact fun y h => (List.mem_cons.mp h).elim (fun e => by rw [e]; exact (foldl_max r x).1) ((foldl_max r x).2.1 y)
theorem minI_mem {ns : List Int} (h : ns ≠ []) : minI ns ∈ ns := by
  cases ns with
  | nil => exact absurd rfl h
  | cons x r =>
    rcases (foldl_min r x).2.2 with q | q
    · show List.foldl _ x r ∈ _; rw [q]; exact List.mem_cons_self
    · exact List.mem_cons_of_mem _ q
theorem minI_le {ns : List Int} : ∀ y ∈ ns, minI ns ≤ y := by
  cases ns with
  | nil => exact fun y h => (nomatch h)
  | cons x r => exact fun y h => (List.mem_cons.mp h).elim (fun e => by rw [e]; exact (foldl_min r x).1) ((foldl_min r x).2.1 y)
def ne0 {α : Type} : List α → Option (List α)
  | [] => none
  | x :: r => some (x :: r)
theorem maxOf_is : ∀ (ns : List Int) (x : Int), PySem.W.maxOf x ns ∈ x :: ns ∧ ∀ y ∈ x :: ns, y ≤ PySem.W.maxOf x ns
  | [], x => ⟨by simp [PySem.W.maxOf], by simp [PySem.W.maxOf]⟩
  | n :: ns, x => by
    obtain ⟨z, hz, z1, z2, z3⟩ : ∃ z, (if decide (x < n) = true then n else x) = z ∧ (z = x ∨ z = n) ∧ x ≤ z ∧ n ≤ z := by
      by_cases c : x < n
      · exact ⟨n, by simp [c], .inr rfl, by omega, by omega⟩
      · exact ⟨x, by simp [c], .inl rfl, by omega, by omega⟩
    have e : PySem.W.maxOf x (n :: ns) = PySem.W.maxOf z ns := by rw [← hz]; rfl
    obtain ⟨h1, h2⟩ := maxOf_is ns z
    rw [e]
    have h3 := h2 z List.mem_cons_self
    refine ⟨?_, fun y hy => ?_⟩
    · rcases List.mem_cons.mp h1 with h | h
      · rw [h]; rcases z1 with z1 | z1 <;> simp [z1]
      · simp [h]
    · rcases List.mem_cons.mp hy with h | h
      · omega
      · rcases List.mem_cons.mp h with h | h
        · omega
        · exact h2 y (List.mem_cons_of_mem _ h)
theorem minOf_is : ∀ (ns : List Int) (x : Int), PySem.W.minOf x ns ∈ x :: ns ∧ ∀ y ∈ x :: ns, PySem.W.minOf x ns ≤ y
  | [], x => ⟨by simp [PySem.W.minOf], by simp [PySem.W.minOf]⟩
  | n :: ns, x => by
    obtain ⟨z, hz, z1, z2, z3⟩ : ∃ z, (if decide (n < x) = true then n else x) = z ∧ (z = x ∨ z = n) ∧ z ≤ x ∧ z ≤ n := by
      by_cases c : n < x
      · exact ⟨n, by simp [c], .inr rfl, by omega, by omega⟩
      · exact ⟨x, by simp [c], .inl rfl, by omega, by omega⟩
    have e : PySem.W.minOf x (n :: ns) = PySem.W.minOf z ns := by rw [← hz]; rfl
    obtain ⟨h1, h2⟩ := minOf_is ns z
    rw [e]
    have h3 := h2 z List.mem_cons_self
    refine ⟨?_, fun y hy => ?_⟩
    · rcases List.mem_cons.mp h1 with h | h
      · rw [h]; rcases z1 with z1 | z1 <;> simp [z1]
      · simp [h]
    · rcases List.mem_cons.mp hy with h | h
      · omega
      · rcases List.mem_cons.mp h with h | h
        · omega
        · exact h2 y (List.mem_cons_of_mem _ h)
def rMaxT (K : PySem.W.Frag) : List V → Hp → VK → Prop := fun vs H Q => ∃ (a : Addr) (ns : List Int), vs = [V.ref a] ∧ SqT K H a (ns.map V.int) ∧ 0 < ns.length ∧ ∀ m, m ∈ ns → (∀ y, y ∈ ns → y ≤ m) → Q (.int m) H
def rMinT (K : PySem.W.Frag) : List V → Hp → VK → Prop := fun vs H Q => ∃ (a : Addr) (ns : List Int), vs = [V.ref a] ∧ SqT K H a (ns.map V.int) ∧ 0 < ns.length ∧ ∀ m, m ∈ ns → (∀ y, y ∈ ns → m ≤ y) → Q (.int m) H
theorem cr_maxT {X : Cx} (hc : X.calm = true) (hu : X.A.units + 64 < cLine) : CallR X (.builtin "max") (rMaxT X.K) := by
  intro pins s σ H vs us Q I r h
  obtain ⟨a, ns, rfl, hs, hne, q⟩ := h
  obtain ⟨its, rv, hl, _⟩ := I.tuple hs
  rw [Vals.ref1 r]
  cases ns with
  | nil => cases hne
  | cons x xs =>
    refine PySem.W.max_tuple_datum (α := Int) (x := x) (xs := xs) (I.ok.hd hc) hl ⟨[], IntsAre.reads s.heap rv.ints⟩ (by show X.A.units + 1 + 0 < cLine; omega) fun i v h' tk hi hr hk => ?_
    obtain ⟨as, hr⟩ := hr
    obtain ⟨h1, h2⟩ := maxOf_is xs x
    have hr : Reads h' v (.int (PySem.W.maxOf x xs)) as := hr
    cases hr with
    | int _ t => exact ⟨.int _, H, I.kept hk, ⟨_, rfl⟩, q _ h1 h2⟩
theorem cr_minT {X : Cx} (hc : X.calm = true) (hu : X.A.units + 64 < cLine) : CallR X (.builtin "min") (rMinT X.K) := by
  intro pins s σ H vs us Q I r h
  obtain ⟨a, ns, rfl, hs, hne, q⟩ := h
  obtain ⟨its, rv, hl, _⟩ := I.tuple hs
  rw [Vals.ref1 r]
  cases ns with
  | nil => cases hne
  | cons x xs =>
    refine PySem.W.min_tuple_datum (α := Int) (x := x) (xs := xs) (I.ok.hd hc) hl ⟨[], IntsAre.reads s.heap rv.ints⟩ (by show X.A.units + 1 + 0 < cLine; omega) fun i v h' tk hi hr hk => ?_
    obtain ⟨as, hr⟩ := hr
    obtain ⟨h1, h2⟩ := minOf_is xs x
    have hr : Reads h' v (.int (PySem.W.minOf x xs)) as := hr
    cases hr with
    | int _ t => exact ⟨.int _, H, I.kept hk, ⟨_, rfl⟩, q _ h1 h2⟩
def pMax : PV → M PV
  | .lst xs => oM ((intsOf xs).bind fun ns => if ns = [] then none else some (.int (maxI ns)))
  | .tup xs => oM ((intsOf xs).bind fun ns => if ns = [] then none else some (.int (maxI ns)))
  | _ => M.stuck
def pMin : PV → M PV
  | .lst xs => oM ((intsOf xs).bind fun ns => if ns = [] then none else some (.int (minI ns)))
  | .tup xs => oM ((intsOf xs).bind fun ns => if ns = [] then none else some (.int (minI ns)))
  | _ => M.stuck
theorem nox_max : NoX1 pMax := fun x h => by cases x <;> first | exact oM_nox | (intro e h' q; cases q)
theorem nox_min : NoX1 pMin := fun x h => by cases x <;> first | exact oM_nox | (intro e h' q; cases q)
def rMaxX (K : PySem.W.Frag) : List V → Hp → VK → Prop := fun xs H Q => rMax K xs H Q ∨ rMaxT K xs H Q
theorem c_max {K : PySem.W.Frag} : CallS K (rMaxX K) (f1 pMax) := cs_f1 fun F γ ω h H x v Q C B rx p => by
  have go : ∀ xs, post (oM ((intsOf xs).bind fun ns => if ns = [] then none else some (.int (maxI ns))) h) (OutV K F ω γ H Q) (fun _ _ => False) → ∃ ns : List Int, xs = ns.map PV.int ∧ ns ≠ [] ∧ OutV K F ω γ H Q (.int (maxI ns)) h := fun xs p => by
    obtain ⟨q, e, p⟩ := oM_post p
    cases e2 : intsOf xs with
    | none => rw [e2] at e; cases e
    | some ns =>
      rw [e2] at e
      have e : (if ns = [] then none else some (PV.int (maxI ns))) = some q := e
      split at e
      · cases e
      · rename_i hn
        cases e
        exact ⟨ns, intsOf_eq e2, hn, p⟩
  cases x <;> first | exact p.elim | skip
  · obtain ⟨ns, rfl, hn, p⟩ := go _ p
    cases rx with
    | tup s r =>
      have := r.ints
      subst this
      refine .inr ⟨_, ns, rfl, s, List.length_pos_iff.mpr hn, fun m h1 h2 => ?_⟩
      have : m = maxI ns := Int.le_antisymm (maxI_ge m h1) (h2 _ (maxI_mem hn))
      rw [this]
      exact OutV.now p C (.int _)
  · obtain ⟨ns, rfl, hn, p⟩ := go _ p
    cases rx with
    | lst s o r =>
      have := r.ints
      subst this
      refine .inl ⟨_, ns, rfl, SqL.of s, List.length_pos_iff.mpr hn, fun m h1 h2 => ?_⟩
      have : m = maxI ns := Int.le_antisymm (maxI_ge m h1) (h2 _ (maxI_mem hn))
      rw [this]
      exact OutV.now p C (.int _)
theorem cr_maxX {X : Cx} (hc : X.calm = true) (hu : X.A.units + 64 < cLine) : CallR X (.builtin "max") (rMaxX X.K) := (L2.cr_max hc).or (cr_maxT hc hu)
def rMinX (K : PySem.W.Frag) : List V → Hp → VK → Prop := fun xs H Q => rMin K xs H Q ∨ rMinT K xs H Q
theorem c_min {K : PySem.W.Frag} : CallS K (rMinX K) (f1 pMin) := cs_f1 fun F γ ω h H x v Q C B rx p => by
  have go : ∀ xs, post (oM ((intsOf xs).bind fun ns => if ns = [] then none else some (.int (minI ns))) h) (OutV K F ω γ H Q) (fun _ _ => False) → ∃ ns : List Int, xs = ns.map PV.int ∧ ns ≠ [] ∧ OutV K F ω γ H Q (.int (minI ns)) h := fun xs p => by
    obtain ⟨q, e, p⟩ := oM_post p
    cases e2 : intsOf xs with
    | none => rw [e2] at e; cases e
    | some ns =>
      rw [e2] at e
      have e : (if ns = [] then none else some (PV.int (minI ns))) = some q := e
      split at e
      · cases e
      · rename_i hn
        cases e
        exact ⟨ns, intsOf_eq e2, hn, p⟩
  cases x <;> first | exact p.elim | skip
  · obtain ⟨ns, rfl, hn, p⟩ := go _ p
    cases rx with
    | tup s r =>
      have := r.ints
      subst this
      refine .inr ⟨_, ns, rfl, s, List.length_pos_iff.mpr hn, fun m h1 h2 => ?_⟩
      have : m = minI ns := Int.le_antisymm (h2 _ (minI_mem hn)) (minI_le m h1)
      rw [this]
      exact OutV.now p C (.int _)
  · obtain ⟨ns, rfl, hn, p⟩ := go _ p
    cases rx with
    | lst s o r =>
      have := r.ints
      subst this
      refine .inl ⟨_, ns, rfl, SqL.of s, List.length_pos_iff.mpr hn, fun m h1 h2 => ?_⟩
      have : m = minI ns := Int.le_antisymm (h2 _ (minI_mem hn)) (minI_le m h1)
      rw [this]
      exact OutV.now p C (.int _)
theorem cr_minX {X : Cx} (hc : X.calm = true) (hu : X.A.units + 64 < cLine) : CallR X (.builtin "min") (rMinX X.K) := (L2.cr_min hc).or (cr_minT hc hu)
/-- tuple(x) -/
def pTuple : PV → M PV
  | .lst xs => pure (.tup xs)
  | .tup xs => pure (.tup xs)
  | .scr xs => pure (.tup xs)
  | _ => M.stuck
theorem nox_tuple : NoX1 pTuple := fun x h => by cases x <;> (intro e h' q; cases q)
def rTupleOf (K : PySem.W.Frag) : List V → Hp → VK → Prop := fun xs H Q => ∃ p ys, xs = [V.ref p] ∧ ((SqL K H p ys ∧ ∀ l, H l = none → Q (.ref l) (upd H l (.tup ys))) ∨ (SqT K H p ys ∧ Q (.ref p) H))
theorem c_tuple {K : PySem.W.Frag} : CallS K (rTupleOf K) (f1 pTuple) := cs_f1 fun F γ ω h H x v Q C B rx p => by
  cases x <;> first | exact p.elim | skip
  · cases rx with
    | tup s r => exact ⟨_, _, rfl, .inr ⟨s, OutV.now p C (.tup s r)⟩⟩
  · cases rx with
    | lst s o r => exact ⟨_, _, rfl, .inl ⟨SqL.of s, fun l nl => OutV.nowTup p C r l nl⟩⟩
  · cases rx with
    | scr s r => exact ⟨_, _, rfl, .inl ⟨s.sq, fun l nl => OutV.nowTup p C r l nl⟩⟩
/-! ### isinstance with a built-in class -/
inductive Ty5 where
  | int | bool | str | tuple | list | dict
  deriving DecidableEq
def Ty5.name : Ty5 → String
  | .int => "int"
  | .bool => "bool"
  | .str => "str"
  | .tuple => "tuple"
  | .list => "list"
  | .dict => "dict"
def isa (T : Ty5) : PV → Bool
  | .non => false
  | .bl _ => T == .bool || T == .int
  | .int _ => T == .int
  | .str _ => T == .str
  | .tup _ => T == .tuple
  | .lst _ => T == .list
  | .cell _ => T == .list
  | .scr _ => T == .list
def kitT : Ty5 → Ty5 → Bool := fun a T => a == T || (a == .bool && T == .int)
theorem kit_all {K : PySem.W.Frag} : ∀ a T : Ty5, PySem.W.kitOne K (.type a.name) (.type T.name) = some (kitT a T) := fun a T => by
  cases a <;> cases T <;> exact kit_ty (by decide +kernel)
theorem kit_non {K : PySem.W.Frag} : ∀ T : Ty5, PySem.W.kitOne K (.type "NoneType") (.type T.name) = some false := fun T => by
  cases T <;> exact kit_ty (by decide +kernel)
theorem isa_ok {K : PySem.W.Frag} {O : Addr → Prop} {γ : List Addr} {H : Hp} {h : Hc} (C : Cells K γ H h) {p : PV} {v : V} (r : Rep K O γ H p v) (T : Ty5) : ∃ t, TyX K H v t ∧ PySem.W.kitOne K t (.type T.name) = some (isa T p) := by
  have tt : ∀ a : Ty5, kitT a T = isa T p → ∃ t : Value, t = .type a.name ∧ PySem.W.kitOne K t (.type T.name) = some (isa T p) := fun a e => ⟨_, rfl, by rw [← e]; exact kit_all a T⟩
  cases r with
  | non => exact ⟨_, .base .non, kit_non T⟩
  | bl b => exact ⟨_, .base (.bl b), by rw [show isa T (.bl b) = kitT .bool T by cases T <;> rfl]; exact kit_all .bool T⟩
  | int b => exact ⟨_, .base (.int b), by rw [show isa T (.int b) = kitT .int T by cases T <;> rfl]; exact kit_all .int T⟩
  | str b => exact ⟨_, .base (.str b), by rw [show isa T (.str b) = kitT .str T by cases T <;> rfl]; exact kit_all .str T⟩
  | @tup a vs xs s r =>
    have e : isa T (.tup xs) = kitT .tuple T := by cases T <;> rfl
    rw [e]
    rcases s with (s | ⟨o, s⟩) | ⟨o, its, n, s, c, _⟩
    · exact ⟨_, .base (.tup s), kit_all .tuple T⟩
    · exact ⟨_, .fTuple s, kit_all .tuple T⟩
    · exact ⟨_, .kTuple s c, kit_all .tuple T⟩
  | @lst a vs xs s o r => exact ⟨_, .base (.lst s), by rw [show isa T (.lst xs) = kitT .list T by cases T <;> rfl]; exact kit_all .list T⟩
  | @cell a n g =>
    obtain ⟨vs, s⟩ := C.mem (List.mem_of_getElem? g)
    exact ⟨_, .base (.lst s), by rw [show isa T (.cell n) = kitT .list T by cases T <;> rfl]; exact kit_all .list T⟩
  | @scr a vs xs s r =>
    have e : isa T (.scr xs) = kitT .list T := by cases T <;> rfl
    rw [e]
    rcases s with ⟨o, s⟩ | ⟨o, its, n, s, c, _⟩
    · exact ⟨_, .base (.frz s), kit_all .list T⟩
    · exact ⟨_, .kList s c, kit_all .list T⟩
def eIsa (T : Ty5) (m : EX) : EX := fun ρ => m ρ >>= fun x => pure (.bl (isa T x))
section
variable {X : Cx} {W : WX} {e : Expr} {m : EX} {p p2 pos : Pos} {x : Str}
theorem se_isa (T : Ty5) (hg : Gl X "isinstance") (hm : X.mg "isinstance" = none) (hg2 : Gl X x) (hm2 : X.mg x = none) (hv2 : bootBuiltins x = some (.type T.name)) (s : SE X W e m) (hv : bootBuiltins "isinstance" = some (.builtin "isinstance"))
    (hn2 : x ≠ "__name__" := by decide) (hd2 : (x == ("__debug__" : Str)) = false := by decide) (he : starEach [e, .Name x p2] X.env = (false, eval e X.env) :: starEach [.Name x p2] X.env := by rfl)
    (hs2 : starEach [.Name x p2] X.env = (false, eval (.Name x p2) X.env) :: starEach [] X.env := by rfl) (hpl : (backTo pos (starEach [.Name x p2] X.env)).any (·.1) = false := by rfl) :
    SE X W (.Call (.Name "isinstance" p) [e, .Name x p2] [] pos) (eIsa T m) := by
  obtain ⟨t, pe, q⟩ := s.ex
  refine ⟨_, pe_callB call_isi hg hm hv (pa_cons pe (pa_cons (pe_bltn hg2 hm2 hv2 (v := V.ty T.name) rfl hn2 hd2) pa_nil hs2) he) (by decide) (by decide) he hpl, fun F γ ω ρ h σ H Q R C p => ?_⟩
  unfold eIsa at p
  rw [post_bind] at p
  refine q F γ ω ρ h σ H _ R C (post_mono p (fun x h1 p1 γ1 H1 v L1 C1 r1 => ?_) (fun _ _ x => x))
  obtain ⟨t, ty, k⟩ := isa_ok C1 r1 T
  exact ⟨v, .ty T.name, t, .type T.name, isa T x, rfl, .ty _, ty, k, p1 γ1 H1 _ L1 C1 (.bl _)⟩
end

/-! ### lists of one's own -/
section
variable {X : Cx} {W : WX} {e : Expr} {m : EX} {p p2 pos : Pos}
def oList (m : EX) : AX := fun ρ => m ρ >>= fun x => oM (seqOf x)
theorem OutO.now {K : PySem.W.Frag} {F : Addr → Prop} {ω : Nat → Option Addr} {γ : List Addr} {H : Hp} {Q : VK} {xs : List PV} {vs : List V} {h : Hc} (o : OutO K F ω γ H Q xs h) (C : Cells K γ H h) (r : Reps K (Ob F γ ω) γ H xs vs) (q : Addr) (nq : H q = none) : Q (.ref q) (upd H q (.lst vs)) := by
  have ng : q ∉ γ := fun m => by obtain ⟨_, e⟩ := C.mem m; rw [nq] at e; cases e
  refine o γ _ q vs (EL.new nq) (C.new nq) nq ng upd_same ?_
  exact r.later ⟨fun b ws e n => ⟨by rw [upd_ne (ne_of_none e nq)]; exact e, fun z => z.elim n fun z => by rw [z, nq] at e; cases e⟩, (EL.new (γ := γ) nq).nl, fun _ _ e => e⟩
theorem so_list (hg : Gl X "list") (hm : X.mg "list" = none) (hv : bootBuiltins "list" = some (.type "list")) (s : SE X W e m)
    (he : starEach [e] X.env = (false, eval e X.env) :: starEach [] X.env := by rfl) (hpl : (backTo pos (starEach [] X.env)).any (·.1) = false := by rfl) : SO X W (.Call (.Name "list" p) [e] [] pos) (oList m) := by
  obtain ⟨t, pe, q⟩ := s.ex
  refine ⟨_, pe_callTy call_list_of hg hm hv (pa_cons pe pa_nil he) (by decide) (by decide) he hpl, fun F γ ω ρ h σ H Q R C p => ?_⟩
  unfold oList at p
  rw [post_bind] at p
  refine q F γ ω ρ h σ H _ R C (post_mono p (fun x h1 p1 γ1 H1 v L1 C1 r1 => ?_) (fun _ _ x => x))
  obtain ⟨xs, e1, p1⟩ := oM_post p1
  obtain ⟨a, vs, rfl, sq, r⟩ := r1.seq e1
  exact ⟨a, vs, rfl, sq, fun l nl => OutO.now (p1.el L1) C1 r l nl⟩
/-- an operator that makes a new list -/
def oBin (f : PV → PV → M (List PV)) (a b : EX) : AX := fun ρ => a ρ >>= fun x => b ρ >>= fun y => f x y
noncomputable def lCat : PV → PV → M (List PV)
  | .lst a, .lst b => fun h => guardM (a.length + b.length ≤ sizeLine) (pure .non) h |> fun r => match r with
    | .ok _ h => .ok (a ++ b) h
    | .exc e h => .exc e h
    | .stuck => .stuck
  | _, _ => M.stuck
end

/-! ### calls of the text's own defs -/
/-- a def's promise, from its value -/
def spF (P : Program) (K : PySem.W.Frag) (mg : Str → Option Value) (n : Nat) (g : List PV → M PV) : Sp := fun vs H Q E => ∃ (F : Addr → Prop) (γ : List Addr) (h : Hc) (args : List PV), args.length = n ∧ (∀ a, F a → a ∉ γ ∧ ∃ vs, H a = some (.lst vs)) ∧
  Cells K γ H h ∧ Reps K (Ob F γ ω0) γ H args vs ∧ post (g args h) (OutV K F ω0 γ H Q) (fun ex h' => ∀ γ' H' cls d, EL γ H γ' H' → Cells K γ' H' h' → XRel mg ex cls d H' → E cls d H')
theorem ob_call {F : Addr → Prop} {γ : List Addr} {ω : Nat → Option Addr} (a : Addr) : Ob (fun a => F a ∨ ∃ i, ω i = some a) γ ω0 a ↔ Ob F γ ω a := by
  unfold Ob
  constructor
  · rintro ((h | h) | h | ⟨i, h⟩)
    · exact .inl h
    · exact .inr (.inr h)
    · exact .inr (.inl h)
    · cases h
  · rintro (h | h | h)
    · exact .inl (.inl h)
    · exact .inr (.inl h)
    · exact .inl (.inr h)
section
variable {X : Cx} {W : WX} {k : Nat} {f : Addr} {fd : FuncData} {ps : List Str} {x : Str} {p pos : Pos} {e : Expr} {es : List Expr} {m : AX} {g : List PV → M PV} {n : Nat}
def eCall (g : List PV → M PV) (n : Nat) (m : AX) : EX := fun ρ => m ρ >>= fun xs => if xs.length = n then g xs else M.stuck
theorem se_call (Fn : FnOk X.prog X.w X.K X.mg X.base (L2.CX X.prog X.w) k f fd ps (spF X.prog X.K X.mg n g)) (hr : Room k X.A) (tk : Takes X W) (hm : X.mg x = some (.ref f)) (hk : PySem.W.keepIn X.K (.ref f) = true) (hb : Binds X.K fd ps [])
    (sa : SA X W (e :: es) m) (hg : Gl X x) (hdb : (x == ("__debug__" : Str)) = false := by decide) (he : starEach (e :: es) X.env = (false, eval e X.env) :: starEach es X.env := by rfl) (hpl : (backTo pos (starEach es X.env)).any (·.1) = false := by rfl) :
    SE X W (.Call (.Name x p) (e :: es) [] pos) (eCall g n m) := by
  obtain ⟨t, pa, qa⟩ := sa.ex
  refine ⟨_, pe_callS Fn hr hg hm hk hb (fun σ => passAt tk σ) pa hdb he hpl, fun F γ ω ρ h σ H Q R C p => ?_⟩
  unfold eCall at p
  rw [post_bind] at p
  refine qa F γ ω ρ h σ H _ R C (post_mono p (fun xs h1 p1 γ1 H1 vs L1 C1 r1 => ?_) (fun _ _ x => x))
  split at p1
  · rename_i hl
    have R1 := R.el L1
    refine ⟨fun a => F a ∨ ∃ i, ω i = some a, γ1, h1, xs, hl, fun a q => ?_, C1, r1.bar fun a _ _ m => (ob_call a).mp m, post_mono p1 (fun y h2 o γ2 H2 v L2 C2 r2 => ?_) (fun ex h2 o γ2 H2 cls d L2 C2 xr => ?_)⟩
    · rcases q with q | ⟨i, q⟩
      · exact R1.fo a q
      · exact R1.oc i a q
    · exact o γ2 H2 v (L1.trans L2) C2 (r2.bar fun a _ _ m => (ob_call a).mpr m)
    · exact o γ2 H2 cls d (L1.trans L2) C2 xr
  · exact p1.elim
end

/-! ### statements -/
inductive Fl where
  | nx (ρ : En) | rt (p : PV) | bk (ρ : En) | ct (ρ : En)
abbrev SX := En → M Fl
def OutS (K : PySem.W.Frag) (F : Addr → Prop) (γ : List Addr) (ω : Nat → Option Addr) (H : Hp) (D : Ends) : Fl → Hc → Prop
  | .nx ρ', h' => ∀ γ' ω' H' σ', SL γ ω H γ' ω' H' → Cells K γ' H' h' → ER K F γ' ω' H' ρ' σ' → D.nx σ' H'
  | .bk ρ', h' => ∀ γ' ω' H' σ', SL γ ω H γ' ω' H' → Cells K γ' H' h' → ER K F γ' ω' H' ρ' σ' → D.bk σ' H'
  | .ct ρ', h' => ∀ γ' ω' H' σ', SL γ ω H γ' ω' H' → Cells K γ' H' h' → ER K F γ' ω' H' ρ' σ' → D.ct σ' H'
  | .rt p, h' => ∀ γ' ω' H' v, SL γ ω H γ' ω' H' → Cells K γ' H' h' → Rep K (Ob F γ' ω0) γ' H' p v → D.rt v H'
def OutSX (K : PySem.W.Frag) (W : WX) (mg : Str → Option Value) (γ : List Addr) (ω : Nat → Option Addr) (H : Hp) : PExc → Hc → Prop := fun ex h' => ∀ γ' ω' H' cls d σ', SL γ ω H γ' ω' H' → Cells K γ' H' h' → XRel mg ex cls d H' → W cls d σ' H'
theorem OutS.sl {K : PySem.W.Frag} {F : Addr → Prop} {γ γ1 : List Addr} {ω ω1 : Nat → Option Addr} {H H1 : Hp} {D : Ends} (L : SL γ ω H γ1 ω1 H1) : ∀ {f : Fl} {h : Hc}, OutS K F γ ω H D f h → OutS K F γ1 ω1 H1 D f h
  | .nx _, _, o => fun γ' ω' H' σ' L' => o γ' ω' H' σ' (L.trans L')
  | .bk _, _, o => fun γ' ω' H' σ' L' => o γ' ω' H' σ' (L.trans L')
  | .ct _, _, o => fun γ' ω' H' σ' L' => o γ' ω' H' σ' (L.trans L')
  | .rt _, _, o => fun γ' ω' H' σ' L' => o γ' ω' H' σ' (L.trans L')
theorem OutSX.sl {K : PySem.W.Frag} {W : WX} {mg : Str → Option Value} {γ γ1 : List Addr} {ω ω1 : Nat → Option Addr} {H H1 : Hp} {e : PExc} {h : Hc} (L : SL γ ω H γ1 ω1 H1) (o : OutSX K W mg γ ω H e h) : OutSX K W mg γ1 ω1 H1 e h := fun γ' ω' H' cls d σ' L' => o γ' ω' H' cls d σ' (L.trans L')
theorem OutSX.x {K : PySem.W.Frag} {W : WX} {mg : Str → Option Value} {γ : List Addr} {ω : Nat → Option Addr} {H : Hp} {e : PExc} {h : Hc} {σ : L2.St} (o : OutSX K W mg γ ω H e h) : OutX K W mg γ H σ e h := fun γ' H' cls d L => o γ' ω H' cls d σ L.sl
structure SS (X : Cx) (W : WX) (st : Stmt) (m : SX) : Prop where
  ex : ∃ t, PS X st t ∧ ∀ F γ ω ρ h σ H D, ER X.K F γ ω H ρ σ → Cells X.K γ H h → post (m ρ h) (OutS X.K F γ ω H D) (OutSX X.K W X.mg γ ω H) → t D σ H
structure SSs (X : Cx) (W : WX) (st : List Stmt) (m : SX) : Prop where
  ex : ∃ t, PSs X st t ∧ ∀ F γ ω ρ h σ H D, ER X.K F γ ω H ρ σ → Cells X.K γ H h → post (m ρ h) (OutS X.K F γ ω H D) (OutSX X.K W X.mg γ ω H) → t D σ H

def sNop : SX := fun ρ => pure (.nx ρ)
def sSeq (s t : SX) : SX := fun ρ => s ρ >>= fun f => match f with
  | .nx ρ' => t ρ'
  | f => pure f
def sIf (c : TX) (s t : SX) : SX := fun ρ => c ρ >>= fun k => if k = true then s ρ else t ρ
def sRet (m : EX) : SX := fun ρ => m ρ >>= fun v => pure (.rt v)
def sRetN : SX := fun _ => pure (.rt .non)
def sBreak : SX := fun ρ => pure (.bk ρ)
def sCont : SX := fun ρ => pure (.ct ρ)
def sDrop (m : EX) : SX := fun ρ => m ρ >>= fun _ => pure (.nx ρ)
section
variable {X : Cx} {W : WX} {st : Stmt} {rest : List Stmt} {m m' : SX} {e c : Expr} {me : EX} {mc : TX} {pos : Pos} {a b : List Stmt}
theorem sss_nil : SSs X W [] sNop := ⟨_, pss_nil, fun F γ ω ρ h σ H D R C p => p γ ω H σ SL.refl C R⟩
theorem ss_pass : SS X W (.Pass pos) sNop := ⟨_, ps_pass, fun F γ ω ρ h σ H D R C p => p γ ω H σ SL.refl C R⟩
theorem ss_break : SS X W (.Break pos) sBreak := ⟨_, ps_break, fun F γ ω ρ h σ H D R C p => p γ ω H σ SL.refl C R⟩
theorem ss_continue : SS X W (.Continue pos) sCont := ⟨_, ps_continue, fun F γ ω ρ h σ H D R C p => p γ ω H σ SL.refl C R⟩
theorem sss_one (s : SS X W st m) : SSs X W [st] m := let ⟨t, p, q⟩ := s.ex; ⟨t, pss_one p, q⟩
theorem sss_cons (s : SS X W st m) (r : SSs X W rest m') : SSs X W (st :: rest) (sSeq m m') := by
  obtain ⟨t, p, q⟩ := s.ex
  obtain ⟨u, p', q'⟩ := r.ex
  refine ⟨_, pss_cons p p', fun F γ ω ρ h σ H D R C p => ?_⟩
  unfold sSeq at p
  rw [post_bind] at p
  refine q F γ ω ρ h σ H _ R C (post_mono p (fun f h1 p1 => ?_) (fun _ _ x => x))
  cases f with
  | nx ρ1 => exact fun γ1 ω1 H1 σ1 L1 C1 R1 => q' F γ1 ω1 ρ1 h1 σ1 H1 D R1 C1 (post_mono p1 (fun _ _ z => z.sl L1) (fun _ _ z => z.sl L1))
  | rt _ => exact p1
  | bk _ => exact p1
  | ct _ => exact p1
theorem ss_if (sc : ST X W c mc) (sa : SSs X W a m) (sb : SSs X W b m') : SS X W (.If c a b pos) (sIf mc m m') := by
  obtain ⟨tc, pc, qc⟩ := sc.ex
  obtain ⟨ta, pa, qa⟩ := sa.ex
  obtain ⟨tb, pb, qb⟩ := sb.ex
  refine ⟨_, ps_if pc pa pb, fun F γ ω ρ h σ H D R C p => ?_⟩
  unfold sIf at p
  rw [post_bind] at p
  refine qc F γ ω ρ h σ H _ R C (post_mono p (fun k h1 p1 γ1 H1 L1 C1 => ?_) (fun _ _ x => x.x))
  cases k with
  | true => exact (if_pos rfl).mpr (qa F γ1 ω ρ h1 σ H1 D (R.el L1) C1 (post_mono p1 (fun _ _ z => z.sl L1.sl) (fun _ _ z => z.sl L1.sl)))
  | false => exact qb F γ1 ω ρ h1 σ H1 D (R.el L1) C1 (post_mono p1 (fun _ _ z => z.sl L1.sl) (fun _ _ z => z.sl L1.sl))
theorem ss_ret (s : SE X W e me) : SS X W (.Return (some e) pos) (sRet me) := by
  obtain ⟨t, p, q⟩ := s.ex
  refine ⟨_, ps_ret p, fun F γ ω ρ h σ H D R C p => ?_⟩
  unfold sRet at p
  rw [post_bind] at p
  refine q F γ ω ρ h σ H _ R C (post_mono p (fun x h1 p1 γ1 H1 v L1 C1 r1 => ?_) (fun _ _ x => x.x))
  exact p1 γ1 ω H1 v L1.sl C1 (r1.bar fun a _ _ m => m.elim .inl fun m => m.elim (fun m => .inr (.inl m)) fun ⟨i, z⟩ => by cases z)
theorem ss_retN : SS X W (.Return none pos) sRetN := ⟨_, ps_retN, fun F γ ω ρ h σ H D R C p => p γ ω H .non SL.refl C .non⟩
theorem ss_drop (s : SE X W e me) (hs : swapsWith e none pos.line X.env = pure false := by rfl) : SS X W (.Expr e pos) (sDrop me) := by
  obtain ⟨t, p, q⟩ := s.ex
  refine ⟨_, ps_expr p hs, fun F γ ω ρ h σ H D R C p => ?_⟩
  unfold sDrop at p
  rw [post_bind] at p
  exact q F γ ω ρ h σ H _ R C (post_mono p (fun x h1 p1 γ1 H1 v L1 C1 r1 => p1 γ1 ω H1 σ L1.sl C1 (R.el L1)) (fun _ _ x => x.x))
/-- never reached -/
theorem ss_never : SS X W st (fun _ => M.stuck) := ⟨_, ps_never, fun F γ ω ρ h σ H D R C p => p⟩
theorem sss_never : SSs X W rest (fun _ => M.stuck) := ⟨_, pss_never, fun F γ ω ρ h σ H D R C p => p⟩
/-- one's own list in slot i is frozen ahead of a statement -/
def frz (i : Nat) (ρ : En) : En := match ρ[i]? with
  | some (.ow xs) => ρ.set i (.va (.lst xs))
  | _ => ρ
def sFrz (i : Nat) (m : SX) : SX := fun ρ => m (frz i ρ)
theorem SS.frz (i : Nat) (s : SS X W st m) : SS X W st (sFrz i m) := by
  obtain ⟨t, p, q⟩ := s.ex
  refine ⟨t, p, fun F γ ω ρ h σ H D R C p => ?_⟩
  unfold sFrz PL.frz at p
  split at p
  · rename_i xs e
    exact q F γ _ _ h σ H D (R.freeze e) C (post_mono p (fun _ _ z => z.sl SL.freeze) (fun _ _ z => z.sl SL.freeze))
  · exact q F γ ω ρ h σ H D R C p
end
/-! ### targets -/
abbrev GX := PV → En → M En
abbrev GsX := List PV → En → M En
/-- a store keeps the heap -/
def OutG (K : PySem.W.Frag) (is : List Nat) (F : Addr → Prop) (γ : List Addr) (ω : Nat → Option Addr) (H : Hp) (h : Hc) (σ : L2.St) (Q : L2.St → Hp → Prop) : En → Hc → Prop := fun ρ' h' => h' = h → ∀ σ' : L2.St, σ'.length = σ.length → (∀ i : Nat, i ∉ is → σ'[i]? = σ[i]?) → ER K F γ ω H ρ' σ' → Q σ' H
structure SG (X : Cx) (tg : Expr) (g : GX) (is : List Nat) : Prop where
  ex : ∃ t, PG X tg t ∧ ∀ F γ ω ρ h σ H p v Q, ER X.K F γ ω H ρ σ → Cells X.K γ H h → Rep X.K (Ob F γ ω) γ H p v → post (g p ρ h) (OutG X.K is F γ ω H h σ Q) (fun _ _ => False) → t v σ H Q
  nt : ∀ p ρ h ρ' h', g p ρ h = .ok ρ' h' → h' = h
structure SGs (X : Cx) (ts : List Expr) (g : GsX) (is : List Nat) : Prop where
  ex : ∃ t, PGs X ts t ∧ ∀ F γ ω ρ h σ H ps vs Q, ER X.K F γ ω H ρ σ → Cells X.K γ H h → Reps X.K (Ob F γ ω) γ H ps vs → post (g ps ρ h) (OutG X.K is F γ ω H h σ Q) (fun _ _ => False) → t vs σ H Q
  nt : ∀ p ρ h ρ' h', g p ρ h = .ok ρ' h' → h' = h
def gN (i : Nat) : GX := fun p ρ => pure (ρ.set i (.va p))
def gNilX : GsX
  | [], ρ => pure ρ
  | _ :: _, _ => M.stuck
def gConsX (g : GX) (r : GsX) : GsX
  | p :: ps, ρ => g p ρ >>= fun ρ' => r ps ρ'
  | [], _ => M.stuck
def gT (g : GsX) : GX := fun p ρ => match p with
  | .tup ps => g ps ρ
  | _ => M.stuck
theorem gN_nx {i : Nat} {p : PV} {ρ : En} {h : Hc} : ∀ e h', gN i p ρ h ≠ .exc e h' := fun e h' q => by cases q
theorem pg_post {α : Type} {r : Res α} {Q : α → Hc → Prop} {E : PExc → Hc → Prop} (p : post r Q (fun _ _ => False)) : post r Q E := post_mono p (fun _ _ z => z) (fun _ _ z => z.elim)
section
variable {X : Cx} {e : Expr} {es : List Expr} {g : GX} {gs : GsX} {is is' : List Nat} {pos : Pos}
theorem sg_name (i : Nat) {x : Str} (hN : X.N.Nodup) (hi : X.N[i]? = some x := by rfl) (hx : Loc X.env.scope x := by first | exact Or.inl rfl | exact Or.inr rfl) (hf : X.fn x = true ∨ X.env.scope.names.lookup x = some .local := by first | exact .inl rfl | exact .inr rfl | assumption) :
    SG X (.Name x pos) (gN i) [i] := ⟨⟨_, pg_name hN hi hx hf, fun F γ ω ρ h σ H p v Q R C r q => q rfl _ (by rw [List.length_set]) (fun j hj => by rw [List.getElem?_set_ne (fun z => hj (by rw [z]; exact List.mem_singleton.mpr rfl))]) (R.set r i)⟩, fun p ρ h ρ' h' e => by cases e; rfl⟩
theorem sgs_nil : SGs X [] gNilX [] := ⟨⟨_, pgs_nil, fun F γ ω ρ h σ H ps vs Q R C r q => by
  cases r with
  | nil => exact ⟨rfl, q rfl _ rfl (fun _ _ => rfl) R⟩
  | cons _ _ => exact q.elim⟩, fun p ρ h ρ' h' e => by
    cases p with
    | nil => cases e; rfl
    | cons _ _ => cases e⟩
theorem sgs_cons (s : SG X e g is) (r : SGs X es gs is') (hs : (assignEach (e :: es) X.env).map (·.2) = assign e X.env :: (assignEach es X.env).map (·.2) := by rfl) : SGs X (e :: es) (gConsX g gs) (is ++ is') := by
  obtain ⟨t, p, q⟩ := s.ex
  obtain ⟨t', p', q'⟩ := r.ex
  refine ⟨⟨_, pgs_cons p p' hs, fun F γ ω ρ h σ H ps vs Q R C rr pp => ?_⟩, fun ps ρ h ρ' h' e => ?_⟩
  · cases rr with
    | nil => exact pp.elim
    | cons r1 r2 =>
      rename_i x v xs vs
      have pp : post ((g x ρ >>= fun ρ' => gs xs ρ') h) (OutG X.K (is ++ is') F γ ω H h σ Q) (fun _ _ => False) := pp
      rw [post_bind] at pp
      refine ⟨_, _, rfl, q F γ ω ρ h σ H x v _ R C r1 (?_)⟩
      cases e1 : g x ρ h with
      | ok ρ1 h1 =>
        rw [e1] at pp
        have eh := s.nt _ _ _ _ _ e1
        subst eh
        intro _ σ1 l1 k1 R1
        refine q' F γ ω ρ1 h1 σ1 H xs vs Q R1 C r2 (post_mono pp (fun ρ2 h2 o eh2 σ2 l2 k2 R2 => ?_) (fun _ _ z => z))
        exact o eh2 σ2 (l2.trans l1) (fun i hi => (k2 i fun m => hi (List.mem_append_right _ m)).trans (k1 i fun m => hi (List.mem_append_left _ m))) R2
      | exc e h1 => rw [e1] at pp; exact pp.elim
      | stuck => rw [e1] at pp; exact pp.elim
  · cases ps with
    | nil => cases e
    | cons x xs =>
      have e : M.bind (g x ρ) (fun ρ' => gs xs ρ') h = .ok ρ' h' := e
      unfold M.bind at e
      cases e1 : g x ρ h with
      | ok ρ1 h1 =>
        rw [e1] at e
        rw [r.nt _ _ _ _ _ e, s.nt _ _ _ _ _ e1]
      | exc _ _ => rw [e1] at e; cases e
      | stuck => rw [e1] at e; cases e
theorem sg_tup {k n : Nat} (hc : X.calm = true) (s : SGs X es gs is) (hn : (assignEach es X.env).length = n := by rfl) (hst : (assignEach es X.env).findIdx? (·.1) = none := by rfl) (hl : ∀ ps ρ h ρ' h', gs ps ρ h = .ok ρ' h' → ps.length = n) : SG X (.Tuple es k pos) (gT gs) is := by
  obtain ⟨t, p, q⟩ := s.ex
  refine ⟨⟨_, pg_tup hc p hn hst, fun F γ ω ρ h σ H x v Q R C r pp => ?_⟩, fun x ρ h ρ' h' e => ?_⟩
  · cases x with
    | tup xs =>
      cases r with
      | tup sq r =>
        have pp : post (gs xs ρ h) (OutG X.K is F γ ω H h σ Q) (fun _ _ => False) := pp
        refine ⟨_, _, rfl, sq, ?_, q F γ ω ρ h σ H xs _ Q R C r pp⟩
        rw [← r.length]
        cases e1 : gs xs ρ h with
        | ok ρ1 h1 => exact hl _ _ _ _ _ e1
        | exc _ _ => rw [e1] at pp; exact pp.elim
        | stuck => rw [e1] at pp; exact pp.elim
    | _ => exact pp.elim
  · cases x with
    | tup xs => exact s.nt _ _ _ _ _ e
    | _ => cases e
theorem len_nil : ∀ ps ρ h ρ' h', gNilX ps ρ h = .ok ρ' h' → ps.length = 0 := fun ps ρ h ρ' h' e => by
  cases ps with
  | nil => rfl
  | cons _ _ => cases e
theorem len_cons {g : GX} {gs : GsX} {n : Nat} (hl : ∀ ps ρ h ρ' h', gs ps ρ h = .ok ρ' h' → ps.length = n) : ∀ ps ρ h ρ' h', gConsX g gs ps ρ h = .ok ρ' h' → ps.length = n + 1 := fun ps ρ h ρ' h' e => by
  cases ps with
  | nil => cases e
  | cons x xs =>
    have e : M.bind (g x ρ) (fun ρ' => gs xs ρ') h = .ok ρ' h' := e
    unfold M.bind at e
    cases e1 : g x ρ h with
    | ok ρ1 h1 => rw [e1] at e; rw [List.length_cons, hl _ _ _ _ _ e]
    | exc _ _ => rw [e1] at e; cases e
    | stuck => rw [e1] at e; cases e
end

/-! ### assignments -/
def sAsg (g : GX) (m : EX) : SX := fun ρ => m ρ >>= fun v => g v ρ >>= fun ρ' => pure (.nx ρ')
def sSet (i : Nat) (m : EX) : SX := fun ρ => m ρ >>= fun v => pure (.nx (ρ.set i (.va v)))
def sOwn (i : Nat) (m : AX) : SX := fun ρ => m ρ >>= fun xs => pure (.nx (ρ.set i (.ow xs)))
section
variable {X : Cx} {W : WX} {e tg : Expr} {g : GX} {is : List Nat} {m : EX} {mo : AX} {pos pos' : Pos} {x : Str}
theorem ss_asg (s : SE X W e m) (sg : SG X tg g is) (hs : swapsWithSole [tg] e pos.line X.env = pure false := by rfl) (hw : swappedStores [tg] e X.env = pure none := by rfl) (h1 : (assignEach [tg] X.env).map (·.2) = [assign tg X.env] := by rfl)
    (hx : ∀ v ρ h e h', g v ρ h ≠ .exc e h') : SS X W (.Assign [tg] e pos) (sAsg g m) := by
  obtain ⟨t, p, q⟩ := s.ex
  obtain ⟨t', p', q'⟩ := sg.ex
  refine ⟨_, ps_asg p p' hs hw h1, fun F γ ω ρ h σ H D R C p => ?_⟩
  unfold sAsg at p
  rw [post_bind] at p
  refine q F γ ω ρ h σ H _ R C (post_mono p (fun v h1 p1 γ1 H1 u L1 C1 r1 => ?_) (fun _ _ z => z.x))
  rw [post_bind] at p1
  refine q' F γ1 ω ρ h1 σ H1 v u _ (R.el L1) C1 r1 ?_
  cases e1 : g v ρ h1 with
  | ok ρ2 h2 =>
    rw [e1] at p1
    have eh := sg.nt _ _ _ _ _ e1
    subst eh
    exact fun _ σ2 _ _ R2 => p1 γ1 ω H1 σ2 L1.sl C1 R2
  | exc _ _ => exact absurd e1 (hx _ _ _ _ _)
  | stuck => rw [e1] at p1; exact p1.elim
theorem ss_set (i : Nat) (hN : X.N.Nodup) (s : SE X W e m) (hi : X.N[i]? = some x := by rfl) (hx : Loc X.env.scope x := by first | exact Or.inl rfl | exact Or.inr rfl) (hs : swapsWith e (some (.Name x pos')) pos.line X.env = pure false := by rfl)
    (hf : X.fn x = true ∨ X.env.scope.names.lookup x = some .local := by first | exact .inl rfl | exact .inr rfl | assumption) : SS X W (.Assign [.Name x pos'] e pos) (sSet i m) := by
  obtain ⟨t, p, q⟩ := s.ex
  refine ⟨_, ps_set hN hi hx p hs hf, fun F γ ω ρ h σ H D R C p => ?_⟩
  unfold sSet at p
  rw [post_bind] at p
  exact q F γ ω ρ h σ H _ R C (post_mono p (fun v h1 p1 γ1 H1 u L1 C1 r1 => p1 γ1 ω H1 _ L1.sl C1 ((R.el L1).set r1 i)) (fun _ _ z => z.x))
theorem ss_own (i : Nat) (hN : X.N.Nodup) (s : SO X W e mo) (hi : X.N[i]? = some x := by rfl) (hx : Loc X.env.scope x := by first | exact Or.inl rfl | exact Or.inr rfl) (hs : swapsWith e (some (.Name x pos')) pos.line X.env = pure false := by rfl)
    (hf : X.fn x = true ∨ X.env.scope.names.lookup x = some .local := by first | exact .inl rfl | exact .inr rfl | assumption) : SS X W (.Assign [.Name x pos'] e pos) (sOwn i mo) := by
  obtain ⟨t, p, q⟩ := s.ex
  refine ⟨_, ps_set hN hi hx p hs hf, fun F γ ω ρ h σ H D R C p => ?_⟩
  unfold sOwn at p
  rw [post_bind] at p
  refine q F γ ω ρ h σ H _ R C (post_mono p (fun xs h1 p1 γ1 H1 a vs L1 C1 na ng ha r1 => ?_) (fun _ _ z => z.x))
  refine p1 γ1 (setω ω i (some a)) H1 _ ⟨fun c o e n _ => L1.kp c o e n, L1.nl, L1.al, L1.ga, L1.nw, fun j b e => ?_⟩ C1 (R.own L1 na ha ng r1)
  by_cases hj : j = i
  · subst hj; rw [setω_same] at e; cases e; exact .inr na
  · rw [setω_ne hj] at e; exact .inl ⟨j, e⟩
end

/-! ### several values at once, some of them new lists of one's own -/
/-- a value, or a new list of one's own -/
inductive Sw where
  | va (p : PV) | ow (xs : List PV)
def Sw.sl : Sw → Sl
  | .va p => .va p
  | .ow xs => .ow xs
def OutM (K : PySem.W.Frag) (F : Addr → Prop) (ω : Nat → Option Addr) (γ : List Addr) (H : Hp) (Q : VK) : Sw → Hc → Prop
  | .va p, h => OutV K F ω γ H Q p h
  | .ow xs, h => OutO K F ω γ H Q xs h
structure SV (X : Cx) (W : WX) (e : Expr) (m : En → M Sw) : Prop where
  ex : ∃ t, PE X e t ∧ ∀ F γ ω ρ h σ H Q, ER X.K F γ ω H ρ σ → Cells X.K γ H h → post (m ρ h) (OutM X.K F ω γ H Q) (OutX X.K W X.mg γ H σ) → t σ H Q
def vaM (m : EX) : En → M Sw := fun ρ => m ρ >>= fun v => pure (.va v)
def owM (m : AX) : En → M Sw := fun ρ => m ρ >>= fun v => pure (.ow v)
theorem SE.sv {X : Cx} {W : WX} {e : Expr} {m : EX} (s : SE X W e m) : SV X W e (vaM m) := by
  obtain ⟨t, p, q⟩ := s.ex
  refine ⟨t, p, fun F γ ω ρ h σ H Q R C p => q F γ ω ρ h σ H Q R C ?_⟩
  unfold vaM at p
  rw [post_bind] at p
  exact p
theorem SO.sv {X : Cx} {W : WX} {e : Expr} {m : AX} (s : SO X W e m) : SV X W e (owM m) := by
  obtain ⟨t, p, q⟩ := s.ex
  refine ⟨t, p, fun F γ ω ρ h σ H Q R C p => q F γ ω ρ h σ H Q R C ?_⟩
  unfold owM at p
  rw [post_bind] at p
  exact p
inductive Mix (K : PySem.W.Frag) (F : Addr → Prop) (γ : List Addr) (ω : Nat → Option Addr) (H : Hp) : Nat → List Sw → List V → Prop
  | nil {n : Nat} : Mix K F γ ω H n [] []
  | va {n : Nat} {p : PV} {v : V} {sl : List Sw} {vs : List V} : Rep K (Ob F γ ω) γ H p v → Mix K F γ ω H n sl vs → Mix K F γ ω H n (.va p :: sl) (v :: vs)
  | ow {n k : Nat} {a : Addr} {us : List V} {xs : List PV} {sl : List Sw} {vs : List V} : n ≤ k → ω k = some a → H a = some (.lst us) → Reps K (Ob F γ ω) γ H xs us → Mix K F γ ω H (k + 1) sl vs → Mix K F γ ω H n (.ow xs :: sl) (.ref a :: vs)
def OutMs (K : PySem.W.Frag) (F : Addr → Prop) (γ : List Addr) (ω : Nat → Option Addr) (H : Hp) (ρ : En) (σ : L2.St) (g : Nat) (Q : List V → Hp → Prop) : List Sw → Hc → Prop := fun sl h' => ∀ γ' ω' H' vs, EL γ H γ' H' → Cells K γ' H' h' → ER K F γ' ω' H' ρ σ →
  (∀ i a, ω' i = some a → ω i = some a ∨ (g ≤ i ∧ H a = none)) → (∀ i a, ω i = some a → ω' i = some a) → Mix K F γ' ω' H' g sl vs → Q vs H'
structure SM (X : Cx) (W : WX) (es : List Expr) (m : En → M (List Sw)) : Prop where
  ex : ∃ t, PA X es t ∧ ∀ F γ ω ρ h σ H g Q, ER X.K F γ ω H ρ σ → Cells X.K γ H h → (∀ i, g ≤ i → ω i = none) → ρ.length ≤ g → post (m ρ h) (OutMs X.K F γ ω H ρ σ g Q) (OutX X.K W X.mg γ H σ) → t σ H Q
def mNil : En → M (List Sw) := fun _ => pure []
def mCons (m : En → M Sw) (r : En → M (List Sw)) : En → M (List Sw) := fun ρ => m ρ >>= fun x => r ρ >>= fun xs => pure (x :: xs)
section
variable {K : PySem.W.Frag} {F : Addr → Prop} {γ γ' : List Addr} {ω ω' : Nat → Option Addr} {H H' : Hp} {ρ : En} {σ : L2.St}
/-- a new list is guarded at a free index -/
theorem ER.guard (R0 : ER K F γ ω H ρ σ) (L : EL γ H γ' H') {k : Nat} {a : Addr} {vs : List V} (hk : ρ.length ≤ k) (hf : ω k = none) (na : H a = none) (ha : H' a = some (.lst vs)) (hg : a ∉ γ') : ER K F γ' (setω ω k (some a)) H' ρ σ := by
  have R := R0.el L
  have hn : ∀ j, ω j ≠ some a := fun j z => by
    obtain ⟨_, vs, e⟩ := R0.oc j a z
    rw [na] at e; cases e
  have bar : ∀ b, Ob F γ' (setω ω k (some a)) b → (Ob F γ' ω b ∨ b = a) := fun b q => by
    rcases q with q | q | ⟨j, q⟩
    · exact .inl (.inl q)
    · exact .inl (.inr (.inl q))
    · by_cases hj : j = k
      · subst hj; rw [setω_same] at q; cases q; exact .inr rfl
      · rw [setω_ne hj] at q; exact .inl (.inr (.inr ⟨j, q⟩))
  have later : Later (Ob F γ ω) γ H (Ob F γ' (setω ω k (some a))) γ' H' := by
    have l := L.later (F := F) (ω := ω)
    exact ⟨fun b ws e n => ⟨(l.ls b ws e n).1, fun m => (bar b m).elim (l.ls b ws e n).2 fun z => by rw [z, na] at e; cases e⟩, l.nl, l.ga⟩
  refine ⟨R.len, fun j q e => ?_, fun j ys e => ?_, fun j i b e1 e2 => ?_, fun j b e => ?_, fun j b e f => ?_, R.fo⟩
  · obtain ⟨v, e1, q1⟩ := R0.va j q e
    exact ⟨v, e1, q1.later later⟩
  · obtain ⟨b, us, e0, e1, e2, q1⟩ := R0.ow j ys e
    have hj : j ≠ k := fun z => by rw [z, hf] at e0; cases e0
    exact ⟨b, us, by rw [setω_ne hj]; exact e0, e1, L.kp _ _ e2 (R0.oc j b e0).1, q1.later later⟩
  · by_cases hj : j = k
    · subst hj
      rw [setω_same] at e1; cases e1
      by_cases hk : i = j
      · exact hk.symm
      · rw [setω_ne hk] at e2; exact absurd e2 (hn i)
    · rw [setω_ne hj] at e1
      by_cases hk : i = k
      · subst hk; rw [setω_same] at e2; cases e2; exact absurd e1 (hn j)
      · rw [setω_ne hk] at e2; exact R.inj j i b e1 e2
  · by_cases hj : j = k
    · subst hj; rw [setω_same] at e; cases e; exact ⟨hg, vs, ha⟩
    · rw [setω_ne hj] at e; exact R.oc j b e
  · by_cases hj : j = k
    · subst hj; rw [setω_same] at e; cases e
      obtain ⟨_, ws, z⟩ := R0.fo _ f
      rw [na] at z; cases z
    · rw [setω_ne hj] at e; exact R.of j b e f
/-- a guarded list comes to a slot -/
theorem ER.move (R : ER K F γ ω H ρ σ) {i k : Nat} {a : Addr} {xs : List PV} {vs : List V} (hk : ω k = some a) (hkl : ρ.length ≤ k) (ha : H a = some (.lst vs)) (r : Reps K (Ob F γ ω) γ H xs vs) (hi : i < ρ.length) :
    ER K F γ (setω (setω ω k none) i (some a)) H (ρ.set i (.ow xs)) (σ.set i (some (.ref a))) := by
  have hik : i ≠ k := by omega
  have sub : ∀ j b, setω (setω ω k none) i (some a) j = some b → ∃ j', ω j' = some b := fun j b e => by
    by_cases hj : j = i
    · subst hj; rw [setω_same] at e; cases e; exact ⟨k, hk⟩
    · rw [setω_ne hj] at e
      by_cases hj2 : j = k
      · subst hj2; rw [setω_same] at e; cases e
      · rw [setω_ne hj2] at e; exact ⟨j, e⟩
  have bar : ∀ b, Ob F γ (setω (setω ω k none) i (some a)) b → Ob F γ ω b := fun b q => by
    rcases q with q | q | ⟨j, q⟩
    · exact .inl q
    · exact .inr (.inl q)
    · exact .inr (.inr (sub j b q))
  refine ⟨by rw [List.length_set, List.length_set]; exact R.len, fun j q e => ?_, fun j ys e => ?_, fun j l b e1 e2 => ?_, fun j b e => ?_, fun j b e => ?_, R.fo⟩
  · by_cases hj : i = j
    · subst hj; rw [List.getElem?_set_self hi] at e; cases e
    · rw [List.getElem?_set_ne hj] at e ⊢
      obtain ⟨v, e1, q1⟩ := R.va j q e
      exact ⟨v, e1, q1.bar fun b _ _ m => bar b m⟩
  · by_cases hj : i = j
    · subst hj
      rw [List.getElem?_set_self hi] at e
      cases e
      exact ⟨a, vs, setω_same, List.getElem?_set_self (by rw [← R.len]; exact hi), ha, r.bar fun b _ _ m => bar b m⟩
    · rw [List.getElem?_set_ne hj] at e ⊢
      have hjl : j < ρ.length := (List.getElem?_eq_some_iff.mp e).1
      obtain ⟨b, us, e0, e1, e2, q1⟩ := R.ow j ys e
      exact ⟨b, us, by rw [setω_ne (Ne.symm hj), setω_ne (by omega)]; exact e0, e1, e2, q1.bar fun b _ _ m => bar b m⟩
  · by_cases hj : j = i
    · subst hj
      rw [setω_same] at e1; cases e1
      by_cases hl : l = j
      · exact hl.symm
      · rw [setω_ne hl] at e2
        by_cases hl2 : l = k
        · subst hl2; rw [setω_same] at e2; cases e2
        · rw [setω_ne hl2] at e2; exact absurd (R.inj l k a e2 hk) hl2
    · rw [setω_ne hj] at e1
      by_cases hj2 : j = k
      · subst hj2; rw [setω_same] at e1; cases e1
      · rw [setω_ne hj2] at e1
        by_cases hl : l = i
        · subst hl; rw [setω_same] at e2; cases e2; exact absurd (R.inj j k a e1 hk) hj2
        · rw [setω_ne hl] at e2
          by_cases hl2 : l = k
          · subst hl2; rw [setω_same] at e2; cases e2
          · rw [setω_ne hl2] at e2; exact R.inj j l b e1 e2
  · obtain ⟨j', e'⟩ := sub j b e; exact R.oc j' b e'
  · obtain ⟨j', e'⟩ := sub j b e; exact R.of j' b e'
/-- what no slot owns is let go -/
theorem ER.trim (R : ER K F γ ω H ρ σ) : ER K F γ (fun i => if i < ρ.length then ω i else none) H ρ σ := by
  have sub : ∀ j b, (if j < ρ.length then ω j else none) = some b → ω j = some b := fun j b e => by
    split at e
    · exact e
    · cases e
  have bar : ∀ b, Ob F γ (fun i => if i < ρ.length then ω i else none) b → Ob F γ ω b := fun b q => by
    rcases q with q | q | ⟨j, q⟩
    · exact .inl q
    · exact .inr (.inl q)
    · exact .inr (.inr ⟨j, sub j b q⟩)
  refine ⟨R.len, fun j q e => ?_, fun j ys e => ?_, fun j l b e1 e2 => R.inj j l b (sub j b e1) (sub l b e2), fun j b e => R.oc j b (sub j b e), fun j b e => R.of j b (sub j b e), R.fo⟩
  · obtain ⟨v, e1, q1⟩ := R.va j q e
    exact ⟨v, e1, q1.bar fun b _ _ m => bar b m⟩
  · have hjl : j < ρ.length := (List.getElem?_eq_some_iff.mp e).1
    obtain ⟨b, us, e0, e1, e2, q1⟩ := R.ow j ys e
    exact ⟨b, us, (if_pos hjl).trans e0, e1, e2, q1.bar fun b _ _ m => bar b m⟩
theorem Mix.up {n n' : Nat} (hn : n' ≤ n) : ∀ {sl : List Sw} {vs : List V}, Mix K F γ ω H n sl vs → Mix K F γ ω H n' sl vs
  | _, _, .nil => .nil
  | _, _, .va r m => .va r (Mix.up hn m)
  | _, _, .ow h1 h2 h3 h4 m => .ow (by omega) h2 h3 h4 m
end
section
variable {X : Cx} {W : WX} {e : Expr} {es : List Expr} {me : En → M Sw} {mr : En → M (List Sw)} {pos : Pos}
theorem sm_nil : SM X W [] mNil := ⟨_, pa_nil, fun F γ ω ρ h σ H g Q R C hg hl p => p γ ω H [] EL.refl C R (fun _ _ e => .inl e) (fun _ _ e => e) .nil⟩
theorem sm_cons (sa : SV X W e me) (sr : SM X W es mr) (hs : starEach (e :: es) X.env = (false, eval e X.env) :: starEach es X.env := by rfl) : SM X W (e :: es) (mCons me mr) := by
  obtain ⟨ta, pa, qa⟩ := sa.ex
  obtain ⟨tr, pr, qr⟩ := sr.ex
  refine ⟨_, pa_cons pa pr hs, fun F γ ω ρ h σ H g Q R C hg hl p => ?_⟩
  unfold mCons at p
  rw [post_bind] at p
  refine qa F γ ω ρ h σ H _ R C (post_mono p (fun x h1 p1 => ?_) (fun _ _ x => x))
  rw [post_bind] at p1
  cases x with
  | va v =>
    intro γ1 H1 u L1 C1 r1
    refine qr F γ1 ω ρ h1 σ H1 g _ (R.el L1) C1 hg hl (post_mono p1 (fun xs h2 p2 γ2 ω2 H2 vs L2 C2 R2 n2 k2 mx => ?_) (fun _ _ z => z.el L1))
    refine p2 γ2 ω2 H2 (u :: vs) (L1.trans L2) C2 R2 (fun i a e => (n2 i a e).imp (fun z => z) fun z => ⟨z.1, L1.al a z.2⟩) k2 (.va (r1.later ?_) mx)
    exact SL.later ⟨fun c o e n _ => L2.kp c o e n, L2.nl, L2.al, L2.ga, L2.nw, fun i a e => (n2 i a e).imp (fun z => ⟨i, z⟩) fun z => z.2⟩
  | ow xs0 =>
    intro γ1 H1 a us L1 C1 na ng ha r1
    have Rg := R.guard L1 hl (hg g (Nat.le_refl _)) na ha ng
    have gf : ∀ i, g + 1 ≤ i → setω ω g (some a) i = none := fun i hi => by rw [setω_ne (by omega)]; exact hg i (by omega)
    refine qr F γ1 (setω ω g (some a)) ρ h1 σ H1 (g + 1) _ Rg C1 gf (by omega) (post_mono p1 (fun xs h2 p2 γ2 ω2 H2 vs L2 C2 R2 n2 k2 mx => ?_) (fun _ _ z => z.el L1))
    have hw : ω2 g = some a := k2 g a setω_same
    refine p2 γ2 ω2 H2 (.ref a :: vs) (L1.trans L2) C2 R2 (fun i b e => ?_) (fun i b e => k2 i b (by rw [setω_ne (fun z => by rw [z, hg g (Nat.le_refl _)] at e; cases e)]; exact e)) (.ow (Nat.le_refl _) hw (L2.kp a _ ha ng) (r1.later ?_) mx)
    · rcases n2 i b e with z | z
      · by_cases hi : i = g
        · subst hi; rw [setω_same] at z; cases z; exact .inr ⟨Nat.le_refl _, na⟩
        · rw [setω_ne hi] at z; exact .inl z
      · exact .inr ⟨by omega, L1.al b z.2⟩
    · refine ⟨fun c ws e n => ⟨L2.kp c _ e fun m => n (.inl (.inr (.inl m))), fun q => ?_⟩, L2.nl, L2.ga⟩
      rcases q with q | q | ⟨i, q⟩
      · exact n (.inl (.inl q))
      · exact (L2.nw c q).elim (fun m => n (.inl (.inr (.inl m)))) fun z => by rw [e] at z; cases z
      · rcases n2 i c q with z | z
        · by_cases hi : i = g
          · subst hi; rw [setω_same] at z; cases z; exact n (.inr rfl)
          · rw [setω_ne hi] at z; exact n (.inl (.inr (.inr ⟨i, z⟩)))
        · rw [e] at z; cases z.2
end
section
variable {K : PySem.W.Frag} {F : Addr → Prop} {γ γ' : List Addr} {ω ω' : Nat → Option Addr} {H H' : Hp} {ρ : En} {σ : L2.St}
theorem Mix.bar {n : Nat} {ω2 : Nat → Option Addr} (hb : ∀ b, Ob F γ ω2 b → Ob F γ ω b) (hk : ∀ k, n ≤ k → ω2 k = ω k) : ∀ {m : Nat} {sl : List Sw} {vs : List V}, n ≤ m → Mix K F γ ω H m sl vs → Mix K F γ ω2 H m sl vs
  | _, _, _, _, .nil => .nil
  | _, _, _, h, .va r m => .va (r.bar fun b _ _ q => hb b q) (Mix.bar hb hk h m)
  | _, _, _, h, .ow h1 h2 h3 h4 m => .ow h1 (by rw [hk _ (by omega)]; exact h2) h3 (h4.bar fun b _ _ q => hb b q) (Mix.bar hb hk (by omega) m)
/-- the first of several values is stored -/
theorem ER.putM (R : ER K F γ ω H ρ σ) {n i : Nat} {x : Sw} {v : V} {sl : List Sw} {vs : List V} (hn : ρ.length ≤ n) (hi : i < ρ.length) (m : Mix K F γ ω H n (x :: sl) (v :: vs)) :
    ∃ ω2, ER K F γ ω2 H (ρ.set i x.sl) (σ.set i (some v)) ∧ Mix K F γ ω2 H n sl vs ∧ ∀ j b, ω2 j = some b → ∃ j', ω j' = some b := by
  cases m with
  | va r m => exact ⟨ω, R.set r i, m, fun j b e => ⟨j, e⟩⟩
  | @ow _ k a us xs _ _ h1 h2 h3 h4 m =>
    have sub : ∀ j b, setω (setω ω k none) i (some a) j = some b → ∃ j', ω j' = some b := fun j b e => by
      by_cases hj : j = i
      · subst hj; rw [setω_same] at e; cases e; exact ⟨k, h2⟩
      · rw [setω_ne hj] at e
        by_cases hj2 : j = k
        · subst hj2; rw [setω_same] at e; cases e
        · rw [setω_ne hj2] at e; exact ⟨j, e⟩
    refine ⟨_, R.move h2 (by omega) h3 h4 hi, (Mix.bar (n := k + 1) (fun b q => ?_) (fun j hj => ?_) (Nat.le_refl _) m).up (by omega), sub⟩
    · rcases q with q | q | ⟨j, q⟩
      · exact .inl q
      · exact .inr (.inl q)
      · exact .inr (.inr (sub j b q))
    · rw [setω_ne (by omega), setω_ne (by omega)]
end
def sPar (i j : Nat) (m : En → M (List Sw)) : SX := fun ρ => m ρ >>= fun xs => match xs with
  | [a, b] => if i < ρ.length ∧ j < ρ.length then pure (.nx ((ρ.set i a.sl).set j b.sl)) else M.stuck
  | _ => M.stuck
def sPar3 (i j l : Nat) (m : En → M (List Sw)) : SX := fun ρ => m ρ >>= fun xs => match xs with
  | [a, b, c] => if i < ρ.length ∧ j < ρ.length ∧ l < ρ.length then pure (.nx (((ρ.set i a.sl).set j b.sl).set l c.sl)) else M.stuck
  | _ => M.stuck
section
variable {X : Cx} {W : WX} {a b c : Expr} {m : En → M (List Sw)} {pos px py pz pt pt2 : Pos} {x y z : Str} {kt k2 : Nat}
theorem trim_le {F : Addr → Prop} {γ : List Addr} {ω : Nat → Option Addr} {H : Hp} {n : Nat} {Q : Prop} : ∀ i a, (if i < n then ω i else none) = some a → ω i = some a := fun i a e => by
  split at e
  · exact e
  · cases e
theorem ss_par (i j : Nat) (hc : X.calm = true) (hN : X.N.Nodup) (s : SM X W [a, b] m) (hi : X.N[i]? = some x := by rfl) (hj : X.N[j]? = some y := by rfl) (hij : i ≠ j := by decide)
    (hx : X.env.scope.names.lookup x = some .local := by rfl) (hy : X.env.scope.names.lookup y = some .local := by rfl)
    (hw : swappedStores [.Tuple [.Name x px, .Name y py] kt pt] (.Tuple [a, b] k2 pt2) X.env = pure (some [x, y]) := by rfl)
    (hs : swapsWithSole [.Tuple [.Name x px, .Name y py] kt pt] (.Tuple [a, b] k2 pt2) pos.line X.env = pure false := by rfl) :
    SS X W (.Assign [.Tuple [.Name x px, .Name y py] kt pt] (.Tuple [a, b] k2 pt2) pos) (sPar i j m) := by
  obtain ⟨t, p, q⟩ := s.ex
  refine ⟨_, ps_par hc hN hi hj hij hx hy p hw hs, fun F γ ω ρ h σ H D R C p => ?_⟩
  unfold sPar at p
  rw [post_bind] at p
  refine q F γ _ ρ h σ H ρ.length _ R.trim C (fun i hi => if_neg (by omega)) (Nat.le_refl _) (post_mono p (fun xs h1 p1 γ1 ω1 H1 vs L1 C1 R1 n1 k1 mx => ?_) (fun _ _ z => z.x))
  match xs, mx, p1 with
  | [s1, s2], mx, p1 =>
    have p1 : post ((if i < ρ.length ∧ j < ρ.length then pure (.nx ((ρ.set i s1.sl).set j s2.sl)) else M.stuck : M Fl) h1) (OutS X.K F γ ω H D) (OutSX X.K W X.mg γ ω H) := p1
    split at p1
    · rename_i hl
      obtain ⟨v, vs, rfl⟩ : ∃ v vs', vs = v :: vs' := by cases mx <;> exact ⟨_, _, rfl⟩
      obtain ⟨ω2, R2, m2, n2⟩ := R1.putM (Nat.le_refl _) hl.1 mx
      obtain ⟨w, vs, rfl⟩ : ∃ v vs', vs = v :: vs' := by cases m2 <;> exact ⟨_, _, rfl⟩
      obtain ⟨ω3, R3, m3, n3⟩ := R2.putM (n := ρ.length) (by rw [List.length_set]; exact Nat.le_refl _) (by rw [List.length_set]; exact hl.2) m2
      cases m3
      refine ⟨v, w, rfl, p1 γ1 ω3 H1 _ ⟨fun c o e n _ => L1.kp c o e n, L1.nl, L1.al, L1.ga, L1.nw, fun j b e => ?_⟩ C1 R3⟩
      obtain ⟨j1, e1⟩ := n3 j b e
      obtain ⟨j2, e2⟩ := n2 j1 b e1
      rcases n1 j2 b e2 with z | z
      · exact .inl ⟨j2, trim_le (F := F) (γ := γ) (H := H) (Q := True) _ _ z⟩
      · exact .inr z.2
    · exact p1.elim
  | [], _, p1 => exact p1.elim
  | [_], _, p1 => exact p1.elim
  | _ :: _ :: _ :: _, _, p1 => exact p1.elim
theorem ss_par3 (i j l : Nat) (hc : X.calm = true) (hN : X.N.Nodup) (s : SM X W [a, b, c] m) (hi : X.N[i]? = some x := by rfl) (hj : X.N[j]? = some y := by rfl) (hl : X.N[l]? = some z := by rfl) (hij : i ≠ j := by decide) (hil : i ≠ l := by decide) (hjl : j ≠ l := by decide)
    (hx : X.env.scope.names.lookup x = some .local := by rfl) (hy : X.env.scope.names.lookup y = some .local := by rfl) (hz : X.env.scope.names.lookup z = some .local := by rfl)
    (hw : swappedStores [.Tuple [.Name x px, .Name y py, .Name z pz] kt pt] (.Tuple [a, b, c] k2 pt2) X.env = pure (some [x, y, z]) := by rfl)
    (hs : swapsWithSole [.Tuple [.Name x px, .Name y py, .Name z pz] kt pt] (.Tuple [a, b, c] k2 pt2) pos.line X.env = pure false := by rfl) :
    SS X W (.Assign [.Tuple [.Name x px, .Name y py, .Name z pz] kt pt] (.Tuple [a, b, c] k2 pt2) pos) (sPar3 i j l m) := by
  obtain ⟨t, p, q⟩ := s.ex
  refine ⟨_, ps_par3 hc hN hi hj hl hij hil hjl hx hy hz p hw hs, fun F γ ω ρ h σ H D R C p => ?_⟩
  unfold sPar3 at p
  rw [post_bind] at p
  refine q F γ _ ρ h σ H ρ.length _ R.trim C (fun i hi => if_neg (by omega)) (Nat.le_refl _) (post_mono p (fun xs h1 p1 γ1 ω1 H1 vs L1 C1 R1 n1 k1 mx => ?_) (fun _ _ z => z.x))
  match xs, mx, p1 with
  | [s1, s2, s3], mx, p1 =>
    have p1 : post ((if i < ρ.length ∧ j < ρ.length ∧ l < ρ.length then pure (.nx (((ρ.set i s1.sl).set j s2.sl).set l s3.sl)) else M.stuck : M Fl) h1) (OutS X.K F γ ω H D) (OutSX X.K W X.mg γ ω H) := p1
    split at p1
    · rename_i hl
      obtain ⟨v, vs, rfl⟩ : ∃ v vs', vs = v :: vs' := by cases mx <;> exact ⟨_, _, rfl⟩
      obtain ⟨ω2, R2, m2, n2⟩ := R1.putM (Nat.le_refl _) hl.1 mx
      obtain ⟨w, vs, rfl⟩ : ∃ v vs', vs = v :: vs' := by cases m2 <;> exact ⟨_, _, rfl⟩
      obtain ⟨ω3, R3, m3, n3⟩ := R2.putM (n := ρ.length) (by rw [List.length_set]; exact Nat.le_refl _) (by rw [List.length_set]; exact hl.2.1) m2
      obtain ⟨u, vs, rfl⟩ : ∃ v vs', vs = v :: vs' := by cases m3 <;> exact ⟨_, _, rfl⟩
      obtain ⟨ω4, R4, m4, n4⟩ := R3.putM (n := ρ.length) (by rw [List.length_set, List.length_set]; exact Nat.le_refl _) (by rw [List.length_set, List.length_set]; exact hl.2.2) m3
      cases m4
      refine ⟨v, w, u, rfl, p1 γ1 ω4 H1 _ ⟨fun c o e n _ => L1.kp c o e n, L1.nl, L1.al, L1.ga, L1.nw, fun j b e => ?_⟩ C1 R4⟩
      obtain ⟨j0, e0⟩ := n4 j b e
      obtain ⟨j1, e1⟩ := n3 j0 b e0
      obtain ⟨j2, e2⟩ := n2 j1 b e1
      rcases n1 j2 b e2 with z | z
      · exact .inl ⟨j2, trim_le (F := F) (γ := γ) (H := H) (Q := True) _ _ z⟩
      · exact .inr z.2
    · exact p1.elim
  | [], _, p1 => exact p1.elim
  | [_], _, p1 => exact p1.elim
  | [_, _], _, p1 => exact p1.elim
  | _ :: _ :: _ :: _ :: _, _, p1 => exact p1.elim
end

/-! ### one's own list is changed by a method -/
def OwnM (K : PySem.W.Frag) (r : V → List V → Hp → VK → Prop) (f : List PV → List PV → Option (List PV)) : Prop := ∀ O γ H a xs vs as us Q, H a = some (.lst vs) → Reps K O γ H xs vs → Reps K O γ H as us →
  ∀ ys, f xs as = some ys → (∀ ws, Reps K O γ H ys ws → Q .non (upd H a (.lst ws))) → r (.ref a) us H Q
def onOw (i : Nat) (k : List PV → SX) : SX := fun ρ => match ρ[i]? with
  | some (.ow xs) => k xs ρ
  | _ => M.stuck
theorem onOw_post {i : Nat} {k : List PV → SX} {ρ : En} {h : Hc} {Q : Fl → Hc → Prop} {E : PExc → Hc → Prop} (p : post (onOw i k ρ h) Q E) : ∃ xs, ρ[i]? = some (.ow xs) ∧ post (k xs ρ h) Q E := by
  unfold onOw at p
  cases e : ρ[i]? with
  | none => rw [e] at p; exact p.elim
  | some s =>
    rw [e] at p
    cases s with
    | no => exact p.elim
    | va _ => exact p.elim
    | ow xs => exact ⟨xs, rfl, p⟩
def sMeth (i : Nat) (f : List PV → List PV → Option (List PV)) (m : AX) : SX := onOw i fun xs ρ => m ρ >>= fun as => oM (f xs as) >>= fun ys => pure (.nx (ρ.set i (.ow ys)))
section
variable {X : Cx} {W : WX} {x : Str} {e : Expr} {es : List Expr} {m : AX} {name : Str} {id : String} {r : V → List V → Hp → VK → Prop} {f : List PV → List PV → Option (List PV)} {p0 apos cpos pos : Pos}
theorem ss_meth (i : Nat) (pa : PlainAttrs "list") (slot : Slot "list" name id) (hty : typeOf (.builtin id) = pure (.type "method_descriptor")) (hm : MtR X id r) (ho : OwnM X.K r f) (s : SA X W (e :: es) m) (hN : X.N[i]? = some x := by rfl)
    (hv : Vis X.env.scope x := by first | exact Or.inl rfl | exact Or.inr (Or.inl rfl) | exact Or.inr (Or.inr rfl))
    (hbase : attributeBase (.Name x p0) name X.env (eval (.Name x p0) X.env) = eval (.Name x p0) X.env := by rfl)
    (hfew : ((backTo cpos (starEach (e :: es) X.env)).all (fun x => !x.1) && (backToKw cpos (keywordEach [] X.env)).all (fun x => x.1.isSome)
      && decide ((e :: es).length + ([] : List Keyword).length + (if ([] : List Keyword).isEmpty then 0 else 1) < 30)) = true := by rfl)
    (hline : (apos.endLine == cpos.line) = true := by rfl) (hs : starEach (e :: es) X.env = (false, eval e X.env) :: starEach es X.env := by rfl) (hplain : (backTo cpos (starEach es X.env)).any (·.1) = false := by rfl)
    (hd : (x == ("__debug__" : Str)) = false := by decide) (hcd : (x == ("__classdict__" : Str)) = false := by decide)
    (hsw : swapsWith (.Call (.Attribute (.Name x p0) name apos) (e :: es) [] cpos) none pos.line X.env = pure false := by rfl) :
    SS X W (.Expr (.Call (.Attribute (.Name x p0) name apos) (e :: es) [] cpos) pos) (sMeth i f m) := by
  obtain ⟨t, pa', q⟩ := s.ex
  refine ⟨_, ps_expr (pe_bm pa slot hty hm (pe_var hN hv hd hcd) pa' hbase hfew hline hs hplain) hsw, fun F γ ω ρ h σ H D R C p => ?_⟩
  obtain ⟨xs, hx, p⟩ := onOw_post p
  obtain ⟨a, vs, h0, h1', h2, r0⟩ := R.ow i xs hx
  rw [post_bind] at p
  refine ⟨.ref a, h1', .inl ⟨rfl, vs, SqL.of h2⟩, q F γ ω ρ h σ H _ R C (post_mono p (fun as h1 p1 γ1 H1 us L1 C1 rs => ?_) (fun _ _ z => z.x))⟩
  rw [post_bind] at p1
  obtain ⟨ys, hf, o⟩ := oM_post p1
  have R1 := R.el L1
  obtain ⟨a', vs', k0, k1, k2, rr⟩ := R1.ow i xs hx
  rw [h0] at k0; cases k0
  refine ho _ γ1 H1 a xs vs' as us _ k2 rr rs ys hf fun ws rw' => ?_
  have ng := (R1.oc i a h0).1
  have hi : i < ρ.length := (List.getElem?_eq_some_iff.mp hx).1
  exact o γ1 ω _ σ (L1.sl.trans (SL.put h0 ng k2)) (C1.put h0 ng k2) (R1.put hi h0 h1' rw')
/-- x[k] = e: one's own list, or a cell -/
def setAt (xs : List PV) (v k : PV) : Option (List PV) := match k with
  | .int k => (ixN xs.length k).map fun j => xs.set j v
  | _ => none
def sSetI (i : Nat) (mk me : EX) : SX := onOw i fun xs ρ => me ρ >>= fun v => mk ρ >>= fun k => oM (setAt xs v k) >>= fun ys => pure (.nx (ρ.set i (.ow ys)))
def putCell (n : Nat) (v k : PV) (ρ : En) : M Fl := fun h => match h[n]? with
  | some xs => if v.flat = true then (match setAt xs v k with
    | some ys => .ok (.nx ρ) (h.set n ys)
    | none => .stuck) else .stuck
  | none => .stuck
def sSetC (i : Nat) (mk me : EX) : SX := fun ρ => match ρ[i]? with
  | some (.va (.cell n)) => me ρ >>= fun v => mk ρ >>= fun k => putCell n v k ρ
  | _ => M.stuck
theorem setAt_law {K : PySem.W.Frag} {O : Addr → Prop} {γ : List Addr} {H : Hp} {a : Addr} {xs ys : List PV} {vs : List V} {v k : PV} {u w : V} {Q : Hp → Prop} (ha : H a = some (.lst vs)) (r : Reps K O γ H xs vs) (rv : Rep K O γ H v u) (rk : Rep K O γ H k w) (e : setAt xs v k = some ys)
    (q : ∀ ws, Reps K O γ H ys ws → Q (upd H a (.lst ws))) : rSetL (.ref a) w u H Q := by
  unfold setAt at e
  cases k <;> first | (cases e; done) | skip
  rename_i z
  cases rk
  cases e1 : ixN xs.length z with
  | none => simp only [e1] at e; cases e
  | some j =>
    simp only [e1] at e; cases e
    exact ⟨a, vs, z, j, rfl, rfl, ha, by rw [← r.length]; exact e1, q _ (r.set rv j)⟩
theorem ss_setI (i : Nat) {ie : Expr} {me mk : EX} {tpos : Pos} (se : SE X W e me) (sk : SE X W ie mk) (hN : X.N[i]? = some x := by rfl)
    (hv : Vis X.env.scope x := by first | exact Or.inl rfl | exact Or.inr (Or.inl rfl) | exact Or.inr (Or.inr rfl)) (hd : (x == ("__debug__" : Str)) = false := by decide) (hcd : (x == ("__classdict__" : Str)) = false := by decide)
    (hs : swapsWithSole [.Subscript (.Name x p0) ie tpos] e pos.line X.env = pure false := by rfl) (hw : swappedStores [.Subscript (.Name x p0) ie tpos] e X.env = pure none := by rfl)
    (h1 : (assignEach [.Subscript (.Name x p0) ie tpos] X.env).map (·.2) = [assign (.Subscript (.Name x p0) ie tpos) X.env] := by rfl)
    (ha : ∀ v, assign (.Subscript (.Name x p0) ie tpos) X.env v = (do
      let ov ← holding [v] (eval (.Name x p0) X.env)
      let iv ← holding [v, ov] (eval ie X.env)
      standAt tpos
      holding [v, ov, iv] (setItem ov iv v)
      release [v, ov, iv] []) := by intro _; rfl) : SS X W (.Assign [.Subscript (.Name x p0) ie tpos] e pos) (sSetI i mk me) := by
  obtain ⟨te, pe, qe⟩ := se.ex
  obtain ⟨tk, pk, qk⟩ := sk.ex
  refine ⟨_, ps_asg pe (pg_sub (pe_var hN hv hd hcd) pk set_list ha) hs hw h1, fun F γ ω ρ h σ H D R C p => ?_⟩
  obtain ⟨xs, hx, p⟩ := onOw_post p
  obtain ⟨a, vs, h0, h1', h2, r0⟩ := R.ow i xs hx
  rw [post_bind] at p
  refine qe F γ ω ρ h σ H _ R C (post_mono p (fun v hh1 p1 γ1 H1 u L1 C1 r1 => ?_) (fun _ _ z => z.x))
  refine ⟨.ref a, h1', ?_⟩
  rw [post_bind] at p1
  refine qk F γ1 ω ρ hh1 σ H1 _ (R.el L1) C1 (post_mono p1 (fun k hh2 p2 γ2 H2 w L2 C2 r2 => ?_) (fun _ _ z => z.x.el L1))
  rw [post_bind] at p2
  obtain ⟨ys, hf, o⟩ := oM_post p2
  have L12 := L1.trans L2
  have R2 := R.el L12
  obtain ⟨a', vs', k0, k1, k2, rr⟩ := R2.ow i xs hx
  rw [h0] at k0; cases k0
  refine setAt_law k2 rr (r1.later L2.later) r2 hf fun ws rw' => ?_
  have ng := (R2.oc i a h0).1
  have hi : i < ρ.length := (List.getElem?_eq_some_iff.mp hx).1
  exact o γ2 ω _ σ (L12.sl.trans (SL.put h0 ng k2)) (C2.put h0 ng k2) (R2.put hi h0 h1' rw')
section
variable {K : PySem.W.Frag} {F : Addr → Prop} {γ : List Addr} {ω : Nat → Option Addr} {H : Hp} {ρ : En} {σ : L2.St} {h : Hc} {a : Addr} {n : Nat} {ws : List V}
theorem EL.cell (C : Cells K γ H h) (hg : γ[n]? = some a) : EL γ H γ (upd H a (.lst ws)) where
  kp := fun c o e m => by rw [upd_ne (fun z => m (by rw [z]; exact List.mem_of_getElem? hg))]; exact e
  nl := fun c o e m => by
    obtain ⟨vs, e2⟩ := C.mem (List.mem_of_getElem? hg)
    rw [upd_ne (fun z => by rw [z, e2] at e; cases e; exact m vs rfl)]; exact e
  al := fun c e => by
    by_cases q : c = a
    · subst q; rw [upd_same] at e; cases e
    · rw [upd_ne q] at e; exact e
  ga := fun _ _ e => e
  nw := fun _ m => .inl m
theorem Cells.set (C : Cells K γ H h) (hg : γ[n]? = some a) {ys : List PV} (r : Reps K OT γ H ys ws) : Cells K γ (upd H a (.lst ws)) (h.set n ys) where
  len := by rw [List.length_set]; exact C.len
  nd := C.nd
  pl := fun m b zs e1 e2 => by
    have L := (EL.cell (ws := ws) C hg).laterT
    by_cases hm : n = m
    · subst hm
      rw [hg] at e1; cases e1
      have hn : n < h.length := by rw [← C.len]; exact (List.getElem?_eq_some_iff.mp hg).1
      rw [List.getElem?_set_self hn] at e2; cases e2
      exact ⟨ws, upd_same, r.later L⟩
    · rw [List.getElem?_set_ne hm] at e2
      obtain ⟨us, e3, q⟩ := C.pl m b zs e1 e2
      have hb : b ≠ a := fun z => hm (by
        subst z
        obtain ⟨h1, e1'⟩ := List.getElem?_eq_some_iff.mp e1
        obtain ⟨h2, e2'⟩ := List.getElem?_eq_some_iff.mp hg
        exact (List.getElem_inj C.nd).mp (e2'.trans e1'.symm))
      exact ⟨us, by rw [upd_ne hb]; exact e3, q.later L⟩
theorem flats_set {v : PV} (fv : v.flat = true) : ∀ (xs : List PV) (j : Nat), flats xs = true → flats (xs.set j v) = true
  | [], _, e => e
  | x :: xs, 0, e => by simp only [List.set_cons_zero, flats, Bool.and_eq_true] at e ⊢; exact ⟨fv, e.2⟩
  | x :: xs, j + 1, e => by simp only [List.set_cons_succ, flats, Bool.and_eq_true] at e ⊢; exact ⟨e.1, flats_set fv xs j e.2⟩
end
theorem ss_setC (i : Nat) {ie : Expr} {me mk : EX} {tpos : Pos} (se : SE X W e me) (sk : SE X W ie mk) (hN : X.N[i]? = some x := by rfl)
    (hv : Vis X.env.scope x := by first | exact Or.inl rfl | exact Or.inr (Or.inl rfl) | exact Or.inr (Or.inr rfl)) (hd : (x == ("__debug__" : Str)) = false := by decide) (hcd : (x == ("__classdict__" : Str)) = false := by decide)
    (hs : swapsWithSole [.Subscript (.Name x p0) ie tpos] e pos.line X.env = pure false := by rfl) (hw : swappedStores [.Subscript (.Name x p0) ie tpos] e X.env = pure none := by rfl)
    (h1 : (assignEach [.Subscript (.Name x p0) ie tpos] X.env).map (·.2) = [assign (.Subscript (.Name x p0) ie tpos) X.env] := by rfl)
    (ha : ∀ v, assign (.Subscript (.Name x p0) ie tpos) X.env v = (do
      let ov ← holding [v] (eval (.Name x p0) X.env)
      let iv ← holding [v, ov] (eval ie X.env)
      standAt tpos
      holding [v, ov, iv] (setItem ov iv v)
      release [v, ov, iv] []) := by intro _; rfl) : SS X W (.Assign [.Subscript (.Name x p0) ie tpos] e pos) (sSetC i mk me) := by
  obtain ⟨te, pe, qe⟩ := se.ex
  obtain ⟨tk, pk, qk⟩ := sk.ex
  refine ⟨_, ps_asg pe (pg_sub (pe_var hN hv hd hcd) pk set_list ha) hs hw h1, fun F γ ω ρ h σ H D R C p => ?_⟩
  have hx : ∃ n, ρ[i]? = some (.va (.cell n)) ∧ post ((me ρ >>= fun v => mk ρ >>= fun k => putCell n v k ρ) h) (OutS X.K F γ ω H D) (OutSX X.K W X.mg γ ω H) := by
    unfold sSetC at p
    cases e1 : ρ[i]? with
    | none => rw [e1] at p; exact p.elim
    | some s =>
      rw [e1] at p
      cases s with
      | no => exact p.elim
      | ow _ => exact p.elim
      | va q => cases q <;> first | exact p.elim | exact ⟨_, rfl, p⟩
  obtain ⟨n, hx, p⟩ := hx
  obtain ⟨v0, h1', r0⟩ := R.va i _ hx
  cases r0 with
  | cell g0 =>
    rename_i a
    rw [post_bind] at p
    refine qe F γ ω ρ h σ H _ R C (post_mono p (fun v hh1 p1 γ1 H1 u L1 C1 r1 => ?_) (fun _ _ z => z.x))
    refine ⟨.ref a, h1', ?_⟩
    rw [post_bind] at p1
    refine qk F γ1 ω ρ hh1 σ H1 _ (R.el L1) C1 (post_mono p1 (fun k hh2 p2 γ2 H2 w L2 C2 r2 => ?_) (fun _ _ z => z.x.el L1))
    have L12 := L1.trans L2
    have g2 := L12.ga n a g0
    unfold putCell at p2
    cases e1 : hh2[n]? with
    | none => rw [e1] at p2; exact p2.elim
    | some xs =>
      rw [e1] at p2
      have p2 : post (if v.flat = true then (match setAt xs v k with | some ys => .ok (.nx ρ) (hh2.set n ys) | none => .stuck) else .stuck : Res Fl) (OutS X.K F γ ω H D) (OutSX X.K W X.mg γ ω H) := p2
      split at p2
      · rename_i fv
        cases e2 : setAt xs v k with
        | none => rw [e2] at p2; exact p2.elim
        | some ys =>
          rw [e2] at p2
          obtain ⟨vs, ha2, rr⟩ := C2.pl n a xs g2 e1
          have ru : Rep X.K OT γ2 H2 v u := (r1.later L2.later).flat fv
          have rk : Rep X.K OT γ2 H2 k w := by
            unfold setAt at e2
            cases k <;> first | (cases e2; done) | (cases r2; exact .int _)
          refine setAt_law ha2 rr ru rk e2 fun ws rw' => ?_
          have E := EL.cell (ws := ws) C2 g2
          exact p2 γ2 ω _ σ (L12.trans E).sl (C2.set g2 rw') ((R.el L12).el E)
      · exact p2.elim
end
/-! ### while -/
def iterW (c : TX) (b : SX) : Nat → SX
  | 0, _ => M.stuck
  | n + 1, ρ => c ρ >>= fun k => if k = true then (b ρ >>= fun f => match f with
      | .nx ρ' => iterW c b n ρ'
      | .ct ρ' => iterW c b n ρ'
      | .bk ρ' => pure (.nx ρ')
      | .rt v => pure (.rt v)) else pure (.nx ρ)
open Classical in
noncomputable def sWhile (c : TX) (b : SX) : SX := fun ρ h => if ex : ∃ n, iterW c b n ρ h ≠ .stuck then iterW c b (choose ex) ρ h else .stuck
theorem bind_ne {α β : Type} {m : M α} {f g : α → M β} {h : Hc} (e : ∀ a h', f a h' ≠ .stuck → g a h' = f a h') (n : (m >>= f) h ≠ .stuck) : (m >>= g) h = (m >>= f) h := by
  have n : M.bind m f h ≠ .stuck := n
  show M.bind m g h = M.bind m f h
  unfold M.bind at n ⊢
  cases q : m h with
  | ok a h' => rw [q] at n; exact e a h' n
  | exc _ _ => rfl
  | stuck => rfl
theorem iterW_up (c : TX) (b : SX) : ∀ (n : Nat) (ρ : En) (h : Hc), iterW c b n ρ h ≠ .stuck → iterW c b (n + 1) ρ h = iterW c b n ρ h
  | 0, _, _, q => absurd rfl q
  | n + 1, ρ, h, q => by
    have e1 : ∀ m ρ, iterW c b (m + 1) ρ = (c ρ >>= fun k => if k = true then (b ρ >>= fun f => match f with
      | .nx ρ' => iterW c b m ρ'
      | .ct ρ' => iterW c b m ρ'
      | .bk ρ' => pure (.nx ρ')
      | .rt v => pure (.rt v)) else pure (.nx ρ)) := fun _ _ => rfl
    rw [e1 n] at q ⊢
    rw [e1 (n + 1)]
    refine bind_ne (fun k h1 n1 => ?_) q
    cases k with
    | false => rfl
    | true =>
      simp only [if_true] at n1 ⊢
      refine bind_ne (fun f h2 n2 => ?_) n1
      cases f with
      | nx ρ' => exact iterW_up c b n ρ' h2 n2
      | ct ρ' => exact iterW_up c b n ρ' h2 n2
      | bk ρ' => rfl
      | rt v => rfl
theorem iterW_le {c : TX} {b : SX} {ρ : En} {h : Hc} {n : Nat} (q : iterW c b n ρ h ≠ .stuck) : ∀ m, n ≤ m → iterW c b m ρ h = iterW c b n ρ h := by
  intro m hm
  induction m with
  | zero => rw [Nat.le_zero.mp hm]
  | succ m ih =>
    by_cases e : n = m + 1
    · rw [e]
    · have h1 := ih (by omega)
      rw [iterW_up c b m ρ h (by rw [h1]; exact q), h1]
theorem sWhile_of {c : TX} {b : SX} {ρ : En} {h : Hc} {n : Nat} (q : iterW c b n ρ h ≠ .stuck) : sWhile c b ρ h = iterW c b n ρ h := by
  have ex : ∃ n, iterW c b n ρ h ≠ .stuck := ⟨n, q⟩
  have e : sWhile c b ρ h = iterW c b (Classical.choose ex) ρ h := dif_pos ex
  rw [e]
  have q2 := Classical.choose_spec ex
  rcases Nat.le_total n (Classical.choose ex) with l | l
  · exact iterW_le q _ l
  · exact (iterW_le q2 _ l).symm
theorem sWhile_ex {c : TX} {b : SX} {ρ : En} {h : Hc} (q : sWhile c b ρ h ≠ .stuck) : ∃ n, sWhile c b ρ h = iterW c b n ρ h ∧ iterW c b n ρ h ≠ .stuck := by
  by_cases ex : ∃ n, iterW c b n ρ h ≠ .stuck
  · obtain ⟨n, e⟩ := ex
    exact ⟨n, sWhile_of e, e⟩
  · exact absurd (dif_neg ex) q
/-- one turn -/
theorem sWhile_eq (c : TX) (b : SX) (ρ : En) : sWhile c b ρ = (c ρ >>= fun k => if k = true then (b ρ >>= fun f => match f with
      | .nx ρ' => sWhile c b ρ'
      | .ct ρ' => sWhile c b ρ'
      | .bk ρ' => pure (.nx ρ')
      | .rt v => pure (.rt v)) else pure (.nx ρ)) := by
  funext h
  -- with n turns more
  have key : ∀ n, iterW c b (n + 1) ρ h ≠ .stuck → iterW c b (n + 1) ρ h = (c ρ >>= fun k => if k = true then (b ρ >>= fun f => match f with
      | .nx ρ' => sWhile c b ρ'
      | .ct ρ' => sWhile c b ρ'
      | .bk ρ' => pure (.nx ρ')
      | .rt v => pure (.rt v)) else pure (.nx ρ)) h := fun n q => by
    refine (bind_ne (fun k h1 n1 => ?_) q).symm
    cases k with
    | false => rfl
    | true =>
      simp only [if_true] at n1 ⊢
      refine bind_ne (fun f h2 n2 => ?_) n1
      cases f with
      | nx ρ' => exact sWhile_of n2
      | ct ρ' => exact sWhile_of n2
      | bk ρ' => rfl
      | rt v => rfl
  by_cases q : sWhile c b ρ h = .stuck
  · rw [q]
    -- the right side does not end either
    refine Classical.byContradiction fun ne => ?_
    have ne : (c ρ >>= fun k => if k = true then (b ρ >>= fun f => match f with
      | .nx ρ' => sWhile c b ρ'
      | .ct ρ' => sWhile c b ρ'
      | .bk ρ' => pure (.nx ρ')
      | .rt v => pure (.rt v)) else pure (.nx ρ)) h ≠ .stuck := fun e => ne e.symm
    have fin : ∃ n, iterW c b n ρ h ≠ .stuck := by
      have ne : M.bind (c ρ) (fun k => if k = true then (b ρ >>= fun f => match f with
        | .nx ρ' => sWhile c b ρ'
        | .ct ρ' => sWhile c b ρ'
        | .bk ρ' => pure (.nx ρ')
        | .rt v => pure (.rt v)) else pure (.nx ρ)) h ≠ .stuck := ne
      unfold M.bind at ne
      have st : ∀ n, iterW c b (n + 1) ρ h = M.bind (c ρ) (fun k => if k = true then (b ρ >>= fun f => match f with
        | .nx ρ' => iterW c b n ρ'
        | .ct ρ' => iterW c b n ρ'
        | .bk ρ' => pure (.nx ρ')
        | .rt v => pure (.rt v)) else pure (.nx ρ)) h := fun _ => rfl
      unfold M.bind at st
      cases e1 : c ρ h with
      | stuck => rw [e1] at ne; exact absurd rfl ne
      | exc x h1 => exact ⟨1, by rw [st 0, e1]; nofun⟩
      | ok k h1 =>
        rw [e1] at ne
        simp only [e1] at st
        cases k with
        | false => exact ⟨1, by rw [st 0]; nofun⟩
        | true =>
          simp only [if_true] at ne st
          have ne : M.bind (b ρ) (fun f => match f with
            | .nx ρ' => sWhile c b ρ'
            | .ct ρ' => sWhile c b ρ'
            | .bk ρ' => pure (.nx ρ')
            | .rt v => pure (.rt v)) h1 ≠ .stuck := ne
          unfold M.bind at ne
          have st : ∀ n, iterW c b (n + 1) ρ h = M.bind (b ρ) (fun f => match f with
            | .nx ρ' => iterW c b n ρ'
            | .ct ρ' => iterW c b n ρ'
            | .bk ρ' => pure (.nx ρ')
            | .rt v => pure (.rt v)) h1 := st
          unfold M.bind at st
          cases e2 : b ρ h1 with
          | stuck => rw [e2] at ne; exact absurd rfl ne
          | exc x h2 => exact ⟨1, by rw [st 0, e2]; nofun⟩
          | ok f h2 =>
            rw [e2] at ne
            simp only [e2] at st
            cases f with
            | nx ρ' =>
              obtain ⟨n, _, e4⟩ := sWhile_ex ne
              exact ⟨n + 1, by rw [st n]; exact e4⟩
            | ct ρ' =>
              obtain ⟨n, _, e4⟩ := sWhile_ex ne
              exact ⟨n + 1, by rw [st n]; exact e4⟩
            | bk ρ' => exact ⟨1, by rw [st 0]; nofun⟩
            | rt v => exact ⟨1, by rw [st 0]; nofun⟩
    obtain ⟨n, e⟩ := fin
    exact e (by rw [← sWhile_of e]; exact q)
  · obtain ⟨n, e1, e2⟩ := sWhile_ex q
    cases n with
    | zero => exact absurd rfl e2
    | succ n => rw [e1]; exact key n e2
section
variable {X : Cx} {W : WX} {c : Expr} {body : List Stmt} {mc : TX} {mb : SX} {pos : Pos}
theorem ss_while (hp : PassesOwn (model X.prog X.w) X.A X.env X.xe) (sc : ST X W c mc) (sb : SSs X W body mb) : SS X W (.While c body [] pos) (sWhile mc mb) := by
  obtain ⟨tc, pc, qc⟩ := sc.ex
  obtain ⟨tb, pb, qb⟩ := sb.ex
  refine ⟨_, ps_while hp pc pb, fun F γ ω ρ h σ H D R C p => ?_⟩
  have ns : sWhile mc mb ρ h ≠ .stuck := fun e => by rw [e] at p; exact p
  obtain ⟨n, e1, _⟩ := sWhile_ex ns
  rw [e1] at p
  refine ⟨fun n σ H => ∃ γ ω ρ h, ER X.K F γ ω H ρ σ ∧ Cells X.K γ H h ∧ post (iterW mc mb n ρ h) (OutS X.K F γ ω H D) (OutSX X.K W X.mg γ ω H), ⟨n, γ, ω, ρ, h, R, C, p⟩, ?_⟩
  rintro n σ H ⟨γ, ω, ρ, h, R, C, p⟩
  cases n with
  | zero => exact p.elim
  | succ n =>
    have p : post ((mc ρ >>= fun k => if k = true then (mb ρ >>= fun f => match f with
      | .nx ρ' => iterW mc mb n ρ'
      | .ct ρ' => iterW mc mb n ρ'
      | .bk ρ' => pure (.nx ρ')
      | .rt v => pure (.rt v)) else pure (.nx ρ)) h) (OutS X.K F γ ω H D) (OutSX X.K W X.mg γ ω H) := p
    rw [post_bind] at p
    refine qc F γ ω ρ h σ H _ R C (post_mono p (fun k h1 p1 γ1 H1 L1 C1 => ?_) (fun _ _ z => z.x))
    cases k with
    | false => exact p1 γ1 ω H1 σ L1.sl C1 (R.el L1)
    | true =>
      refine (if_pos rfl).mpr ?_
      have p1 : post ((mb ρ >>= fun f => match f with
        | .nx ρ' => iterW mc mb n ρ'
        | .ct ρ' => iterW mc mb n ρ'
        | .bk ρ' => pure (.nx ρ')
        | .rt v => pure (.rt v)) h1) (OutS X.K F γ ω H D) (OutSX X.K W X.mg γ ω H) := p1
      rw [post_bind] at p1
      refine ⟨fun σ' H' => ∃ γ ω ρ h, ER X.K F γ ω H' ρ σ' ∧ Cells X.K γ H' h ∧ post (iterW mc mb n ρ h) (OutS X.K F γ ω H' D) (OutSX X.K W X.mg γ ω H'), fun σ' H' q => ⟨n, Nat.lt_succ_self n, q⟩, ?_⟩
      refine qb F γ1 ω ρ h1 σ H1 _ (R.el L1) C1 (post_mono p1 (fun f h2 p2 => ?_) (fun _ _ z => z.sl L1.sl))
      cases f with
      | nx ρ' => exact fun γ2 ω2 H2 σ2 L2 C2 R2 => ⟨γ2, ω2, ρ', h2, R2, C2, post_mono p2 (fun _ _ z => z.sl (L1.sl.trans L2)) (fun _ _ z => z.sl (L1.sl.trans L2))⟩
      | ct ρ' => exact fun γ2 ω2 H2 σ2 L2 C2 R2 => ⟨γ2, ω2, ρ', h2, R2, C2, post_mono p2 (fun _ _ z => z.sl (L1.sl.trans L2)) (fun _ _ z => z.sl (L1.sl.trans L2))⟩
      | bk ρ' => exact fun γ2 ω2 H2 σ2 L2 C2 R2 => p2 γ2 ω2 H2 σ2 (L1.sl.trans L2) C2 R2
      | rt v => exact fun γ2 ω2 H2 u L2 C2 r2 => p2 γ2 ω2 H2 u (L1.sl.trans L2) C2 r2
end

/-! ### what is walked -/
/-- an iterator yields these values -/
def Wk (K : PySem.W.Frag) (J : It) (xs : List PV) (O : Addr → Prop) (γ : List Addr) (H : Hp) : Prop := ∀ O' γ' H' h', Later O γ H O' γ' H' → Cells K γ' H' h' →
  (∀ i, xs.length ≤ i → J.stop i H') ∧ ∀ i p, xs[i]? = some p → J.go i H' ∧ ∀ x H2, J.yld i H' x H2 → EL γ' H' γ' H2 ∧ Cells K γ' H2 h' ∧ Rep K O' γ' H2 p x
structure SI (X : Cx) (W : WX) (tg it : Expr) (m : AX) : Prop where
  ex : ∃ t, PI X tg it t ∧ ∀ F γ ω ρ h σ H R, ER X.K F γ ω H ρ σ → Cells X.K γ H h → post (m ρ h) (fun xs h' => ∀ γ' H' J, EL γ H γ' H' → Cells X.K γ' H' h' → Wk X.K J xs (Ob F γ' ω) γ' H' → R J H') (OutX X.K W X.mg γ H σ) → t σ H R
theorem wk_list {K : PySem.W.Frag} {O : Addr → Prop} {γ : List Addr} {H : Hp} {a : Addr} {xs : List PV} {vs : List V} (s : ∀ O' γ' H' h', Later O γ H O' γ' H' → Cells K γ' H' h' → SqL K H' a vs) (r : Reps K O γ H xs vs) : Wk K (Itl K a) xs O γ H := by
  intro O' γ' H' h' L C
  have sq := s O' γ' H' h' L C
  have rr := r.later L
  refine ⟨fun i hi => ⟨vs, sq, by rw [← r.length]; exact hi⟩, fun i p e => ?_⟩
  obtain ⟨v, e1, r1⟩ := rr.get e
  refine ⟨⟨vs, v, sq, e1⟩, fun x H2 y => ?_⟩
  obtain ⟨rfl, y⟩ := y
  have := y vs sq
  rw [e1] at this; cases this
  exact ⟨EL.refl, C, r1⟩
theorem wk_tup {K : PySem.W.Frag} {O : Addr → Prop} {γ : List Addr} {H : Hp} {a : Addr} {xs : List PV} {vs : List V} (s : SqT K H a vs) (r : Reps K O γ H xs vs) : Wk K (Itt K a) xs O γ H := by
  intro O' γ' H' h' L C
  have sq := SqT.later L.nl s
  have rr := r.later L
  refine ⟨fun i hi => ⟨vs, sq, by rw [← r.length]; exact hi⟩, fun i p e => ?_⟩
  obtain ⟨v, e1, r1⟩ := rr.get e
  refine ⟨⟨vs, v, sq, e1⟩, fun x H2 y => ?_⟩
  obtain ⟨rfl, y⟩ := y
  have := y vs sq
  rw [e1] at this; cases this
  exact ⟨EL.refl, C, r1⟩
/-- lo, lo + 1, .. -/
def rangeP (lo : Int) (n : Nat) : List PV := (List.range n).map fun i => .int (lo + (i : Nat))
theorem wk_rng {K : PySem.W.Frag} {O : Addr → Prop} {γ : List Addr} {H : Hp} {lo : Int} {n : Nat} : Wk K (Itr lo n) (rangeP lo n) O γ H := by
  intro O' γ' H' h' L C
  refine ⟨fun i hi => (show n ≤ i by simpa [rangeP] using hi), fun i p e => ?_⟩
  have hi : i < n := by
    have := (List.getElem?_eq_some_iff.mp e).1
    simpa [rangeP] using this
  have ep : p = .int (lo + (i : Nat)) := by
    unfold rangeP at e
    rw [List.getElem?_map, List.getElem?_range hi] at e
    exact (Option.some.inj e).symm
  refine ⟨hi, fun x H2 y => ?_⟩
  obtain ⟨rfl, rfl⟩ := y
  subst ep
  exact ⟨EL.refl, C, .int _⟩
theorem wk_rngC {K : PySem.W.Frag} {O : Addr → Prop} {γ : List Addr} {H : Hp} {lo c : Int} {n : Nat} : Wk K (Itc lo c n) ((List.range n).map fun i => .int (lo + (i : Nat) * c)) O γ H := by
  intro O' γ' H' h' L C
  refine ⟨fun i hi => (show n ≤ i by simpa using hi), fun i p e => ?_⟩
  have hi : i < n := by
    have := (List.getElem?_eq_some_iff.mp e).1
    simpa using this
  have ep : p = .int (lo + (i : Nat) * c) := by
    rw [List.getElem?_map, List.getElem?_range hi] at e
    exact (Option.some.inj e).symm
  refine ⟨hi, fun x H2 y => ?_⟩
  obtain ⟨rfl, rfl⟩ := y
  subst ep
  exact ⟨EL.refl, C, .int _⟩
/-- a list or a tuple -/
def iSq (K : PySem.W.Frag) (tl : TE) : TI := fun σ H R => tl σ H fun x H1 => ∃ a, x = .ref a ∧ (((∃ xs, SqL K H1 a xs) ∧ R (Itl K a) H1) ∨ ((∃ xs, SqT K H1 a xs) ∧ R (Itt K a) H1))
theorem pi_sq {X : Cx} {tg l : Expr} {tl : TE} (hl : PE X l tl) : PI X tg l (iSq X.K tl) := by
  refine ⟨fun pins s σ H R I h => ?_⟩
  refine thn (hl.run pins s σ H _ I h) fun v s1 ⟨x, H1, I1, r1, q1⟩ => ?_
  obtain ⟨a, e, ⟨⟨xs, hq⟩, q⟩ | ⟨⟨xs, hq⟩, q⟩⟩ := q1
  · subst e
    cases r1
    obtain ⟨its, rv, p, hz⟩ := I1.list hq
    refine wpAny_pyIter_list p.isList ?_
    refine ⟨s1.heap.objs.size, [s1.heap.objs.size], _, _, H1, rfl, I1.kept (t' := s1.toks) fun b o e => Heap.get?_push_of_some _ e, turn_list a _, ⟨_, Heap.get?_push_size _ rfl, rfl, rfl⟩, fun b hb => ?_, q⟩
    have e : b = s1.heap.objs.size := by simpa using hb
    subst e
    exact I1.fpOk (Nat.le_refl _) (I1.hok.fresh (Nat.le_refl _))
  · subst e
    cases r1
    obtain ⟨its, rv, p, hz⟩ := I1.tuple hq
    refine wpAny_pyIter_tuple (show s1.heap.IsTuple a its.toArray from p) ?_
    refine ⟨s1.heap.objs.size, [s1.heap.objs.size], _, _, H1, rfl, I1.kept (t' := s1.toks) fun b o e => Heap.get?_push_of_some _ e, turn_tuple a _, ⟨_, Heap.get?_push_size _ rfl, rfl, rfl⟩, fun b hb => ?_, q⟩
    have e : b = s1.heap.objs.size := by simpa using hb
    subst e
    exact I1.fpOk (Nat.le_refl _) (I1.hok.fresh (Nat.le_refl _))
def iSeq (m : EX) : AX := fun ρ => m ρ >>= fun x => oM (seqOf x)
theorem si_seq {X : Cx} {W : WX} {tg e : Expr} {m : EX} (s : SE X W e m) : SI X W tg e (iSeq m) := by
  obtain ⟨t, p, q⟩ := s.ex
  refine ⟨_, pi_sq p, fun F γ ω ρ h σ H R ER0 C p => ?_⟩
  unfold iSeq at p
  rw [post_bind] at p
  refine q F γ ω ρ h σ H _ ER0 C (post_mono p (fun x h1 p1 γ1 H1 v L1 C1 r1 => ?_) (fun _ _ z => z))
  obtain ⟨xs, e, o⟩ := oM_post p1
  cases x <;> first | (cases e; done) | skip
  · cases e
    cases r1 with
    | tup sq r => exact ⟨_, rfl, .inr ⟨⟨_, sq⟩, o γ1 H1 _ L1 C1 (wk_tup sq r)⟩⟩
  · cases e
    cases r1 with
    | lst sq ob r => exact ⟨_, rfl, .inl ⟨⟨_, SqL.of sq⟩, o γ1 H1 _ L1 C1 (wk_list (fun O' γ' H' h' L _ => SqL.of (L.ls _ _ sq ob).1) r)⟩⟩
  · cases e
    cases r1 with
    | scr sq r => exact ⟨_, rfl, .inl ⟨⟨_, sq.sq⟩, o γ1 H1 _ L1 C1 (wk_list (fun O' γ' H' h' L _ => (sq.elim (fun ⟨o, h⟩ => .inl ⟨o, L.nl _ _ h (fun _ => nofun)⟩) .inr : SqF _ _ _ _).sq) r)⟩⟩
def Big (i : Int) : Prop := -(2 ^ 62) ≤ i ∧ i < 2 ^ 62
open Classical in
noncomputable def rng1 : List PV → M (List PV)
  | [.int j] => if Big j then pure (rangeP 0 j.toNat) else M.stuck
  | _ => M.stuck
open Classical in
noncomputable def rng2 : List PV → M (List PV)
  | [.int i, .int j] => if Big i ∧ Big j then pure (rangeP i (j - i).toNat) else M.stuck
  | _ => M.stuck
open Classical in
noncomputable def rng3 : List PV → M (List PV)
  | [.int i, .int j, .int c] => if RgC i j c (Builtin.Range.rangeSize i j c).toNat then pure ((List.range (Builtin.Range.rangeSize i j c).toNat).map fun k => .int (i + (k : Nat) * c)) else M.stuck
  | _ => M.stuck
noncomputable def iR1 (m : AX) : AX := fun ρ => m ρ >>= rng1
noncomputable def iR2 (m : AX) : AX := fun ρ => m ρ >>= rng2
noncomputable def iR3 (m : AX) : AX := fun ρ => m ρ >>= rng3
theorem si_range1 {X : Cx} {W : WX} {tg a : Expr} {m : AX} {p pos : Pos} (hg : Gl X "range") (hm : X.mg "range" = none) (s : SA X W [a] m) (hs : starEach [a] X.env = [(false, eval a X.env)] := by rfl) : SI X W tg (.Call (.Name "range" p) [a] [] pos) (iR1 m) := by
  obtain ⟨t, pa, q⟩ := s.ex
  refine ⟨_, pi_range1 hg hm pa hs, fun F γ ω ρ h σ H R ER0 C p => ?_⟩
  unfold iR1 at p
  rw [post_bind] at p
  refine q F γ ω ρ h σ H _ ER0 C (post_mono p (fun x h1 p1 γ1 H1 v L1 C1 r1 => ?_) (fun _ _ z => z))
  unfold rng1 at p1
  split at p1
  · split at p1
    · rename_i hb
      obtain ⟨v, rfl, r⟩ := r1.one
      cases r
      exact ⟨_, rfl, hb.1, hb.2, p1 γ1 H1 _ L1 C1 wk_rng⟩
    · exact p1.elim
  · exact p1.elim
theorem si_range2 {X : Cx} {W : WX} {tg a b : Expr} {m : AX} {p pos : Pos} (hg : Gl X "range") (hm : X.mg "range" = none) (s : SA X W [a, b] m) (hs : starEach [a, b] X.env = [(false, eval a X.env), (false, eval b X.env)] := by rfl) (hs2 : starEach [b] X.env = [(false, eval b X.env)] := by rfl) : SI X W tg (.Call (.Name "range" p) [a, b] [] pos) (iR2 m) := by
  obtain ⟨t, pa, q⟩ := s.ex
  refine ⟨_, pi_range2 hg hm pa hs hs2, fun F γ ω ρ h σ H R ER0 C p => ?_⟩
  unfold iR2 at p
  rw [post_bind] at p
  refine q F γ ω ρ h σ H _ ER0 C (post_mono p (fun x h1 p1 γ1 H1 v L1 C1 r1 => ?_) (fun _ _ z => z))
  unfold rng2 at p1
  split at p1
  · split at p1
    · rename_i hb
      obtain ⟨v, w, rfl, r, r'⟩ := r1.twoR
      cases r; cases r'
      exact ⟨_, _, rfl, ⟨hb.1.1, hb.1.2, hb.2.1, hb.2.2⟩, p1 γ1 H1 _ L1 C1 wk_rng⟩
    · exact p1.elim
  · exact p1.elim
theorem si_range3 {X : Cx} {W : WX} {tg a b c : Expr} {m : AX} {p pos : Pos} (hg : Gl X "range") (hm : X.mg "range" = none) (s : SA X W [a, b, c] m) (hs : starEach [a, b, c] X.env = (false, eval a X.env) :: starEach [b, c] X.env := by rfl) (hpl : (backTo pos (starEach [b, c] X.env)).any (·.1) = false := by rfl) : SI X W tg (.Call (.Name "range" p) [a, b, c] [] pos) (iR3 m) := by
  obtain ⟨t, pa, q⟩ := s.ex
  refine ⟨_, pi_range3 hg hm pa hs hpl, fun F γ ω ρ h σ H R ER0 C p => ?_⟩
  unfold iR3 at p
  rw [post_bind] at p
  refine q F γ ω ρ h σ H _ ER0 C (post_mono p (fun x h1 p1 γ1 H1 v L1 C1 r1 => ?_) (fun _ _ z => z))
  unfold rng3 at p1
  split at p1
  · split at p1
    · rename_i hb
      cases r1 with
      | cons r1 rr =>
        obtain ⟨v, w, rfl, r, r'⟩ := rr.twoR
        cases r1; cases r; cases r'
        exact ⟨_, _, _, _, rfl, hb, p1 γ1 H1 _ L1 C1 wk_rngC⟩
    · exact p1.elim
  · exact p1.elim

/-! ### for -/
def forL (b : PV → SX) : List PV → SX
  | [], ρ => pure (.nx ρ)
  | x :: xs, ρ => b x ρ >>= fun f => match f with
    | .nx ρ' => forL b xs ρ'
    | .ct ρ' => forL b xs ρ'
    | .bk ρ' => pure (.nx ρ')
    | .rt v => pure (.rt v)
def sFor (src : AX) (g : GX) (b : SX) : SX := fun ρ => src ρ >>= fun xs => forL (fun x ρ => g x ρ >>= fun ρ' => b ρ') xs ρ
section
variable {X : Cx} {W : WX} {tg it : Expr} {body : List Stmt} {ms : AX} {g : GX} {is : List Nat} {mb : SX} {pos : Pos}
theorem ss_for (hp : PassesOwn (model X.prog X.w) X.A X.env X.xe) (hc : X.calm = true) (si : SI X W tg it ms) (sg : SG X tg g is) (sb : SSs X W body mb) (hx : ∀ v ρ h e h', g v ρ h ≠ .exc e h')
    (hs : ∀ x, foldedSetIterable it X.env x = pure x := by intro _; rfl) : SS X W (.For tg it body [] pos) (sFor ms g mb) := by
  obtain ⟨ti, pi, qi⟩ := si.ex
  obtain ⟨tg', pg, qg⟩ := sg.ex
  obtain ⟨tb, pb, qb⟩ := sb.ex
  refine ⟨_, ps_for hp hc pi pg pb hs, fun F γ ω ρ h σ H D R C p => ?_⟩
  unfold sFor at p
  rw [post_bind] at p
  refine qi F γ ω ρ h σ H _ R C (post_mono p (fun xs h1 p1 γ1 H1 J L1 C1 wk => ?_) (fun _ _ z => z.x))
  refine ⟨fun i m σ H => m = xs.length - i ∧ i ≤ xs.length ∧ ∃ γ2 ω2 ρ h, ER X.K F γ2 ω2 H ρ σ ∧ Cells X.K γ2 H h ∧ SL γ1 ω H1 γ2 ω2 H ∧ post (forL (fun x ρ => g x ρ >>= fun ρ' => mb ρ') (xs.drop i) ρ h) (OutS X.K F γ2 ω2 H D) (OutSX X.K W X.mg γ2 ω2 H),
    ⟨_, rfl, Nat.zero_le _, γ1, ω, ρ, h1, R.el L1, C1, SL.refl, post_mono p1 (fun _ _ z => z.sl L1.sl) (fun _ _ z => z.sl L1.sl)⟩, ?_⟩
  rintro i m σ H ⟨rfl, hi, γ2, ω2, ρ, h2, R2, C2, L2, p2⟩
  obtain ⟨stop, go⟩ := wk _ γ2 H h2 (L2.later (F := F)) C2
  by_cases hlt : i < xs.length
  · obtain ⟨g1, y1⟩ := go i xs[i] (List.getElem?_eq_getElem hlt)
    refine .inr ⟨g1, fun σ' H' => ∃ γ3 ω3 ρ h, ER X.K F γ3 ω3 H' ρ σ' ∧ Cells X.K γ3 H' h ∧ SL γ1 ω H1 γ3 ω3 H' ∧ post (forL (fun x ρ => g x ρ >>= fun ρ' => mb ρ') (xs.drop (i + 1)) ρ h) (OutS X.K F γ3 ω3 H' D) (OutSX X.K W X.mg γ3 ω3 H'),
      fun σ' H' q => ⟨xs.length - (i + 1), by omega, rfl, hlt, q⟩, fun x H3 y => ?_⟩
    obtain ⟨L3, C3, r3⟩ := y1 x H3 y
    rw [List.drop_eq_getElem_cons hlt] at p2
    have p7 : post (((g xs[i] ρ >>= fun ρ' => mb ρ') >>= fun f => match f with
      | .nx ρ' => forL (fun x ρ => g x ρ >>= fun ρ' => mb ρ') (xs.drop (i + 1)) ρ'
      | .ct ρ' => forL (fun x ρ => g x ρ >>= fun ρ' => mb ρ') (xs.drop (i + 1)) ρ'
      | .bk ρ' => pure (.nx ρ')
      | .rt v => pure (.rt v)) h2) (OutS X.K F γ2 ω2 H D) (OutSX X.K W X.mg γ2 ω2 H) := p2
    rw [post_bind, post_bind] at p7
    refine qg F γ2 ω2 ρ h2 σ H3 xs[i] x _ (R2.el L3) C3 r3 ?_
    cases e1 : g xs[i] ρ h2 with
    | stuck => rw [e1] at p7; exact p7.elim
    | exc _ _ => exact absurd e1 (hx _ _ _ _ _)
    | ok ρ3 h3 =>
      rw [e1] at p7
      have eh := sg.nt _ _ _ _ _ e1
      subst eh
      intro _ σ3 _ _ R3
      have p8 : post (mb ρ3 h3) (fun f h' => post ((match f with
        | .nx ρ' => forL (fun x ρ => g x ρ >>= fun ρ' => mb ρ') (xs.drop (i + 1)) ρ'
        | .ct ρ' => forL (fun x ρ => g x ρ >>= fun ρ' => mb ρ') (xs.drop (i + 1)) ρ'
        | .bk ρ' => pure (.nx ρ')
        | .rt v => pure (.rt v) : M Fl) h') (OutS X.K F γ2 ω2 H D) (OutSX X.K W X.mg γ2 ω2 H)) (OutSX X.K W X.mg γ2 ω2 H) := p7
      refine qb F γ2 ω2 ρ3 h3 σ3 H3 _ R3 C3 (post_mono p8 (fun f h4 p4 => ?_) (fun _ _ z => z.sl L3.sl))
      cases f with
      | nx ρ' => exact fun γ5 ω5 H5 σ5 L5 C5 R5 => ⟨γ5, ω5, ρ', h4, R5, C5, L2.trans (L3.sl.trans L5), post_mono p4 (fun _ _ z => z.sl (L3.sl.trans L5)) (fun _ _ z => z.sl (L3.sl.trans L5))⟩
      | ct ρ' => exact fun γ5 ω5 H5 σ5 L5 C5 R5 => ⟨γ5, ω5, ρ', h4, R5, C5, L2.trans (L3.sl.trans L5), post_mono p4 (fun _ _ z => z.sl (L3.sl.trans L5)) (fun _ _ z => z.sl (L3.sl.trans L5))⟩
      | bk ρ' => exact fun γ5 ω5 H5 σ5 L5 C5 R5 => p4 γ5 ω5 H5 σ5 (L3.sl.trans L5) C5 R5
      | rt v => exact fun γ5 ω5 H5 u L5 C5 r5 => p4 γ5 ω5 H5 u (L3.sl.trans L5) C5 r5
  · have e : i = xs.length := by omega
    subst e
    rw [List.drop_length] at p2
    exact .inl ⟨stop _ (Nat.le_refl _), p2 γ2 ω2 H σ SL.refl C2 R2⟩
end
/-! ### the readings of values alone -/
def tEc (K : PySem.W.Frag) (W : WX) (mg : Str → Option Value) (m : EX) : TE := fun σ H Q => ∃ F γ ω ρ h, ER K F γ ω H ρ σ ∧ Cells K γ H h ∧ post (m ρ h) (OutV K F ω γ H Q) (OutX K W mg γ H σ)
def tTc (K : PySem.W.Frag) (W : WX) (mg : Str → Option Value) (m : TX) : TT := fun σ H Q => ∃ F γ ω ρ h, ER K F γ ω H ρ σ ∧ Cells K γ H h ∧ post (m ρ h) (OutB K γ H Q) (OutX K W mg γ H σ)
def tGc (K : PySem.W.Frag) (is : List Nat) (g : GX) : TG := fun v σ H Q => ∃ F γ ω ρ h p, ER K F γ ω H ρ σ ∧ Cells K γ H h ∧ Rep K (Ob F γ ω) γ H p v ∧ post (g p ρ h) (OutG K is F γ ω H h σ Q) (fun _ _ => False)
theorem SE.can {X : Cx} {W : WX} {e : Expr} {m : EX} (s : SE X W e m) : PE X e (tEc X.K W X.mg m) := by
  obtain ⟨t, p, q⟩ := s.ex
  exact ⟨fun pins s σ H Q I ⟨F, γ, ω, ρ, h, R, C, po⟩ => p.run pins s σ H Q I (q F γ ω ρ h σ H Q R C po)⟩
theorem SG.can {X : Cx} {e : Expr} {g : GX} {is : List Nat} (s : SG X e g is) : PG X e (tGc X.K is g) := by
  obtain ⟨t, p, q⟩ := s.ex
  exact ⟨fun pins s σ H v u Q I r ⟨F, γ, ω, ρ, h, x, R, C, rr, po⟩ => p.run pins s σ H v u Q I r (q F γ ω ρ h σ H x v Q R C rr po)⟩
/-- the tests of a comprehension -/
structure SC (X : Cx) (W : WX) (ifs : List Expr) (m : TX) : Prop where
  ex : ∃ t, PTs X ifs t ∧ ∀ F γ ω ρ h σ H Q, ER X.K F γ ω H ρ σ → Cells X.K γ H h → post (m ρ h) (OutB X.K γ H Q) (OutX X.K W X.mg γ H σ) → t σ H Q
def tTrue : TX := fun _ => pure true
theorem sc_nil {X : Cx} {W : WX} : SC X W [] tTrue := ⟨_, pts_nil, fun F γ ω ρ h σ H Q R C p => p γ H EL.refl C⟩
theorem sc_one {X : Cx} {W : WX} {c : Expr} {m : TX} (s : ST X W c m) : SC X W [c] m := let ⟨t, p, q⟩ := s.ex; ⟨_, pts_one p, q⟩
theorem SC.can {X : Cx} {W : WX} {e : List Expr} {m : TX} (s : SC X W e m) : PTs X e (tTc X.K W X.mg m) := by
  obtain ⟨t, p, q⟩ := s.ex
  exact ⟨fun pins s σ H Q I ⟨F, γ, ω, ρ, h, R, C, po⟩ => p.run pins s σ H Q I (q F γ ω ρ h σ H Q R C po)⟩

/-! ### comprehensions -/
def noX {α : Type} (m : M α) : M α := fun h => match m h with
  | .ok a h' => .ok a h'
  | .exc _ _ => .stuck
  | .stuck => .stuck
@[simp] theorem noX_pure {α : Type} (a : α) : noX (pure a : M α) = pure a := rfl
@[simp] theorem noX_stuck {α : Type} : noX (M.stuck : M α) = M.stuck := rfl
theorem noX_bind {α β : Type} (m : M α) (f : α → M β) : noX (m >>= f) = (noX m >>= fun a => noX (f a)) := by
  funext h
  show noX (M.bind m f) h = M.bind (noX m) (fun a => noX (f a)) h
  simp only [noX, M.bind]
  cases m h <;> rfl
theorem noX_post {α : Type} {m : M α} {h : Hc} {Q : α → Hc → Prop} {E E' : PExc → Hc → Prop} (p : post (noX m h) Q E) : post (m h) Q E' := by
  unfold noX at p
  cases e : m h with
  | ok a h' => rw [e] at p; exact p
  | exc x h' => rw [e] at p; exact p.elim
  | stuck => rw [e] at p; exact p.elim
def wipeP (ρ : En) : List Nat → En
  | [] => ρ
  | v :: vs => (wipeP ρ vs).set v .no
def compL (g : GX) (t : TX) (e : EX) (ρ : En) : List PV → M (List PV)
  | [] => pure []
  | x :: xs => g x ρ >>= fun ρ' => t ρ' >>= fun k => if k = true then (e ρ' >>= fun y => compL g t e ρ xs >>= fun ys => pure (y :: ys)) else compL g t e ρ xs
def oComp (vs : List Nat) (src : AX) (g : GX) (t : TX) (e : EX) : AX := fun ρ => src ρ >>= fun xs => if xs.length ≤ sizeLine then noX (compL g t e (wipeP ρ vs) xs) else M.stuck
abbrev W0 : WX := fun _ _ _ _ => False
section
variable {K : PySem.W.Frag} {F : Addr → Prop} {γ γ' : List Addr} {ω ω' : Nat → Option Addr} {H H' : Hp} {ρ : En} {σ : L2.St}
theorem ER.wipe (R : ER K F γ ω H ρ σ) : ∀ vs : List Nat, ER K F γ ω H (wipeP ρ vs) (L2.wipe σ vs)
  | [] => R
  | v :: vs => (ER.wipe R vs).drop v none
/-- a new list, barred from all else -/
def Fd (F : Addr → Prop) (D : Addr) : Addr → Prop := fun b => F b ∨ b = D
theorem ob_fd {D b : Addr} : Ob (Fd F D) γ ω b ↔ (Ob F γ ω b ∨ b = D) := by
  unfold Ob Fd
  constructor
  · rintro ((h | h) | h | h)
    · exact .inl (.inl h)
    · exact .inr h
    · exact .inl (.inr (.inl h))
    · exact .inl (.inr (.inr h))
  · rintro ((h | h | h) | h)
    · exact .inl (.inl h)
    · exact .inr (.inl h)
    · exact .inr (.inr h)
    · exact .inl (.inr h)
theorem later_fd {D : Addr} (L : EL γ H γ' H') (nD : H D = none) : Later (Ob F γ ω) γ H (Ob (Fd F D) γ' ω) γ' H' := by
  have l := L.later (F := F) (ω := ω)
  exact ⟨fun b ws e n => ⟨(l.ls b ws e n).1, fun m => (ob_fd.mp m).elim (l.ls b ws e n).2 fun z => by rw [z, nD] at e; cases e⟩, l.nl, l.ga⟩
theorem ER.guardF (R0 : ER K F γ ω H ρ σ) (L : EL γ H γ' H') {D : Addr} {vs : List V} (nD : H D = none) (hD : H' D = some (.lst vs)) (hg : D ∉ γ') : ER K (Fd F D) γ' ω H' ρ σ := by
  have R := R0.el L
  have later := later_fd (F := F) (ω := ω) L nD
  refine ⟨R.len, fun j q e => ?_, fun j ys e => ?_, R.inj, R.oc, fun j b e f => ?_, fun b f => ?_⟩
  · obtain ⟨v, e1, q1⟩ := R0.va j q e
    exact ⟨v, e1, q1.later later⟩
  · obtain ⟨b, us, e0, e1, e2, q1⟩ := R0.ow j ys e
    exact ⟨b, us, e0, e1, L.kp _ _ e2 (R0.oc j b e0).1, q1.later later⟩
  · rcases f with f | f
    · exact R.of j b e f
    · subst f
      obtain ⟨_, ws, z⟩ := R0.oc j _ e
      rw [nD] at z; cases z
  · rcases f with f | f
    · exact R.fo b f
    · subst f; exact ⟨hg, vs, hD⟩
/-- the barred list is changed -/
theorem later_put {D : Addr} {ws us : List V} (e0 : H D = some (.lst ws)) : Later (Ob (Fd F D) γ ω) γ H (Ob (Fd F D) γ ω) γ (upd H D (.lst us)) :=
  ⟨fun b vs e n => ⟨by rw [upd_ne (fun z => n (ob_fd.mpr (.inr z)))]; exact e, n⟩, fun b o e n => by rw [upd_ne (fun z => by rw [z, e0] at e; cases e; exact n ws rfl)]; exact e, fun _ _ e => e⟩
end
theorem wipe_get {σ : L2.St} {i : Nat} : ∀ {vs : List Nat}, (L2.wipe σ vs)[i]? = if i ∈ vs ∧ i < σ.length then some none else σ[i]?
  | [] => by rw [if_neg (fun h => by cases h.1)]; rfl
  | v :: vs => by
    unfold L2.wipe
    by_cases hv : v = i
    · subst hv
      by_cases hl : v < σ.length
      · rw [List.getElem?_set_self (by rw [wipe_length]; exact hl), if_pos ⟨List.mem_cons_self, hl⟩]
      · rw [List.getElem?_eq_none (by rw [List.length_set, wipe_length]; omega), if_neg (fun h => hl h.2), List.getElem?_eq_none (by omega)]
    · rw [List.getElem?_set_ne hv, wipe_get]
      by_cases hm : i ∈ vs ∧ i < σ.length
      · rw [if_pos hm, if_pos ⟨List.mem_cons_of_mem _ hm.1, hm.2⟩]
      · rw [if_neg hm, if_neg (fun h => hm ⟨(List.mem_cons.mp h.1).resolve_left (Ne.symm hv), h.2⟩)]
theorem wipe_eq {σ σ' : L2.St} {vs is : List Nat} (hl : σ'.length = σ.length) (hk : ∀ i : Nat, i ∉ is → σ'[i]? = σ[i]?) (hs : ∀ i ∈ is, i ∈ vs) : L2.wipe σ' vs = L2.wipe σ vs := by
  apply List.ext_getElem?
  intro i
  rw [wipe_get, wipe_get, hl]
  by_cases hm : i ∈ vs ∧ i < σ.length
  · rw [if_pos hm, if_pos hm]
  · rw [if_neg hm, if_neg hm]
    by_cases hi : i < σ.length
    · exact hk i fun h => hm ⟨hs i h, hi⟩
    · rw [List.getElem?_eq_none (by omega), List.getElem?_eq_none (by omega)]
theorem wipe_wipe {σ : L2.St} {vs : List Nat} : L2.wipe (L2.wipe σ vs) vs = L2.wipe σ vs := by
  apply List.ext_getElem?
  intro i
  rw [wipe_get, wipe_get, wipe_length]
  by_cases hm : i ∈ vs ∧ i < σ.length
  · rw [if_pos hm, if_pos hm]
  · rw [if_neg hm, if_neg hm]
/-- the reading of a comprehension, from its value -/
theorem lc_law {X : Cx} {W : WX} {wi : TI} {src : AX} {g : GX} {is vs : List Nat} {t : TX} {e : EX}
    (qi : ∀ F γ ω ρ h σ H R, ER X.K F γ ω H ρ σ → Cells X.K γ H h → post (src ρ h) (fun xs h' => ∀ γ' H' J, EL γ H γ' H' → Cells X.K γ' H' h' → Wk X.K J xs (Ob F γ' ω) γ' H' → R J H') (OutX X.K W X.mg γ H σ) → wi σ H R)
    (his : ∀ i ∈ is, i ∈ vs) : ∀ F γ ω ρ h σ H Q, ER X.K F γ ω H ρ σ → Cells X.K γ H h → post (oComp vs src g t e ρ h) (OutO X.K F ω γ H Q) (OutX X.K W X.mg γ H σ) →
      tLc wi (tGc X.K is g) (tTc X.K W0 X.mg t) (tEc X.K W0 X.mg e) vs σ H Q := by
  intro F γ ω ρ h σ H Q R C p
  unfold oComp at p
  rw [post_bind] at p
  refine qi F γ ω ρ h σ H _ R C (post_mono p (fun xs h1 p1 γ1 H1 J L1 C1 wk => ?_) (fun _ _ z => z))
  intro D nD
  split at p1
  · rename_i hsz
    have R1 := R.el L1
    have ng1 : D ∉ γ1 := fun m => by obtain ⟨_, z⟩ := C1.mem m; rw [nD] at z; cases z
    let Inv0 : Nat → Hp → Prop := fun i H2 => i ≤ xs.length ∧ ∃ γ2 h2 acc vs', EL γ1 H1 γ2 H2 ∧ D ∉ γ2 ∧ H2 D = some (.lst vs') ∧ Cells X.K γ2 H2 h2 ∧ acc.length ≤ i ∧
      Reps X.K (Ob (Fd F D) γ2 ω) γ2 H2 acc vs' ∧ post (noX (compL g t e (wipeP ρ vs) (xs.drop i)) h2) (fun ys h' => OutO X.K F ω γ H Q (acc ++ ys) h') (fun _ _ => False)
    refine ⟨fun i m H2 => m = xs.length - i ∧ Inv0 i H2, ?_, ?_⟩
    · refine ⟨_, rfl, Nat.zero_le _, γ1, h1, [], [], EL.new nD, ng1, upd_same, C1.new nD, Nat.le_refl _, .nil, ?_⟩
      have q : post (noX (compL g t e (wipeP ρ vs) xs) h1) (fun ys h' => OutO X.K F ω γ H Q ys h') (OutX X.K W X.mg γ H σ) := p1
      exact post_mono (post_false q (fun e' h' z => by unfold noX at z; split at z <;> cases z)) (fun _ _ z => z) (fun _ _ z => z)
    · rintro i m H2 ⟨rfl, hi, γ2, h2, acc, vs', L2, nD2, eD, C2, hacc, racc, p2⟩
      obtain ⟨stop, _⟩ := wk _ γ2 H2 h2 (L2.later) C2
      have RD : ER X.K (Fd F D) γ2 ω H2 ρ σ := R1.guardF L2 nD eD nD2
      by_cases hlt : i < xs.length
      · obtain ⟨_, go⟩ := wk _ γ2 H2 h2 (later_fd (F := F) (ω := ω) L2 nD) C2
        obtain ⟨g1, y1⟩ := go i xs[i] (List.getElem?_eq_getElem hlt)
        refine .inr ⟨g1, Inv0 (i + 1), fun H' q => ⟨_, by omega, rfl, q⟩, fun x H3 y => ?_⟩
        obtain ⟨L3, C3, r3⟩ := y1 x H3 y
        have eD3 : H3 D = some (.lst vs') := L3.kp D _ eD nD2
        rw [List.drop_eq_getElem_cons hlt] at p2
        have p3 : post (noX (g xs[i] (wipeP ρ vs) >>= fun ρ' => t ρ' >>= fun k => if k = true then (e ρ' >>= fun y => compL g t e (wipeP ρ vs) (xs.drop (i + 1)) >>= fun ys => pure (y :: ys)) else compL g t e (wipeP ρ vs) (xs.drop (i + 1))) h2) (fun ys h' => OutO X.K F ω γ H Q (acc ++ ys) h') (fun _ _ => False) := p2
        rw [noX_bind, post_bind] at p3
        refine ⟨Fd F D, γ2, ω, _, h2, xs[i], (RD.el L3).wipe vs, C3, r3, ?_⟩
        refine post_mono (noX_post (E' := fun _ _ => False) p3) (fun ρ4 h4 p4 eh4 σ4 l4 k4 R4 => ?_) (fun _ _ z => z)
        subst eh4
        refine ⟨by rw [wipe_eq l4 k4 his, wipe_wipe], ?_⟩
        rw [noX_bind, post_bind] at p4
        refine ⟨Fd F D, γ2, ω, ρ4, h4, R4, C3, post_mono (noX_post (E' := fun _ _ => False) p4) (fun k h5 p5 γ5 H5 L5 C5 => ?_) (fun _ _ z => z.elim)⟩
        have L35 := L3.trans L5
        have nD5 : D ∉ γ5 := fun m => (L5.nw D m).elim nD2 fun z => by rw [eD3] at z; cases z
        have eD5 := L5.kp D _ eD3 nD2
        cases k with
        | false => exact ⟨hlt, γ5, h5, acc, vs', L2.trans L35, nD5, eD5, C5, by omega, racc.later L35.later, p5⟩
        | true =>
          have p6 : post (noX (e ρ4 >>= fun y => compL g t e (wipeP ρ vs) (xs.drop (i + 1)) >>= fun ys => pure (y :: ys)) h5) (fun ys h' => OutO X.K F ω γ H Q (acc ++ ys) h') (fun _ _ => False) := p5
          rw [noX_bind, post_bind] at p6
          refine (if_pos rfl).mpr ⟨Fd F D, γ5, ω, ρ4, h5, R4.el L5, C5, post_mono (noX_post (E' := fun _ _ => False) p6) (fun y h6 p7 γ6 H6 u L6 C6 r6 => ?_) (fun _ _ z => z.elim)⟩
          rw [noX_bind, post_bind] at p7
          have L36 := L35.trans L6
          have eD6 : H6 D = some (.lst vs') := L6.kp D _ eD5 nD5
          have nD6 : D ∉ γ6 := fun m => (L6.nw D m).elim nD5 fun z => by rw [eD5] at z; cases z
          have lp := later_put (F := F) (γ := γ6) (ω := ω) (us := vs' ++ [u]) eD6
          have L26 := L2.trans L36
          refine ⟨vs', eD6, ?_, hlt, γ6, h6, acc ++ [y], vs' ++ [u], ⟨fun c o q m => ?_, fun c o q m => ?_, fun c q => ?_, L26.ga, L26.nw⟩, nD6, upd_same, ⟨C6.len, C6.nd, fun n b zs e1 e2 => ?_⟩, ?_, ?_, ?_⟩
          · have := racc.length
            omega
          · rw [upd_ne (fun z => by rw [z, nD] at q; cases q)]; exact L26.kp c o q m
          · rw [upd_ne (fun z => by rw [z, nD] at q; cases q)]; exact L26.nl c o q m
          · by_cases hc : c = D
            · subst hc; exact nD
            · rw [upd_ne hc] at q; exact L26.al c q
          · obtain ⟨us, e3, rr⟩ := C6.pl n b zs e1 e2
            refine ⟨us, by rw [upd_ne (fun z => nD6 (by rw [← z]; exact List.mem_of_getElem? e1))]; exact e3, rr.later ⟨fun _ _ _ n => absurd trivial n, lp.nl, lp.ga⟩⟩
          · rw [List.length_append]; simp only [List.length_cons, List.length_nil]; omega
          · exact ((racc.later L36.later).append (.cons r6 .nil)).later lp
          · refine post_mono p7 (fun ys h7 p8 => ?_) (fun _ _ z => z)
            have p8 : OutO X.K F ω γ H Q (acc ++ (y :: ys)) h7 := p8
            rw [List.append_assoc]
            exact p8
      · have e0 : i = xs.length := by omega
        subst e0
        rw [List.drop_length] at p2
        have p3 : OutO X.K F ω γ H Q (acc ++ []) h2 := p2
        rw [List.append_nil] at p3
        exact .inl ⟨stop _ (Nat.le_refl _), p3 γ2 H2 D vs' (L1.trans L2) C2 (L1.al D nD) nD2 eD (racc.bar fun b _ _ q => ob_fd.mpr q)⟩
  · exact p1.elim
section
variable {X : Cx} {W : WX} {elt tg it : Expr} {ifs : List Expr} {scope : Scope} {own : List (Str × Nat)} {pos spos py : Pos} {ms : AX} {g : GX} {is : List Nat} {mt : TX} {me : EX} {y : Str} {i : Nat}
theorem so_comp (hc : X.calm = true) (hN : X.N.Nodup) (si : SI X W tg it ms) (ok : BlkOk X.N X.env.scope scope own) (his : ∀ i ∈ is, i ∈ own.map (·.2))
    (sg : ∀ (s : Shared) (H : Hp) (C : Addr) (cl : List (Str × Addr)) (fp : List Addr), SG (X.blk s H scope (compEnvC scope cl C X.env) fp) tg g is) (sc : ∀ (s : Shared) (H : Hp) (C : Addr) (cl : List (Str × Addr)) (fp : List Addr), SC (X.blk s H scope (compEnvC scope cl C X.env) fp) W0 ifs mt)
    (se : ∀ (s : Shared) (H : Hp) (C : Addr) (cl : List (Str × Addr)) (fp : List Addr), SE (X.blk s H scope (compEnvC scope cl C X.env) fp) W0 elt me) (hs : ∀ x, foldedSetIterable it X.env x = pure x := by intro _; rfl) :
    SO X W (.ListComp elt [⟨tg, it, ifs, 0⟩] scope pos) (oComp (own.map (·.2)) ms g mt me) := by
  obtain ⟨ti, pi, qi⟩ := si.ex
  exact ⟨_, pe_lc hc hN pi ok (g := tGc X.K is g) (tt := tTc X.K W0 X.mg mt) (te := tEc X.K W0 X.mg me) (fun s H C cl fp => (sg s H C cl fp).can) (fun s H C cl fp => (sc s H C cl fp).can) (fun s H C cl fp => (se s H C cl fp).can) hs, lc_law qi his⟩
/-- name = [..] on one line: the list is one's own -/
theorem ss_compO (i : Nat) (hc : X.calm = true) (hN : X.N.Nodup) (si : SI X W tg it ms) (ok : BlkOk X.N X.env.scope scope own) (his : ∀ i ∈ is, i ∈ own.map (·.2))
    (sg : ∀ (s : Shared) (H : Hp) (C : Addr) (cl : List (Str × Addr)) (fp : List Addr), SG (X.blk s H scope (compEnvC scope cl C X.env) fp) tg g is) (sc : ∀ (s : Shared) (H : Hp) (C : Addr) (cl : List (Str × Addr)) (fp : List Addr), SC (X.blk s H scope (compEnvC scope cl C X.env) fp) W0 ifs mt)
    (se : ∀ (s : Shared) (H : Hp) (C : Addr) (cl : List (Str × Addr)) (fp : List Addr), SE (X.blk s H scope (compEnvC scope cl C X.env) fp) W0 elt me)
    (hsw : swapsWith (.ListComp elt [⟨tg, it, ifs, 0⟩] scope pos) (some (.Name y py)) spos.line X.env = pure true) (hy : X.N[i]? = some y := by rfl) (hyl : X.env.scope.names.lookup y = some .local := by rfl) (hs : ∀ x, foldedSetIterable it X.env x = pure x := by intro _; rfl) :
    SS X W (.Assign [.Name y py] (.ListComp elt [⟨tg, it, ifs, 0⟩] scope pos) spos) (sOwn i (oComp (own.map (·.2)) ms g mt me)) := by
  obtain ⟨ti, pi, qi⟩ := si.ex
  refine ⟨_, ps_setLc hc hN hy hyl hsw pi ok (g := tGc X.K is g) (tt := tTc X.K W0 X.mg mt) (te := tEc X.K W0 X.mg me) (fun s H C cl fp => (sg s H C cl fp).can) (fun s H C cl fp => (sc s H C cl fp).can) (fun s H C cl fp => (se s H C cl fp).can) hs, fun F γ ω ρ h σ H D R C p => ?_⟩
  unfold sOwn at p
  rw [post_bind] at p
  refine lc_law qi his F γ ω ρ h σ H _ R C (post_mono p (fun xs h1 p1 γ1 H1 a vs L1 C1 na ng ha r1 => ?_) (fun _ _ z => z.x))
  refine p1 γ1 (setω ω i (some a)) H1 _ ⟨fun c o e n _ => L1.kp c o e n, L1.nl, L1.al, L1.ga, L1.nw, fun j b e => ?_⟩ C1 (R.own L1 na ha ng r1)
  by_cases hj : j = i
  · subst hj; rw [setω_same] at e; cases e; exact .inr na
  · rw [setω_ne hj] at e; exact .inl ⟨j, e⟩
/-- .. it is a value -/
theorem ss_comp (i : Nat) (hc : X.calm = true) (hN : X.N.Nodup) (si : SI X W tg it ms) (ok : BlkOk X.N X.env.scope scope own) (his : ∀ i ∈ is, i ∈ own.map (·.2))
    (sg : ∀ (s : Shared) (H : Hp) (C : Addr) (cl : List (Str × Addr)) (fp : List Addr), SG (X.blk s H scope (compEnvC scope cl C X.env) fp) tg g is) (sc : ∀ (s : Shared) (H : Hp) (C : Addr) (cl : List (Str × Addr)) (fp : List Addr), SC (X.blk s H scope (compEnvC scope cl C X.env) fp) W0 ifs mt)
    (se : ∀ (s : Shared) (H : Hp) (C : Addr) (cl : List (Str × Addr)) (fp : List Addr), SE (X.blk s H scope (compEnvC scope cl C X.env) fp) W0 elt me)
    (hsw : swapsWith (.ListComp elt [⟨tg, it, ifs, 0⟩] scope pos) (some (.Name y py)) spos.line X.env = pure true) (hy : X.N[i]? = some y := by rfl) (hyl : X.env.scope.names.lookup y = some .local := by rfl) (hs : ∀ x, foldedSetIterable it X.env x = pure x := by intro _; rfl) :
    SS X W (.Assign [.Name y py] (.ListComp elt [⟨tg, it, ifs, 0⟩] scope pos) spos) (sSet i (fun ρ => oComp (own.map (·.2)) ms g mt me ρ >>= fun xs => pure (.lst xs))) := by
  obtain ⟨ti, pi, qi⟩ := si.ex
  refine ⟨_, ps_setLc hc hN hy hyl hsw pi ok (g := tGc X.K is g) (tt := tTc X.K W0 X.mg mt) (te := tEc X.K W0 X.mg me) (fun s H C cl fp => (sg s H C cl fp).can) (fun s H C cl fp => (sc s H C cl fp).can) (fun s H C cl fp => (se s H C cl fp).can) hs, fun F γ ω ρ h σ H D R C p => ?_⟩
  unfold sSet at p
  rw [post_bind, post_bind] at p
  refine lc_law qi his F γ ω ρ h σ H _ R C (post_mono p (fun xs h1 p1 γ1 H1 a vs L1 C1 na ng ha r1 => ?_) (fun _ _ z => z.x))
  refine p1 γ1 ω H1 _ L1.sl C1 ((R.el L1).set (.lst ha (fun z => ?_) (r1.bar fun _ _ _ m => .inl m)) i)
  rcases z with z | z | ⟨i, z⟩
  · obtain ⟨_, _, e⟩ := R.fo a z; rw [na] at e; cases e
  · exact ng z
  · obtain ⟨_, _, e⟩ := R.oc i a z; rw [na] at e; cases e
end

/-! ### a def -/
def startP (n : Nat) (args : List PV) : En := args.map .va ++ List.replicate (n - args.length) .no
def endM : Fl → M PV
  | .rt v => pure v
  | .nx _ => pure .non
  | _ => M.stuck
def runFn (n : Nat) (m : SX) : List PV → M PV := fun args => m (startP n args) >>= endM
theorem fn_pl {P : Program} {w : World} {K : PySem.W.Frag} {mg : Str → Option Value} {base : Heap} {x qual : Str} {st : Stmt} {f : Addr} {fd : FuncData} {N ps : List Str} {k : Nat} {m : SX} (Fn : Fun K x qual st f fd) (S : FnScope N ps (defScope st))
    (hb : ∀ (cdv : Value) (A : Around) (outer : List Env) (s : Shared) (H : Hp) (E : XK), Room k (A.deeper (envOfC qual (defScope st) s.heap.objs.size f cdv)) →
      SSs (cxOf (L2.CX P w) P w K mg base N qual (defScope st) f cdv A outer s H E) (fun cls d _ H => E cls d H) (defBody st) m) :
    FnOk P w K mg base (L2.CX P w) (k + 1) f fd ps (spF P K mg ps.length (runFn N.length m)) := by
  refine Fn.okX S (fun vs H Q E h => ?_) (fun cdv A outer s H vs Q E hr h => ?_)
  · obtain ⟨F, γ, hc, args, hl, hF, C, r, p⟩ := h
    rw [← hl, r.length]
  · obtain ⟨F, γ, hc, args, hl, hF, C, r, p⟩ := h
    obtain ⟨t, pt, q⟩ := (hb cdv A outer s H E hr).ex
    refine ⟨t, pt, q F γ ω0 (startP N.length args) hc (L2.start N vs) H _ ?_ C ?_⟩
    · have hlen : args.length = vs.length := r.length
      refine ⟨?_, fun i p e => ?_, fun i xs e => ?_, (fun i j a e => by cases e), (fun i a e => by cases e), (fun i a e => by cases e), hF⟩
      · unfold startP L2.start
        rw [List.length_append, List.length_append, List.length_map, List.length_map, List.length_replicate, List.length_replicate, hlen]
      · unfold startP at e
        by_cases hi : i < args.length
        · rw [List.getElem?_append_left (by simpa using hi), List.getElem?_map] at e
          cases e2 : args[i]? with
          | none => rw [e2] at e; cases e
          | some p' =>
            rw [e2] at e; cases e
            obtain ⟨v, e3, r3⟩ := r.get e2
            refine ⟨v, ?_, r3⟩
            unfold L2.start
            rw [List.getElem?_append_left (by simpa [← hlen] using hi), List.getElem?_map, e3]; rfl
        · rw [List.getElem?_append_right (by simpa using hi), List.getElem?_replicate] at e
          split at e <;> cases e
      · unfold startP at e
        by_cases hi : i < args.length
        · rw [List.getElem?_append_left (by simpa using hi), List.getElem?_map] at e
          cases e2 : args[i]? with
          | none => rw [e2] at e; cases e
          | some p' => rw [e2] at e; cases e
        · rw [List.getElem?_append_right (by simpa using hi), List.getElem?_replicate] at e
          split at e <;> cases e
    · unfold runFn at p
      rw [post_bind] at p
      have el : ∀ {γ' ω' H'}, SL γ ω0 H γ' ω' H' → EL γ H γ' H' := fun L => ⟨fun a o e n => L.kp a o e n (fun _ => nofun), L.nl, L.al, L.ga, L.nw⟩
      refine post_mono p (fun f h1 p1 => ?_) (fun ex h1 o γ' ω' H' cls d σ' L C' xr => o γ' H' cls d (el L) C' xr)
      cases f with
      | nx ρ1 => exact fun γ' ω' H' σ' L C' R' => p1 γ' H' .non (el L) C' .non
      | rt v => exact fun γ' ω' H' u L C' r' => p1 γ' H' u (el L) C' r'
      | bk _ => exact p1.elim
      | ct _ => exact p1.elim
/-! ### a list becomes a shared cell -/
def newCell (xs : List PV) : M PV := fun h => if flats xs = true then .ok (.cell h.length) (h ++ [xs]) else .stuck
def eCell (m : AX) : EX := fun ρ => m ρ >>= newCell
theorem SO.cell {X : Cx} {W : WX} {e : Expr} {m : AX} (s : SO X W e m) : SE X W e (eCell m) := by
  obtain ⟨t, p, q⟩ := s.ex
  refine ⟨t, p, fun F γ ω ρ h σ H Q R C p => q F γ ω ρ h σ H Q R C ?_⟩
  unfold eCell at p
  rw [post_bind] at p
  refine post_mono p (fun xs h1 p1 γ1 H1 a vs L1 C1 na ng ha r1 => ?_) (fun _ _ z => z)
  unfold newCell at p1
  split at p1
  · rename_i hf
    have p1 : OutV X.K F ω γ H Q (.cell h1.length) (h1 ++ [xs]) := p1
    have ga : ∀ (n : Nat) (b : Addr), γ1[n]? = some b → (γ1 ++ [a])[n]? = some b := fun n b e => by
      rw [List.getElem?_append_left (List.getElem?_eq_some_iff.mp e).1]; exact e
    have up : EL γ1 H1 γ1 H1 := EL.refl
    refine p1 (γ1 ++ [a]) H1 (.ref a) ⟨L1.kp, L1.nl, L1.al, fun n b e => ga n b (L1.ga n b e), fun b m => ?_⟩ ⟨by rw [List.length_append, List.length_append, C1.len]; rfl, ?_, fun n b zs e1 e2 => ?_⟩ (.cell ?_)
    · rcases List.mem_append.mp m with m | m
      · exact L1.nw b m
      · exact .inr (by rw [List.mem_singleton.mp m]; exact na)
    · exact List.nodup_append.mpr ⟨C1.nd, List.nodup_cons.mpr ⟨by simp, List.nodup_nil⟩, fun b hb c hc e => ng (by rw [List.mem_singleton] at hc; rw [← hc, ← e]; exact hb)⟩
    · have lt : Later OT γ1 H1 OT (γ1 ++ [a]) H1 := ⟨fun _ _ _ n => absurd trivial n, fun _ _ e _ => e, ga⟩
      by_cases hn : n < γ1.length
      · rw [List.getElem?_append_left hn] at e1
        rw [List.getElem?_append_left (by rw [← C1.len]; exact hn)] at e2
        obtain ⟨us, e3, rr⟩ := C1.pl n b zs e1 e2
        exact ⟨us, e3, rr.later lt⟩
      · rw [List.getElem?_append_right (by omega)] at e1
        rw [List.getElem?_append_right (by rw [← C1.len]; omega)] at e2
        have hn0 : n - γ1.length = 0 := by
          have := (List.getElem?_eq_some_iff.mp e1).1
          simp only [List.length_cons, List.length_nil] at this
          omega
        rw [hn0] at e1
        rw [← C1.len, hn0] at e2
        cases e1; cases e2
        exact ⟨vs, ha, (r1.flat hf).later lt⟩
    · rw [List.getElem?_append_right (by rw [C1.len]; exact Nat.le_refl _), C1.len, Nat.sub_self]; rfl
  · exact p1.elim

/-! ### a def of the text, to be called -/
structure Def1 (P : Program) (w : World) (K : PySem.W.Frag) (mg : Str → Option Value) (base : Heap) (k : Nat) (x : Str) (n : Nat) (g : List PV → M PV) : Prop where
  ex : ∃ f fd ps, FnOk P w K mg base (L2.CX P w) k f fd ps (spF P K mg n g) ∧ mg x = some (.ref f) ∧ PySem.W.keepIn K (.ref f) = true ∧ Binds K fd ps []
section
variable {X : Cx} {W : WX} {k j : Nat} {x : Str} {p pos : Pos} {e : Expr} {es : List Expr} {m : AX} {g : List PV → M PV} {n : Nat}
theorem se_callD (D : Def1 X.prog X.w X.K X.mg X.base k x n g) (hr : Room j X.A) (hk : k ≤ j) (tk : Takes X W) (sa : SA X W (e :: es) m) (hg : Gl X x := by rfl) (hdb : (x == ("__debug__" : Str)) = false := by decide) (he : starEach (e :: es) X.env = (false, eval e X.env) :: starEach es X.env := by rfl) (hpl : (backTo pos (starEach es X.env)).any (·.1) = false := by rfl) :
    SE X W (.Call (.Name x p) (e :: es) [] pos) (eCall g n m) := by
  obtain ⟨f, fd, ps, Fn, hm, hkp, hb⟩ := D.ex
  exact se_call Fn (hr.mono hk) tk hm hkp hb sa hg hdb he hpl
end
/-- str of a text, of an int -/
def pStr : PV → M PV
  | .str z => pure (.str z)
  | .int i => if i.natAbs.log2 < 1920 then pure (.str (toString i)) else M.stuck
  | _ => M.stuck
theorem nox_str : NoX1 pStr := fun x h => by
  cases x <;> first | (intro e h' q; cases q; done) | skip
  rename_i i
  show ∀ e h', (if i.natAbs.log2 < 1920 then pure (.str (toString i)) else M.stuck : M PV) h ≠ .exc e h'
  split
  · exact pure_nox
  · exact stuck_nox
def rStrX : List V → Hp → VK → Prop := fun xs H Q => (∃ a, xs = [V.str a] ∧ Q (.str a) H) ∨ ∃ i, xs = [V.int i] ∧ i.natAbs.log2 < 1920 ∧ Q (.str (toString i)) H
theorem call_strX {X : Cx} : CallR X (.type "str") rStrX := SkE.call_str_str.or call_str_int
theorem c_str {K : PySem.W.Frag} : CallS K rStrX (f1 pStr) := cs_f1 fun F γ ω h H x v Q C B rx p => by
  cases x <;> first | exact p.elim | skip
  · rename_i i
    have p : post ((if i.natAbs.log2 < 1920 then pure (.str (toString i)) else M.stuck : M PV) h) (OutV K F ω γ H Q) (fun _ _ => False) := p
    split at p
    · rename_i hl
      cases rx
      exact .inr ⟨_, rfl, hl, OutV.now p C (.str _)⟩
    · exact p.elim
  · cases rx; exact .inl ⟨_, rfl, OutV.now p C (.str _)⟩

/-! ### a tuple's parts, to names, some of them new lists of one's own -/
def setAll : L2.St → List Nat → List V → L2.St
  | σ, i :: is, v :: vs => setAll (σ.set i (some v)) is vs
  | σ, _, _ => σ
def setAllP : En → List Nat → List Sw → En
  | ρ, i :: is, x :: xs => setAllP (ρ.set i x.sl) is xs
  | ρ, _, _ => ρ
structure SNs (X : Cx) (ts : List Expr) (is : List Nat) : Prop where
  ex : ∃ t, PGs X ts t ∧ ∀ vs σ H Q, vs.length = is.length → Q (setAll σ is vs) H → t vs σ H Q
theorem sns_nil {X : Cx} : SNs X [] [] := ⟨_, pgs_nil, fun vs σ H Q hl q => by
  cases vs with
  | nil => exact ⟨rfl, q⟩
  | cons _ _ => cases hl⟩
theorem sns_cons {X : Cx} {x : Str} {es : List Expr} {is : List Nat} {pos : Pos} (i : Nat) (hN : X.N.Nodup) (r : SNs X es is) (hi : X.N[i]? = some x := by rfl) (hx : Loc X.env.scope x := by first | exact Or.inl rfl | exact Or.inr rfl)
    (hf : X.fn x = true ∨ X.env.scope.names.lookup x = some .local := by first | exact .inl rfl | exact .inr rfl | assumption)
    (hs : (assignEach (.Name x pos :: es) X.env).map (·.2) = assign (.Name x pos) X.env :: (assignEach es X.env).map (·.2) := by rfl) : SNs X (.Name x pos :: es) (i :: is) := by
  obtain ⟨t, p, q⟩ := r.ex
  refine ⟨_, pgs_cons (pg_name hN hi hx hf) p hs, fun vs σ H Q hl qq => ?_⟩
  cases vs with
  | nil => cases hl
  | cons v vs => exact ⟨v, vs, rfl, q vs _ H Q (by simpa using hl) qq⟩
theorem ER.putAll {K : PySem.W.Frag} {F : Addr → Prop} {γ : List Addr} {H : Hp} {n : Nat} : ∀ {is : List Nat} {xs : List Sw} {vs : List V} {ω : Nat → Option Addr} {ρ : En} {σ : L2.St}, ER K F γ ω H ρ σ → ρ.length ≤ n → (∀ i ∈ is, i < ρ.length) → xs.length = is.length → Mix K F γ ω H n xs vs →
    ∃ ω2, ER K F γ ω2 H (setAllP ρ is xs) (setAll σ is vs) ∧ ∀ j b, ω2 j = some b → ∃ j', ω j' = some b
  | [], xs, vs, ω, ρ, σ, R, hn, hi, hl, m => by
    have : setAllP ρ [] xs = ρ := by cases xs <;> rfl
    rw [this]
    have : setAll σ [] vs = σ := by cases vs <;> rfl
    rw [this]
    exact ⟨ω, R, fun j b e => ⟨j, e⟩⟩
  | i :: is, [], vs, ω, ρ, σ, R, hn, hi, hl, m => by cases hl
  | i :: is, x :: xs, vs, ω, ρ, σ, R, hn, hi, hl, m => by
    obtain ⟨v, vs, rfl⟩ : ∃ v vs', vs = v :: vs' := by cases m <;> exact ⟨_, _, rfl⟩
    obtain ⟨ω2, R2, m2, n2⟩ := R.putM hn (hi i List.mem_cons_self) m
    obtain ⟨ω3, R3, n3⟩ := ER.putAll (is := is) R2 (by rw [List.length_set]; exact hn) (fun j hj => by rw [List.length_set]; exact hi j (List.mem_cons_of_mem _ hj)) (by simpa using hl) m2
    exact ⟨ω3, R3, fun j b e => let ⟨j1, e1⟩ := n3 j b e; n2 j1 b e1⟩
theorem Mix.length {K : PySem.W.Frag} {F : Addr → Prop} {γ : List Addr} {ω : Nat → Option Addr} {H : Hp} : ∀ {n : Nat} {xs : List Sw} {vs : List V}, Mix K F γ ω H n xs vs → xs.length = vs.length
  | _, _, _, .nil => rfl
  | _, _, _, .va _ m => congrArg (· + 1) m.length
  | _, _, _, .ow _ _ _ _ m => congrArg (· + 1) m.length
theorem Mix.new {K : PySem.W.Frag} {F : Addr → Prop} {γ : List Addr} {ω : Nat → Option Addr} {H : Hp} {p : Addr} {o : HO} (np : H p = none) : ∀ {n : Nat} {xs : List Sw} {vs : List V}, Mix K F γ ω H n xs vs → Mix K F γ ω (upd H p o) n xs vs
  | _, _, _, .nil => .nil
  | _, _, _, .va r m => .va (r.later (EL.new np).later) (m.new np)
  | _, _, _, .ow h1 h2 h3 h4 m => .ow h1 h2 (by rw [upd_ne (ne_of_none h3 np)]; exact h3) (h4.later (EL.new np).later) (m.new np)
def sParT (is : List Nat) (m : En → M (List Sw)) : SX := fun ρ => m ρ >>= fun xs => if xs.length = is.length ∧ xs.length ≤ sizeLine ∧ (is.all fun i => decide (i < ρ.length)) = true then pure (.nx (setAllP ρ is xs)) else M.stuck
section
variable {X : Cx} {W : WX} {es ts : List Expr} {is : List Nat} {m : En → M (List Sw)} {pos pt pt2 : Pos} {kt k2 n : Nat}
theorem ss_parT (hc : X.calm = true) (s : SM X W es m) (sn : SNs X ts is) (hn : (assignEach ts X.env).length = n := by rfl) (hst : (assignEach ts X.env).findIdx? (·.1) = none := by rfl) (hni : is.length = n := by rfl)
    (hs : swapsWithSole [.Tuple ts kt pt] (.Tuple es k2 pt2) pos.line X.env = pure false := by rfl) (hw : swappedStores [.Tuple ts kt pt] (.Tuple es k2 pt2) X.env = pure none := by rfl)
    (h1 : (assignEach [.Tuple ts kt pt] X.env).map (·.2) = [assign (.Tuple ts kt pt) X.env] := by rfl) : SS X W (.Assign [.Tuple ts kt pt] (.Tuple es k2 pt2) pos) (sParT is m) := by
  obtain ⟨t, p, q⟩ := s.ex
  obtain ⟨t', p', q'⟩ := sn.ex
  refine ⟨_, ps_asg (pe_tup p) (pg_tup hc p' hn hst) hs hw h1, fun F γ ω ρ h σ H D R C p => ?_⟩
  unfold sParT at p
  rw [post_bind] at p
  refine q F γ _ ρ h σ H ρ.length _ R.trim C (fun i hi => if_neg (by omega)) (Nat.le_refl _) (post_mono p (fun xs h1 p1 γ1 ω1 H1 vs L1 C1 R1 n1 k1 mx => ?_) (fun _ _ z => z.x))
  split at p1
  · rename_i hl
    obtain ⟨hl1, hl2, hl3⟩ := hl
    refine ⟨by rw [← mx.length]; exact hl2, fun T nT => ⟨T, vs, rfl, .inl (.inl upd_same), by rw [← mx.length, hl1, hni], q' vs σ _ _ (by rw [← mx.length, hl1]) ?_⟩⟩
    obtain ⟨ω3, R3, n3⟩ := ER.putAll (is := is) (R1.el (EL.new nT)) (Nat.le_refl _) (fun i hi => of_decide_eq_true (List.all_eq_true.mp hl3 i hi)) hl1 (mx.new nT)
    have L2 := L1.trans (EL.new (o := .tup vs) nT)
    refine p1 γ1 ω3 _ _ ⟨fun c o e n _ => L2.kp c o e n, L2.nl, L2.al, L2.ga, L2.nw, fun j b e => ?_⟩ (C1.new nT) R3
    obtain ⟨j2, e2⟩ := n3 j b e
    rcases n1 j2 b e2 with z | z
    · exact .inl ⟨j2, trim_le (F := F) (γ := γ) (H := H) (Q := True) _ _ z⟩
    · exact .inr z.2
  · exact p1.elim
end

/-! ### one's own list is lent to an expression whose value holds none of it -/
def eBor (i : Nat) (m : EX) : EX := fun ρ => match ρ[i]? with
  | some (.ow xs) => m (ρ.set i (.va (.lst xs))) >>= fun v => if v.flat = true then pure v else M.stuck
  | _ => m ρ
def tBor (i : Nat) (m : TX) : TX := fun ρ => match ρ[i]? with
  | some (.ow xs) => m (ρ.set i (.va (.lst xs)))
  | _ => m ρ
def oBor (i : Nat) (m : AX) : AX := fun ρ => match ρ[i]? with
  | some (.ow xs) => m (ρ.set i (.va (.lst xs))) >>= fun v => if flats v = true then pure v else M.stuck
  | _ => m ρ
theorem SE.bor {X : Cx} {W : WX} {e : Expr} {m : EX} (i : Nat) (s : SE X W e m) : SE X W e (eBor i m) := by
  obtain ⟨t, pe, q⟩ := s.ex
  refine ⟨t, pe, fun F γ ω ρ h σ H Q R C po => ?_⟩
  unfold eBor at po
  cases hx : ρ[i]? with
  | none => rw [hx] at po; exact q F γ ω ρ h σ H Q R C po
  | some sl =>
    rw [hx] at po
    cases sl with
    | no => exact q F γ ω ρ h σ H Q R C po
    | va _ => exact q F γ ω ρ h σ H Q R C po
    | ow xs =>
      have po : post ((m (ρ.set i (.va (.lst xs))) >>= fun v => if v.flat = true then pure v else M.stuck) h) (OutV X.K F ω γ H Q) (OutX X.K W X.mg γ H σ) := po
      rw [post_bind] at po
      refine q F γ _ _ h σ H Q (R.freeze hx) C (post_mono po (fun v h1 p1 γ1 H1 u L1 C1 r1 => ?_) (fun _ _ z => z))
      split at p1
      · rename_i fv
        exact p1 γ1 H1 u L1 C1 (r1.flat fv).any
      · exact p1.elim
theorem ST.bor {X : Cx} {W : WX} {e : Expr} {m : TX} (i : Nat) (s : ST X W e m) : ST X W e (tBor i m) := by
  obtain ⟨t, pe, q⟩ := s.ex
  refine ⟨t, pe, fun F γ ω ρ h σ H Q R C po => ?_⟩
  unfold tBor at po
  cases hx : ρ[i]? with
  | none => rw [hx] at po; exact q F γ ω ρ h σ H Q R C po
  | some sl =>
    rw [hx] at po
    cases sl with
    | no => exact q F γ ω ρ h σ H Q R C po
    | va _ => exact q F γ ω ρ h σ H Q R C po
    | ow xs => exact q F γ _ _ h σ H Q (R.freeze hx) C po
theorem SO.bor {X : Cx} {W : WX} {e : Expr} {m : AX} (i : Nat) (s : SO X W e m) : SO X W e (oBor i m) := by
  obtain ⟨t, pe, q⟩ := s.ex
  refine ⟨t, pe, fun F γ ω ρ h σ H Q R C po => ?_⟩
  unfold oBor at po
  cases hx : ρ[i]? with
  | none => rw [hx] at po; exact q F γ ω ρ h σ H Q R C po
  | some sl =>
    rw [hx] at po
    cases sl with
    | no => exact q F γ ω ρ h σ H Q R C po
    | va _ => exact q F γ ω ρ h σ H Q R C po
    | ow xs =>
      have po : post ((m (ρ.set i (.va (.lst xs))) >>= fun v => if flats v = true then pure v else M.stuck) h) (OutO X.K F ω γ H Q) (OutX X.K W X.mg γ H σ) := po
      rw [post_bind] at po
      refine q F γ _ _ h σ H Q (R.freeze hx) C (post_mono po (fun v h1 p1 γ1 H1 a us L1 C1 na ng ha r1 => ?_) (fun _ _ z => z))
      split at p1
      · rename_i fv
        exact p1 γ1 H1 a us L1 C1 na ng ha (r1.flat fv).any
      · exact p1.elim
def eOfO (m : AX) : EX := fun ρ => m ρ >>= fun xs => pure (.lst xs)
theorem SO.val {X : Cx} {W : WX} {e : Expr} {m : AX} (s : SO X W e m) : SE X W e (eOfO m) := s.se
theorem se_gintE {X : Cx} {W : WX} {x : Str} {i : Int} {pos : Pos} (hm : ∃ t, X.mg x = some (.int i t)) (hg : Gl X x := by rfl) (hd : (x == ("__debug__" : Str)) = false := by decide) : SE X W (.Name x pos) (eC (.int i)) := by
  obtain ⟨t, e⟩ := hm
  exact se_gint e hg hd
theorem se_gstrE {X : Cx} {W : WX} {x : Str} {i : Str} {pos : Pos} (hm : ∃ t, X.mg x = some (.str i t)) (hg : Gl X x := by rfl) (hd : (x == ("__debug__" : Str)) = false := by decide) : SE X W (.Name x pos) (eC (.str i)) := by
  obtain ⟨t, e⟩ := hm
  exact se_gstr e hg hd
/-! ### append -/
def apF (xs as : List PV) : Option (List PV) := match as with
  | [v] => if xs.length < sizeLine then some (xs ++ [v]) else none
  | _ => none
theorem o_append {K : PySem.W.Frag} : OwnM K rAppend apF := by
  intro O γ H a xs vs as us Q ha r rs ys e q
  match as, rs, e with
  | [], _, e => cases e
  | _ :: _ :: _, _, e => cases e
  | [v], rs, e =>
    obtain ⟨u, rfl, ru⟩ := rs.one
    have e : (if xs.length < sizeLine then some (xs ++ [v]) else none) = some ys := e
    split at e
    · rename_i hl
      cases e
      exact ⟨a, vs, u, rfl, rfl, ha, by rw [← r.length]; exact hl, q _ (r.append (.cons ru .nil))⟩
    · cases e
/-! ### x += a list, x one's own -/
def sAugL (i : Nat) (m : EX) : SX := onOw i fun xs ρ => m ρ >>= fun v => match v with
  | .lst ys => if xs.length + ys.length ≤ sizeLine then pure (.nx (ρ.set i (.ow (xs ++ ys)))) else M.stuck
  | _ => M.stuck
theorem ss_augL {X : Cx} {W : WX} {x : Str} {e : Expr} {m : EX} {pos pos' : Pos} (i : Nat) (hN : X.N.Nodup) (s : SE X W e m) (hi : X.N[i]? = some x := by rfl) (hx : Loc X.env.scope x := by first | exact Or.inl rfl | exact Or.inr rfl)
    (hf : X.fn x = true ∨ X.env.scope.names.lookup x = some .local := by first | exact .inl rfl | exact .inr rfl | assumption) : SS X W (.AugAssign (.Name x pos') .Add e pos) (sAugL i m) := by
  obtain ⟨t, p, q⟩ := s.ex
  refine ⟨_, ps_aug hN hi hx p iop_ext hf, fun F γ ω ρ h σ H D R C p => ?_⟩
  obtain ⟨xs, hx, p⟩ := onOw_post p
  obtain ⟨a, vs, h0, h1', h2, r0⟩ := R.ow i xs hx
  rw [post_bind] at p
  refine ⟨.ref a, h1', q F γ ω ρ h σ H _ R C (post_mono p (fun v h1 p1 γ1 H1 u L1 C1 r1 => ?_) (fun _ _ z => z.x))⟩
  cases v with
  | lst ys =>
    have p2 : post ((if xs.length + ys.length ≤ sizeLine then pure (.nx (ρ.set i (.ow (xs ++ ys)))) else M.stuck : M Fl) h1) (OutS X.K F γ ω H D) (OutSX X.K W X.mg γ ω H) := p1
    split at p2
    · rename_i hl
      have R1 := R.el L1
      obtain ⟨a', vs', k0, k1, k2, rr⟩ := R1.ow i xs hx
      rw [h0] at k0; cases k0
      cases r1 with
      | lst s2 o2 r2 =>
        refine ⟨a, _, vs', _, rfl, rfl, k2, s2, by rw [← rr.length, ← r2.length]; exact hl, ?_⟩
        have ng := (R1.oc i a h0).1
        have hi : i < ρ.length := (List.getElem?_eq_some_iff.mp hx).1
        have e1 : σ.set i (some (.ref a)) = σ := by
          apply List.ext_getElem?
          intro j
          by_cases hj : i = j
          · subst hj; rw [List.getElem?_set_self (by rw [← R.len]; exact hi), h1']
          · rw [List.getElem?_set_ne hj]
        show D.nx (σ.set i (some (.ref a))) _
        rw [e1]
        exact p2 γ1 ω _ σ (L1.sl.trans (SL.put h0 ng k2)) (C1.put h0 ng k2) (R1.put hi h0 h1' (rr.append r2))
    · exact p2.elim
  | _ => exact p1.elim

/-! ### the text's defs as they stand -/
structure DA (K : PySem.W.Frag) (mg : Str → Option Value) (x : Str) (st : Stmt) (ps : List Str) : Prop where
  ex : ∃ f fd, Fun K x x st f fd ∧ mg x = some (.ref f) ∧ Binds K fd ps [] ∧ ∀ (s : Shared) (us : List Value), us.length = ps.length → BindsTo s fd ⟨us, []⟩ (ps.zip us)
theorem da_mk {K : PySem.W.Frag} {h : Heap} {mg : Str → Option Value} {x : Str} {st : Stmt} {ps : List Str} {f : Addr} {oc : Value} {od an : Option Addr} {osl : Array (Option Value)} {kV doc pm cdv ct : Value} (X : K.In h) (G : h.Ns mainGlobals mg)
    (hb : ∀ (kV doc pm : Value) (an : Option Addr) (cdv ct : Value) (us : List Value), us.length = ps.length → bindArgs (PySem.W.fnOf x x (defArgs st) (defBody st) (defScope st) .none kV doc pm an cdv ct) ⟨us, []⟩ = pure (ps.zip us))
    (a : PySem.W.nsIn K mainGlobals x = some (some (.ref f))) (l : K.lookup f = some ⟨oc, od, .func (PySem.W.fnOf x x (defArgs st) (defBody st) (defScope st) .none kV doc pm an cdv ct), osl⟩)
    (c : PySem.W.codeIn K cdv x = true) (k : PySem.W.keepIn K (.ref f) = true) : DA K mg x st ps :=
  have F := fun_mk (st := st) l c k
  ⟨f, _, F, PySem.W.mg_of X G a, F.binds hb, fun s us hl => .of_eq (hb kV doc pm an cdv ct us hl)⟩
theorem def_of {P : Program} {w : World} {K : PySem.W.Frag} {mg : Str → Option Value} {base : Heap} {x : Str} {st : Stmt} {N ps : List Str} {k n : Nat} {m : SX} (a : DA K mg x st ps) (S : FnScope N ps (defScope st)) (hn : ps.length = n)
    (hb : ∀ (f : Addr) (cdv : Value) (A : Around) (outer : List Env) (s : Shared) (H : Hp) (E : XK), Room k (A.deeper (envOfC x (defScope st) s.heap.objs.size f cdv)) →
      SSs (cxOf (L2.CX P w) P w K mg base N x (defScope st) f cdv A outer s H E) (fun cls d _ H => E cls d H) (defBody st) m) : Def1 P w K mg base (k + 1) x n (runFn N.length m) := by
  obtain ⟨f, fd, Fn, hm, hb', _⟩ := a.ex
  subst hn
  exact ⟨f, fd, ps, fn_pl Fn S (hb f), hm, Fn.kp, hb'⟩
theorem def_stuck {P : Program} {w : World} {K : PySem.W.Frag} {mg : Str → Option Value} {base : Heap} {x : Str} {st : Stmt} {ps : List Str} {k n : Nat} (a : DA K mg x st ps) : Def1 P w K mg base k x n (fun _ => M.stuck) := by
  obtain ⟨f, fd, Fn, hm, hb', _⟩ := a.ex
  exact ⟨f, fd, ps, ⟨fun vs H Q E ⟨_, _, _, _, _, _, _, _, z⟩ => z.elim, fun A outer s H args us vs Q E hr e0 hb r ⟨_, _, _, _, _, _, _, _, z⟩ => z.elim⟩, hm, Fn.kp, hb'⟩

/-- the law's own def -/
theorem law_end {P : Program} {w : World} {K : PySem.W.Frag} {mg : Str → Option Value} {x y : Str} {st : Stmt} {N : List Str} {k : Nat} {m : SX} {fa : Addr} (a : DA K mg x st [y]) (S : FnScope N [y] (defScope st)) (hm : mg x = some (.ref fa))
    (hb : ∀ (base : Heap) (f : Addr) (cdv : Value) (A : Around) (outer : List Env) (s : Shared) (H : Hp) (E : XK), Room k (A.deeper (envOfC x (defScope st) s.heap.objs.size f cdv)) →
      SSs (cxOf (L2.CX P w) P w K mg base N x (defScope st) f cdv A outer s H E) (fun cls d _ H => E cls d H) (defBody st) m) :
    ∃ fd : FuncData, (∀ (s : Shared) (u : Value), BindsTo s fd ⟨[u], []⟩ [(y, u)]) ∧
      ∀ base : Heap, K.In base → base.Ns mainGlobals mg → FnOk P w K mg base (L2.CX P w) (k + 1) fa fd [y] (spF P K mg 1 (runFn N.length m)) := by
  obtain ⟨f, fd, Fn, hm', _, hbt⟩ := a.ex
  rw [hm] at hm'
  cases hm'
  exact ⟨fd, fun s u => hbt s [u] rfl, fun base _ _ => fn_pl Fn S (hb base fa)⟩
def NxG (g : GX) : Prop := ∀ v ρ h e h', g v ρ h ≠ .exc e h'
def NxGs (g : GsX) : Prop := ∀ v ρ h e h', g v ρ h ≠ .exc e h'
theorem nx_n {i : Nat} : NxG (gN i) := fun _ _ _ => gN_nx
theorem nx_nil : NxGs gNilX := fun v ρ h e h' q => by cases v <;> cases q
theorem nx_cons {g : GX} {gs : GsX} (a : NxG g) (b : NxGs gs) : NxGs (gConsX g gs) := fun v ρ h e h' q => by
  cases v with
  | nil => cases q
  | cons p ps =>
    have q : M.bind (g p ρ) (fun ρ' => gs ps ρ') h = Res.exc e h' := q
    unfold M.bind at q
    cases e1 : g p ρ h with
    | ok ρ' h1 => rw [e1] at q; exact b _ _ _ _ _ q
    | exc e2 h2 => exact a _ _ _ _ _ e1
    | stuck => rw [e1] at q; cases q
theorem nx_t {gs : GsX} (b : NxGs gs) : NxG (gT gs) := fun v ρ h e h' q => by
  cases v with
  | tup ps => exact b _ _ _ _ _ q
  | _ => cases q
/-! ### the end -/
theorem pl_end {l : PySem.W.OpenLaw} {n k : Nat} {q : Program} {loose : List Str} {XP : (Str → Option Value) → Heap → Prop} {YP : World → Heap → Prop} {d : DefRec} {K : Params → PySem.W.Frag} {x : Str} {g : List PV → M PV}
    (hn : l.most = some n) (hn2 : n ≤ sizeLine) (hdf : d.params.defaults = []) (hr : Room k callerA) (hY : ∀ (w : World) (h : Heap), YP w h → (K w.params).In h)
    (F : ∀ (w : World) (mg : Str → Option Value) (fa : Addr) (h : Heap), (K w.params).In h → h.Ns mainGlobals mg → XP mg h → mg d.name = some (.ref fa) →
      ∃ fd : FuncData, (∀ (s : Shared) (u : Value), BindsTo s fd ⟨[u], []⟩ [(x, u)]) ∧
        ∀ base : Heap, (K w.params).In base → base.Ns mainGlobals mg → FnOk l.prog w (K w.params) mg base (L2.CX l.prog w) k fa fd [x] (spF l.prog (K w.params) mg 1 g))
    (law : ∀ ns : List Int, ns.length ≤ n → ∃ h', g [.scr (ns.map PV.int)] [] = .ok (.bl true) h') :
    PySem.W.WalkO q loose XP YP l.row.toRowW d [] (fun f vs => PySem.call f vs) := by
  refine Att.attach_call hn hdf fun w s₀ s₁ mg mb fa o pm cd doc a vs ns G Y ho hd hcd hmg hobj hints hlen hg => ?_
  have KX := hY w _ Y
  obtain ⟨fd, hb, hF⟩ := F w mg fa _ KX G.T.g G.X hmg
  refine law_call KX G.T.g G.T.b G.T.builtins G.T.nolimit hg hobj hints (Nat.le_trans hlen hn2) hr hF hb (fun H hO hS => ?_) fun H e s' hx => ?_
  · obtain ⟨h', e⟩ := law ns hlen
    refine ⟨fun _ => False, [], [], [.scr (ns.map PV.int)], rfl, fun _ f => f.elim, ⟨rfl, List.nodup_nil, fun n a xs e _ => by simp at e⟩, .cons (.scr ?_ Reps.of_ints) .nil, ?_⟩
    · rcases hS with (hS | ⟨o, hS⟩) | hS
      · rcases hO a with z | ⟨o, xs, z⟩
        · rw [hS] at z; cases z
        · rw [hS] at z; cases z
      · exact .inl ⟨o, hS⟩
      · exact .inr hS
    · rw [e]
      intro γ' H' v L C r
      cases r
      rfl
  · obtain ⟨_, _, _, _, _, _, _, _, _, _, _, _, z⟩ := hx
    exact z.elim
theorem gint_of {K : PySem.W.Frag} {h : Heap} {mg : Str → Option Value} {x : Str} {i : Int} {t : Tok} (X : K.In h) (G : h.Ns mainGlobals mg) (a : PySem.W.nsIn K mainGlobals x = some (some (.int i t))) : ∃ t, mg x = some (.int i t) := ⟨t, PySem.W.mg_of X G a⟩
theorem gstr_of {K : PySem.W.Frag} {h : Heap} {mg : Str → Option Value} {x : Str} {i : Str} {t : Tok} (X : K.In h) (G : h.Ns mainGlobals mg) (a : PySem.W.nsIn K mainGlobals x = some (some (.str i t))) : ∃ t, mg x = some (.str i t) := ⟨t, PySem.W.mg_of X G a⟩
theorem gint_loose {p : Program} {lv : List (Str × PySem.W.WData)} {mg : Str → Option Value} {h : Heap} {x : Str} {i : Int} (X : PySem.W.XL p lv mg h) (hx : (x, PySem.W.WData.int i) ∈ lv) : ∃ t, mg x = some (.int i t) := by
  obtain ⟨v, e, r⟩ := X.2.val _ hx
  cases r
  exact ⟨_, e⟩
/-! the plain meaning is stepped through: continuations have names, so that simp steps in the order of the program -/

abbrev PQ (α : Type) := α → Hc → Prop
abbrev NoE : PExc → Hc → Prop := fun _ _ => False
/-- m h ends well, and then Q -/
def wp {α : Type} (m : M α) (h : Hc) (Q : PQ α) : Prop := post (m h) Q NoE
theorem wp_pure {α : Type} {a : α} {h : Hc} {Q : PQ α} : wp (pure a) h Q = Q a h := rfl
theorem wp_stuck {α : Type} {h : Hc} {Q : PQ α} : wp M.stuck h Q = False := rfl
theorem wp_bind {α β : Type} {m : M α} {f : α → M β} {h : Hc} {Q : PQ β} : wp (m >>= f) h Q = wp m h (fun a h' => wp (f a) h' Q) := propext post_bind
theorem wp_mono {α : Type} {m : M α} {h : Hc} {Q Q' : PQ α} (p : wp m h Q) (q : ∀ a h', Q a h' → Q' a h') : wp m h Q' := post_mono p q (fun _ _ z => z)
theorem wp_ok {α : Type} {m : M α} {h : Hc} {Q : PQ α} (p : wp m h Q) : ∃ a h', m h = .ok a h' ∧ Q a h' := by
  unfold wp post at p
  cases e : m h with
  | ok a h' => rw [e] at p; exact ⟨a, h', rfl, p⟩
  | exc _ _ => rw [e] at p; exact p.elim
  | stuck => rw [e] at p; exact p.elim
theorem wp_of {α : Type} {m : M α} {h h' : Hc} {a : α} {Q : PQ α} (e : m h = .ok a h') (q : Q a h') : wp m h Q := by
  unfold wp; rw [e]; exact q
theorem wp_eq {α : Type} {m m' : M α} {h : Hc} {Q : PQ α} (e : m = m') (q : wp m' h Q) : wp m h Q := by rw [e]; exact q
theorem wp_guard {p : Prop} {m : M PV} {h : Hc} {Q : PQ PV} : wp (guardM p m) h Q = (p ∧ wp m h Q) := by
  apply propext
  unfold guardM
  by_cases hp : p
  · rw [if_pos hp]; exact ⟨fun q => ⟨hp, q⟩, fun q => q.2⟩
  · rw [if_neg hp]; exact ⟨fun q => q.elim, fun q => (hp q.1).elim⟩
theorem wp_ite {α : Type} {p : Prop} [Decidable p] {m m' : M α} {h : Hc} {Q : PQ α} : wp (if p then m else m') h Q = if p then wp m h Q else wp m' h Q := by
  split <;> rfl

/-! names of what is still to come -/
def KB (f : PV → PV → M PV) (b : EX) (ρ : En) (Q : PQ PV) : PQ PV := fun x h => wp (b ρ) h (fun y h' => wp (f x y) h' Q)
def KB2 (f : PV → PV → M PV) (x : PV) (Q : PQ PV) : PQ PV := fun y h => wp (f x y) h Q
def KU (f : PV → M PV) (Q : PQ PV) : PQ PV := fun x h => wp (f x) h Q
def KA (r : AX) (ρ : En) (Q : PQ (List PV)) : PQ PV := fun x h => wp (r ρ) h (fun xs h' => Q (x :: xs) h')
def KA2 (x : PV) (Q : PQ (List PV)) : PQ (List PV) := fun xs h => Q (x :: xs) h
def KL (f : List PV → M PV) (Q : PQ PV) : PQ (List PV) := fun xs h => wp (f xs) h Q
def KT (Q : PQ Bool) : PQ PV := fun x h => wp (toB x) h Q
def KAnd (y : TX) (ρ : En) (Q : PQ Bool) : PQ Bool := fun k h => if k = true then wp (y ρ) h Q else Q false h
def KOr (y : TX) (ρ : En) (Q : PQ Bool) : PQ Bool := fun k h => if k = true then Q true h else wp (y ρ) h Q
def KNot (Q : PQ Bool) : PQ Bool := fun k h => Q (!k) h
def KeAnd (y : EX) (ρ : En) (Q : PQ PV) : PQ Bool := fun k h => if k = true then wp (y ρ) h Q else Q (.bl false) h
def KeOr (y : EX) (ρ : En) (Q : PQ PV) : PQ Bool := fun k h => if k = true then Q (.bl true) h else wp (y ρ) h Q
def KeNot (Q : PQ PV) : PQ Bool := fun k h => Q (.bl (!k)) h
def KeIf (x y : EX) (ρ : En) (Q : PQ PV) : PQ Bool := fun k h => if k = true then wp (x ρ) h Q else wp (y ρ) h Q
def KS (t : SX) (Q : PQ Fl) : PQ Fl := fun f h => match f with
  | .nx ρ' => wp (t ρ') h Q
  | f => Q f h
def KIf (s t : SX) (ρ : En) (Q : PQ Fl) : PQ Bool := fun k h => if k = true then wp (s ρ) h Q else wp (t ρ) h Q
def KRet (Q : PQ Fl) : PQ PV := fun v h => Q (.rt v) h
def KSet (i : Nat) (ρ : En) (Q : PQ Fl) : PQ PV := fun v h => Q (.nx (ρ.set i (.va v))) h
def KOwn (i : Nat) (ρ : En) (Q : PQ Fl) : PQ (List PV) := fun v h => Q (.nx (ρ.set i (.ow v))) h
def KDrop (ρ : En) (Q : PQ Fl) : PQ PV := fun v h => Q (.nx ρ) h
def KEnd (Q : PQ PV) : PQ Fl := fun f h => match f with
  | .rt v => Q v h
  | .nx _ => Q .non h
  | _ => False
def KAsg (g : GX) (ρ : En) (Q : PQ Fl) : PQ PV := fun v h => wp (g v ρ) h (fun ρ' h' => Q (.nx ρ') h')
def KN (Q : PQ Fl) : PQ En := fun ρ h => Q (.nx ρ) h
def KG (r : GsX) (ps : List PV) (Q : PQ En) : PQ En := fun ρ h => wp (r ps ρ) h Q
def KM (m : En → M (List Sw)) (ρ : En) (Q : PQ (List Sw)) : PQ Sw := fun x h => wp (m ρ) h (fun xs h' => Q (x :: xs) h')
def KM2 (x : Sw) (Q : PQ (List Sw)) : PQ (List Sw) := fun xs h => Q (x :: xs) h
def KVa (Q : PQ Sw) : PQ PV := fun v h => Q (.va v) h
def KOw (Q : PQ Sw) : PQ (List PV) := fun v h => Q (.ow v) h
def KSq {α : Type} (Q : PQ (List PV)) (f : PV → Option (List PV)) : PQ PV := fun v h => wp (oM (f v)) h Q
def fgb (g : GX) (b : SX) : PV → SX := fun x ρ => g x ρ >>= fun ρ' => b ρ'
def KFor (g : GX) (b : SX) (ρ : En) (Q : PQ Fl) : PQ (List PV) := fun xs h => wp (forL (fgb g b) xs ρ) h Q
def KCo (vs : List Nat) (g : GX) (t : TX) (e : EX) (ρ : En) (Q : PQ (List PV)) : PQ (List PV) := fun xs h => xs.length ≤ sizeLine ∧ wp (noX (compL g t e (wipeP ρ vs) xs)) h Q
def KO (Q : PQ PV) : PQ (List PV) := fun xs h => Q (.lst xs) h
def KMt (f : List PV → List PV → Option (List PV)) (i : Nat) (xs : List PV) (ρ : En) (Q : PQ Fl) : PQ (List PV) := fun as h => wp (oM (f xs as)) h (fun ys h' => Q (.nx (ρ.set i (.ow ys))) h')
def KMt2 (i : Nat) (ρ : En) (Q : PQ Fl) : PQ (List PV) := fun ys h => Q (.nx (ρ.set i (.ow ys))) h
def KSI (i : Nat) (xs : List PV) (mk : EX) (ρ : En) (Q : PQ Fl) : PQ PV := fun v h => wp (mk ρ) h (fun k h' => wp (oM (setAt xs v k)) h' (KMt2 i ρ Q))
def KSI2 (i : Nat) (xs : List PV) (v : PV) (ρ : En) (Q : PQ Fl) : PQ PV := fun k h => wp (oM (setAt xs v k)) h (KMt2 i ρ Q)
def KSC (n : Nat) (mk : EX) (ρ : En) (Q : PQ Fl) : PQ PV := fun v h => wp (mk ρ) h (fun k h' => wp (putCell n v k ρ) h' Q)
def KSC2 (n : Nat) (v : PV) (ρ : En) (Q : PQ Fl) : PQ PV := fun k h => wp (putCell n v k ρ) h Q
def KAugL (i : Nat) (xs : List PV) (ρ : En) (Q : PQ Fl) : PQ PV := fun v h => match v with
  | .lst ys => xs.length + ys.length ≤ sizeLine ∧ Q (.nx (ρ.set i (.ow (xs ++ ys)))) h
  | _ => False
def KCh (f g : PV → PV → M PV) (b c : EX) (ρ : En) (Q : PQ PV) : PQ PV := fun x h => wp (b ρ) h (fun y h => wp (f x y) h (KT fun k h => if k = true then wp (c ρ) h (fun z h => wp (g y z) h Q) else Q (.bl false) h))
def KCh2 (f g : PV → PV → M PV) (x : PV) (c : EX) (ρ : En) (Q : PQ PV) : PQ PV := fun y h => wp (f x y) h (KT fun k h => if k = true then wp (c ρ) h (fun z h => wp (g y z) h Q) else Q (.bl false) h)
def KCh3 (g : PV → PV → M PV) (y : PV) (c : EX) (ρ : En) (Q : PQ PV) : PQ Bool := fun k h => if k = true then wp (c ρ) h (KB2 g y Q) else Q (.bl false) h
def KSl (lo hi : En → M (Option Int)) (ρ : En) (Q : PQ PV) : PQ PV := fun x h => wp (lo ρ) h (fun l h => wp (hi ρ) h (fun u h => wp (pSl l u x) h Q))
def KSl2 (x : PV) (hi : En → M (Option Int)) (ρ : En) (Q : PQ PV) : PQ (Option Int) := fun l h => wp (hi ρ) h (fun u h => wp (pSl l u x) h Q)
def KSl3 (x : PV) (l : Option Int) (Q : PQ PV) : PQ (Option Int) := fun u h => wp (pSl l u x) h Q
def KPo (Q : PQ (Option Int)) : PQ PV := fun x h => wp (toI x) h Q
def KBor (Q : PQ PV) : PQ PV := fun v h => v.flat = true ∧ Q v h
def KBorO (Q : PQ (List PV)) : PQ (List PV) := fun v h => flats v = true ∧ Q v h
def KTup (Q : PQ PV) : PQ (List PV) := fun xs h => xs.length ≤ sizeLine ∧ Q (.tup xs) h
def KLst (Q : PQ (List PV)) : PQ (List PV) := fun xs h => xs.length ≤ sizeLine ∧ Q xs h
def KIs (T : Ty5) (Q : PQ PV) : PQ PV := fun x h => Q (.bl (isa T x)) h
def KCall (g : List PV → M PV) (n : Nat) (Q : PQ PV) : PQ (List PV) := fun xs h => xs.length = n ∧ wp (g xs) h Q
def KCell (Q : PQ PV) : PQ (List PV) := fun xs h => flats xs = true ∧ Q (.cell h.length) (h ++ [xs])
def KRg (r : List PV → M (List PV)) (Q : PQ (List PV)) : PQ (List PV) := fun xs h => wp (r xs) h Q
def KPar (i j : Nat) (ρ : En) (Q : PQ Fl) : PQ (List Sw) := fun xs h => match xs with
  | [a, b] => i < ρ.length ∧ j < ρ.length ∧ Q (.nx ((ρ.set i a.sl).set j b.sl)) h
  | _ => False
def KPar3 (i j l : Nat) (ρ : En) (Q : PQ Fl) : PQ (List Sw) := fun xs h => match xs with
  | [a, b, c] => i < ρ.length ∧ j < ρ.length ∧ l < ρ.length ∧ Q (.nx (((ρ.set i a.sl).set j b.sl).set l c.sl)) h
  | _ => False
def KParT (is : List Nat) (ρ : En) (Q : PQ Fl) : PQ (List Sw) := fun xs h => xs.length = is.length ∧ xs.length ≤ sizeLine ∧ (is.all fun i => decide (i < ρ.length)) = true ∧ Q (.nx (setAllP ρ is xs)) h


section
variable {ρ : En} {h : Hc} {a b c x y : EX} {s t : SX} {p q : TX} {r : AX} {f g : PV → PV → M PV} {Q : PQ PV} {QF : PQ Fl} {QB : PQ Bool} {QL : PQ (List PV)} {i j n : Nat} {u v : PV}
/-! the steps -/
theorem w_eV : wp (eV i ρ) h Q = (match ρ[i]? with | some (.va p) => Q p h | _ => False) := by
  unfold eV; generalize ρ[i]? = o; rcases o with _ | sl
  · rfl
  · cases sl <;> rfl
theorem w_eV0 {ρ : En} : wp (eV 0 (.va u :: ρ)) h Q = Q u h := rfl
theorem w_eVs {ρ : En} {sl : Sl} : wp (eV (i + 1) (sl :: ρ)) h Q = wp (eV i ρ) h Q := rfl
theorem w_eC : wp (eC u ρ) h Q = Q u h := rfl
theorem w_bin : wp (eBin f a b ρ) h Q = wp (a ρ) h (KB f b ρ Q) := by
  unfold eBin; rw [wp_bind]; congr 1; funext x h; rw [wp_bind]; rfl
theorem w_KB : KB f b ρ Q u h = wp (b ρ) h (KB2 f u Q) := rfl
theorem w_KB2 : KB2 f u Q v h = wp (f u v) h Q := rfl
theorem w_un {f : PV → M PV} : wp (eUn f a ρ) h Q = wp (a ρ) h (KU f Q) := by unfold eUn; rw [wp_bind]; rfl
theorem w_KU {f : PV → M PV} : KU f Q u h = wp (f u) h Q := rfl
theorem w_aNil : wp (aNil ρ) h QL = QL [] h := rfl
theorem w_aCons : wp (aCons a r ρ) h QL = wp (a ρ) h (KA r ρ QL) := by
  unfold aCons; rw [wp_bind]; congr 1; funext x h; rw [wp_bind]; rfl
theorem w_KA : KA r ρ QL u h = wp (r ρ) h (KA2 u QL) := rfl
theorem w_KA2 {xs : List PV} : KA2 u QL xs h = QL (u :: xs) h := rfl
theorem w_eF {f : List PV → M PV} : wp (eF f r ρ) h Q = wp (r ρ) h (KL f Q) := by unfold eF; rw [wp_bind]; rfl
theorem w_KL {f : List PV → M PV} {xs : List PV} : KL f Q xs h = wp (f xs) h Q := rfl
theorem w_tOf : wp (tOf a ρ) h QB = wp (a ρ) h (KT QB) := by unfold tOf; rw [wp_bind]; rfl
theorem w_KT {k : Bool} : KT QB (.bl k) h = QB k h := rfl
theorem w_KTi {k : Int} : KT QB (.int k) h = wp (toB (.int k)) h QB := rfl
theorem w_and : wp (tAndX p q ρ) h QB = wp (p ρ) h (KAnd q ρ QB) := by
  unfold tAndX; rw [wp_bind]; congr 1; funext k h; rw [wp_ite]; rfl
theorem w_or : wp (tOrX p q ρ) h QB = wp (p ρ) h (KOr q ρ QB) := by
  unfold tOrX; rw [wp_bind]; congr 1; funext k h; rw [wp_ite]; rfl
theorem w_not : wp (tNotX p ρ) h QB = wp (p ρ) h (KNot QB) := by unfold tNotX; rw [wp_bind]; rfl
theorem w_KAnd {k : Bool} : KAnd q ρ QB k h = if k = true then wp (q ρ) h QB else QB false h := rfl
theorem w_KOr {k : Bool} : KOr q ρ QB k h = if k = true then QB true h else wp (q ρ) h QB := rfl
theorem w_KNot {k : Bool} : KNot QB k h = QB (!k) h := rfl
theorem w_eAnd : wp (eAndX x y ρ) h Q = wp (x ρ) h (KT (KeAnd y ρ Q)) := by
  unfold eAndX; rw [wp_bind]; congr 1; funext v h; rw [wp_bind]; show _ = wp (toB v) h _; congr 1; funext k h; rw [wp_ite]; rfl
theorem w_eOr : wp (eOrX x y ρ) h Q = wp (x ρ) h (KT (KeOr y ρ Q)) := by
  unfold eOrX; rw [wp_bind]; congr 1; funext v h; rw [wp_bind]; show _ = wp (toB v) h _; congr 1; funext k h; rw [wp_ite]; rfl
theorem w_eNot : wp (eNotX x ρ) h Q = wp (x ρ) h (KT (KeNot Q)) := by
  unfold eNotX; rw [wp_bind]; congr 1; funext v h; rw [wp_bind]; rfl
theorem w_eIf : wp (eIfX p x y ρ) h Q = wp (p ρ) h (KeIf x y ρ Q) := by
  unfold eIfX; rw [wp_bind]; congr 1; funext v h; rw [wp_ite]; rfl
theorem w_KeAnd {k : Bool} : KeAnd y ρ Q k h = if k = true then wp (y ρ) h Q else Q (.bl false) h := rfl
theorem w_KeOr {k : Bool} : KeOr y ρ Q k h = if k = true then Q (.bl true) h else wp (y ρ) h Q := rfl
theorem w_KeNot {k : Bool} : KeNot Q k h = Q (.bl (!k)) h := rfl
theorem w_KeIf {k : Bool} : KeIf x y ρ Q k h = if k = true then wp (x ρ) h Q else wp (y ρ) h Q := rfl
theorem w_chain : wp (eChain f g a b c ρ) h Q = wp (a ρ) h (KCh f g b c ρ Q) := by
  unfold eChain; rw [wp_bind]; congr 1; funext x h; rw [wp_bind]; unfold KCh; congr 1; funext y h
  rw [bind_assoc', wp_bind]; congr 1; funext v h; rw [wp_bind]; show _ = wp (toB v) h _; congr 1; funext k h; rw [wp_ite]; 
  split
  · rw [wp_bind]
  · rfl
theorem w_KCh : KCh f g b c ρ Q u h = wp (b ρ) h (KCh2 f g u c ρ Q) := rfl
theorem w_KCh2 : KCh2 f g u c ρ Q v h = wp (f u v) h (KT (KCh3 g v c ρ Q)) := rfl
theorem w_KCh3 {k : Bool} : KCh3 g v c ρ Q k h = if k = true then wp (c ρ) h (KB2 g v Q) else Q (.bl false) h := rfl
theorem w_tup : wp (eTup r ρ) h Q = wp (r ρ) h (KTup Q) := by
  unfold eTup; rw [wp_bind]; congr 1; funext xs h
  show wp (if xs.length ≤ sizeLine then pure (.tup xs) else M.stuck) h Q = (xs.length ≤ sizeLine ∧ Q (.tup xs) h)
  rw [wp_ite]; apply propext
  split
  · rename_i hl; exact ⟨fun q => ⟨hl, q⟩, fun q => q.2⟩
  · rename_i hl; exact ⟨fun q => q.elim, fun q => hl q.1⟩
theorem w_lst : wp (oLst r ρ) h QL = wp (r ρ) h (KLst QL) := by
  unfold oLst; rw [wp_bind]; congr 1; funext xs h
  show wp (if xs.length ≤ sizeLine then pure xs else M.stuck) h QL = (xs.length ≤ sizeLine ∧ QL xs h)
  rw [wp_ite]; apply propext
  split
  · rename_i hl; exact ⟨fun q => ⟨hl, q⟩, fun q => q.2⟩
  · rename_i hl; exact ⟨fun q => q.elim, fun q => hl q.1⟩
theorem w_KTup {xs : List PV} : KTup Q xs h = (xs.length ≤ sizeLine ∧ Q (.tup xs) h) := rfl
theorem w_KLst {xs : List PV} : KLst QL xs h = (xs.length ≤ sizeLine ∧ QL xs h) := rfl
theorem w_ofO : wp (eOfO r ρ) h Q = wp (r ρ) h (KO Q) := by unfold eOfO; rw [wp_bind]; rfl
theorem w_KO {xs : List PV} : KO Q xs h = Q (.lst xs) h := rfl
theorem w_isa {T : Ty5} : wp (eIsa T a ρ) h Q = wp (a ρ) h (KIs T Q) := by unfold eIsa; rw [wp_bind]; rfl
theorem w_KIs {T : Ty5} : KIs T Q u h = Q (.bl (isa T u)) h := rfl
theorem w_list : wp (oList a ρ) h QL = wp (a ρ) h (KSq (α := PV) QL seqOf) := by unfold oList; rw [wp_bind]; rfl
theorem w_iSeq : wp (iSeq a ρ) h QL = wp (a ρ) h (KSq (α := PV) QL seqOf) := by unfold iSeq; rw [wp_bind]; rfl
theorem w_KSql {xs : List PV} : KSq (α := PV) QL seqOf (.lst xs) h = QL xs h := rfl
theorem w_KSqt {xs : List PV} : KSq (α := PV) QL seqOf (.tup xs) h = QL xs h := rfl
theorem w_KSqs {xs : List PV} : KSq (α := PV) QL seqOf (.scr xs) h = QL xs h := rfl
theorem w_r1 : wp (iR1 r ρ) h QL = wp (r ρ) h (KRg rng1 QL) := by unfold iR1; rw [wp_bind]; rfl
theorem w_r2 : wp (iR2 r ρ) h QL = wp (r ρ) h (KRg rng2 QL) := by unfold iR2; rw [wp_bind]; rfl
theorem w_r3 : wp (iR3 r ρ) h QL = wp (r ρ) h (KRg rng3 QL) := by unfold iR3; rw [wp_bind]; rfl
theorem w_and_ite {P : Prop} {m : M (List PV)} [d : Decidable P] : wp (if P then m else M.stuck) h QL = (P ∧ wp m h QL) := by
  rw [wp_ite]; apply propext
  split
  · rename_i hl; exact ⟨fun q => ⟨hl, q⟩, fun q => q.2⟩
  · rename_i hl; exact ⟨fun q => q.elim, fun q => hl q.1⟩
theorem w_KR1 {k : Int} : KRg rng1 QL [.int k] h = (Big k ∧ QL (rangeP 0 k.toNat) h) := w_and_ite (d := Classical.propDecidable _)
theorem w_KR2 {k l : Int} : KRg rng2 QL [.int k, .int l] h = ((Big k ∧ Big l) ∧ QL (rangeP k (l - k).toNat) h) := w_and_ite (d := @instDecidableAnd _ _ (Classical.propDecidable _) (Classical.propDecidable _))
theorem w_slice {l m : En → M (Option Int)} : wp (eSl a l m ρ) h Q = wp (a ρ) h (KSl l m ρ Q) := by
  unfold eSl; rw [wp_bind]; congr 1; funext x h; rw [wp_bind]; unfold KSl; congr 1; funext k h; rw [wp_bind]
theorem w_KSl {l m : En → M (Option Int)} : KSl l m ρ Q u h = wp (l ρ) h (KSl2 u m ρ Q) := rfl
theorem w_KSl2 {m : En → M (Option Int)} {o : Option Int} : KSl2 u m ρ Q o h = wp (m ρ) h (KSl3 u o Q) := rfl
theorem w_KSl3 {o l : Option Int} : KSl3 u o Q l h = wp (pSl o l u) h Q := rfl
theorem w_noP {Q : PQ (Option Int)} : wp (noP ρ) h Q = Q none h := rfl
theorem w_soP {Q : PQ (Option Int)} : wp (soP a ρ) h Q = wp (a ρ) h (KPo Q) := by unfold soP; rw [wp_bind]; rfl
theorem w_KPo {Q : PQ (Option Int)} {k : Int} : KPo Q (.int k) h = Q (some k) h := rfl
theorem w_slt {xs : List PV} {o l : Option Int} : wp (pSl o l (.tup xs)) h Q = Q (.tup (cutP xs o l)) h := rfl
theorem w_sll {xs : List PV} {o l : Option Int} : wp (pSl o l (.lst xs)) h Q = Q (.lst (cutP xs o l)) h := rfl
theorem w_sls {xs : List PV} {o l : Option Int} : wp (pSl o l (.scr xs)) h Q = Q (.lst (cutP xs o l)) h := rfl
theorem w_call {g : List PV → M PV} : wp (eCall g n r ρ) h Q = wp (r ρ) h (KCall g n Q) := by
  unfold eCall; rw [wp_bind]; congr 1; funext xs h; rw [wp_ite]; apply propext; unfold KCall
  split
  · rename_i hl; exact ⟨fun q => ⟨hl, q⟩, fun q => q.2⟩
  · rename_i hl; exact ⟨fun q => q.elim, fun q => hl q.1⟩
theorem w_KC1 {g : List PV → M PV} {x : PV} : KCall g 1 Q [x] h = wp (g [x]) h Q := by unfold KCall; simp
theorem w_KC2 {g : List PV → M PV} {x y : PV} : KCall g 2 Q [x, y] h = wp (g [x, y]) h Q := by unfold KCall; simp
theorem w_KC3 {g : List PV → M PV} {x y z : PV} : KCall g 3 Q [x, y, z] h = wp (g [x, y, z]) h Q := by unfold KCall; simp
theorem w_KC4 {g : List PV → M PV} {x y z w : PV} : KCall g 4 Q [x, y, z, w] h = wp (g [x, y, z, w]) h Q := by unfold KCall; simp
theorem w_KC5 {g : List PV → M PV} {x y z w v : PV} : KCall g 5 Q [x, y, z, w, v] h = wp (g [x, y, z, w, v]) h Q := by unfold KCall; simp
theorem w_cell : wp (eCell r ρ) h Q = wp (r ρ) h (KCell Q) := by
  unfold eCell; rw [wp_bind]; congr 1; funext xs h; unfold newCell KCell wp
  apply propext
  split
  · rename_i hl; exact ⟨fun q => ⟨hl, q⟩, fun q => q.2⟩
  · rename_i hl; exact ⟨fun q => q.elim, fun q => hl q.1⟩
theorem w_KCell {xs : List PV} : KCell Q xs h = (flats xs = true ∧ Q (.cell h.length) (h ++ [xs])) := rfl
/-! statements -/
theorem w_nop : wp (sNop ρ) h QF = QF (.nx ρ) h := rfl
theorem w_seq : wp (sSeq s t ρ) h QF = wp (s ρ) h (KS t QF) := by
  unfold sSeq; rw [wp_bind]; congr 1; funext f h; cases f <;> rfl
theorem w_KSn : KS t QF (.nx ρ) h = wp (t ρ) h QF := rfl
theorem w_KSr : KS t QF (.rt u) h = QF (.rt u) h := rfl
theorem w_KSb : KS t QF (.bk ρ) h = QF (.bk ρ) h := rfl
theorem w_KSc : KS t QF (.ct ρ) h = QF (.ct ρ) h := rfl
theorem w_if : wp (sIf p s t ρ) h QF = wp (p ρ) h (KIf s t ρ QF) := by
  unfold sIf; rw [wp_bind]; congr 1; funext k h; rw [wp_ite]; rfl
theorem w_KIf {k : Bool} : KIf s t ρ QF k h = if k = true then wp (s ρ) h QF else wp (t ρ) h QF := rfl
theorem w_ret : wp (sRet a ρ) h QF = wp (a ρ) h (KRet QF) := by unfold sRet; rw [wp_bind]; rfl
theorem w_KRet : KRet QF u h = QF (.rt u) h := rfl
theorem w_retN : wp (sRetN ρ) h QF = QF (.rt .non) h := rfl
theorem w_break : wp (sBreak ρ) h QF = QF (.bk ρ) h := rfl
theorem w_cont : wp (sCont ρ) h QF = QF (.ct ρ) h := rfl
theorem w_drop : wp (sDrop a ρ) h QF = wp (a ρ) h (KDrop ρ QF) := by unfold sDrop; rw [wp_bind]; rfl
theorem w_KDrop : KDrop ρ QF u h = QF (.nx ρ) h := rfl
theorem w_set : wp (sSet i a ρ) h QF = wp (a ρ) h (KSet i ρ QF) := by unfold sSet; rw [wp_bind]; rfl
theorem w_KSet : KSet i ρ QF u h = QF (.nx (ρ.set i (.va u))) h := rfl
theorem w_setL : wp (sSet i (fun ρ => r ρ >>= fun xs => pure (.lst xs)) ρ) h QF = wp (r ρ) h (KO (KSet i ρ QF)) := by
  unfold sSet; rw [wp_bind, wp_bind]; rfl
theorem w_own : wp (sOwn i r ρ) h QF = wp (r ρ) h (KOwn i ρ QF) := by unfold sOwn; rw [wp_bind]; rfl
theorem w_KOwn {xs : List PV} : KOwn i ρ QF xs h = QF (.nx (ρ.set i (.ow xs))) h := rfl
theorem w_asg {g : GX} : wp (sAsg g a ρ) h QF = wp (a ρ) h (KAsg g ρ QF) := by
  unfold sAsg; rw [wp_bind]; congr 1; funext v h; rw [wp_bind]; rfl
theorem w_KAsg {g : GX} : KAsg g ρ QF u h = wp (g u ρ) h (KN QF) := rfl
theorem w_KN : KN QF ρ h = QF (.nx ρ) h := rfl
theorem w_gN {Q : PQ En} : wp (gN i u ρ) h Q = Q (ρ.set i (.va u)) h := rfl
theorem w_gT {Q : PQ En} {g : GsX} {xs : List PV} : wp (gT g (.tup xs) ρ) h Q = wp (g xs ρ) h Q := rfl
theorem w_gnil {Q : PQ En} : wp (gNilX [] ρ) h Q = Q ρ h := rfl
theorem w_gcons {Q : PQ En} {g : GX} {gs : GsX} {xs : List PV} : wp (gConsX g gs (u :: xs) ρ) h Q = wp (g u ρ) h (KG gs xs Q) := by
  show wp (g u ρ >>= fun ρ' => gs xs ρ') h Q = _
  rw [wp_bind]; rfl
theorem w_KG {Q : PQ En} {gs : GsX} {xs : List PV} : KG gs xs Q ρ h = wp (gs xs ρ) h Q := rfl
theorem w_for {g : GX} : wp (sFor r g s ρ) h QF = wp (r ρ) h (KFor g s ρ QF) := by unfold sFor; rw [wp_bind]; rfl
theorem w_KFor {g : GX} {xs : List PV} : KFor g s ρ QF xs h = wp (forL (fgb g s) xs ρ) h QF := rfl
theorem w_fgb {g : GX} : wp (fgb g s u ρ) h QF = wp (g u ρ) h (fun ρ' h' => wp (s ρ') h' QF) := by unfold fgb; rw [wp_bind]
theorem w_fgbN : wp (fgb (gN i) s u ρ) h QF = wp (s (ρ.set i (.va u))) h QF := by rw [w_fgb]; rfl
theorem w_comp {vs : List Nat} {g : GX} : wp (oComp vs r g p a ρ) h QL = wp (r ρ) h (KCo vs g p a ρ QL) := by
  unfold oComp; rw [wp_bind]; congr 1; funext xs h; exact w_and_ite
theorem w_KCo {vs : List Nat} {g : GX} {xs : List PV} : KCo vs g p a ρ QL xs h = (xs.length ≤ sizeLine ∧ wp (noX (compL g p a (wipeP ρ vs) xs)) h QL) := rfl
theorem w_frz : wp (sFrz i s ρ) h QF = wp (s (frz i ρ)) h QF := rfl
theorem w_par {m : En → M (List Sw)} : wp (sPar i j m ρ) h QF = wp (m ρ) h (KPar i j ρ QF) := by
  unfold sPar; rw [wp_bind]; congr 1; funext xs h; unfold KPar
  match xs with
  | [] => rfl
  | [_] => rfl
  | [x, y] =>
    show wp (if _ then _ else _) h QF = _
    rw [wp_ite]; apply propext
    split
    · rename_i hl; exact ⟨fun q => ⟨hl.1, hl.2, q⟩, fun q => q.2.2⟩
    · rename_i hl; exact ⟨fun q => q.elim, fun q => hl ⟨q.1, q.2.1⟩⟩
  | _ :: _ :: _ :: _ => rfl
theorem w_KPar {x y : Sw} : KPar i j ρ QF [x, y] h = (i < ρ.length ∧ j < ρ.length ∧ QF (.nx ((ρ.set i x.sl).set j y.sl)) h) := rfl
theorem w_par3 {l : Nat} {m : En → M (List Sw)} : wp (sPar3 i j l m ρ) h QF = wp (m ρ) h (KPar3 i j l ρ QF) := by
  unfold sPar3; rw [wp_bind]; congr 1; funext xs h; unfold KPar3
  match xs with
  | [] => rfl
  | [_] => rfl
  | [_, _] => rfl
  | [x, y, z] =>
    show wp (if _ then _ else _) h QF = _
    rw [wp_ite]; apply propext
    split
    · rename_i hl; exact ⟨fun q => ⟨hl.1, hl.2.1, hl.2.2, q⟩, fun q => q.2.2.2⟩
    · rename_i hl; exact ⟨fun q => q.elim, fun q => hl ⟨q.1, q.2.1, q.2.2.1⟩⟩
  | _ :: _ :: _ :: _ :: _ => rfl
theorem w_KPar3 {l : Nat} {x y z : Sw} : KPar3 i j l ρ QF [x, y, z] h = (i < ρ.length ∧ j < ρ.length ∧ l < ρ.length ∧ QF (.nx (((ρ.set i x.sl).set j y.sl).set l z.sl)) h) := rfl
theorem w_parT {is : List Nat} {m : En → M (List Sw)} : wp (sParT is m ρ) h QF = wp (m ρ) h (KParT is ρ QF) := by
  unfold sParT; rw [wp_bind]; congr 1; funext xs h; rw [wp_ite]; apply propext; unfold KParT
  split
  · rename_i hl; exact ⟨fun q => ⟨hl.1, hl.2.1, hl.2.2, q⟩, fun q => q.2.2.2⟩
  · rename_i hl; exact ⟨fun q => q.elim, fun q => hl ⟨q.1, q.2.1, q.2.2.1⟩⟩
theorem w_KParT {is : List Nat} {xs : List Sw} : KParT is ρ QF xs h = (xs.length = is.length ∧ xs.length ≤ sizeLine ∧ (is.all fun i => decide (i < ρ.length)) = true ∧ QF (.nx (setAllP ρ is xs)) h) := rfl
theorem w_saA {k : Nat} {is : List Nat} {x : Sw} {xs : List Sw} : setAllP ρ (k :: is) (x :: xs) = setAllP (ρ.set k x.sl) is xs := rfl
theorem w_sa0 : setAllP ρ [] [] = ρ := rfl
theorem w_slv : (Sw.va u).sl = .va u := rfl
theorem w_slo {xs : List PV} : (Sw.ow xs).sl = .ow xs := rfl
theorem w_mNil {Q : PQ (List Sw)} : wp (mNil ρ) h Q = Q [] h := rfl
theorem w_mCons {Q : PQ (List Sw)} {m : En → M Sw} {ms : En → M (List Sw)} : wp (mCons m ms ρ) h Q = wp (m ρ) h (KM ms ρ Q) := by
  unfold mCons; rw [wp_bind]; congr 1; funext xs h; rw [wp_bind]; rfl
theorem w_KM {Q : PQ (List Sw)} {x : Sw} {ms : En → M (List Sw)} : KM ms ρ Q x h = wp (ms ρ) h (KM2 x Q) := rfl
theorem w_KM2 {Q : PQ (List Sw)} {x : Sw} {xs : List Sw} : KM2 x Q xs h = Q (x :: xs) h := rfl
theorem w_vaM {Q : PQ Sw} : wp (vaM a ρ) h Q = wp (a ρ) h (KVa Q) := by unfold vaM; rw [wp_bind]; rfl
theorem w_owM {Q : PQ Sw} : wp (owM r ρ) h Q = wp (r ρ) h (KOw Q) := by unfold owM; rw [wp_bind]; rfl
theorem w_KVa {Q : PQ Sw} : KVa Q u h = Q (.va u) h := rfl
theorem w_KOw {Q : PQ Sw} {xs : List PV} : KOw Q xs h = Q (.ow xs) h := rfl
/-- own lists -/
def isOw (ρ : En) (i : Nat) (k : List PV → Prop) : Prop := match ρ[i]? with
  | some (.ow xs) => k xs
  | _ => False
theorem isOw0 {xs : List PV} {k : List PV → Prop} : isOw (.ow xs :: ρ) 0 k = k xs := rfl
theorem isOws {sl : Sl} {k : List PV → Prop} : isOw (sl :: ρ) (n + 1) k = isOw ρ n k := rfl
theorem w_onOw {k : List PV → SX} : wp (onOw i k ρ) h QF = isOw ρ i (fun xs => wp (k xs ρ) h QF) := by
  unfold onOw isOw; generalize ρ[i]? = o; rcases o with _ | sl
  · rfl
  · cases sl <;> rfl
theorem w_meth {f : List PV → List PV → Option (List PV)} : wp (sMeth i f r ρ) h QF = isOw ρ i (fun xs => wp (r ρ) h (KMt f i xs ρ QF)) := by
  unfold sMeth; rw [w_onOw]; congr 1; funext xs; rw [wp_bind]; congr 1; funext as h; rw [wp_bind]; rfl
theorem w_KMt {f : List PV → List PV → Option (List PV)} {xs as : List PV} : KMt f i xs ρ QF as h = wp (oM (f xs as)) h (KMt2 i ρ QF) := rfl
theorem w_KMt2 {xs : List PV} : KMt2 i ρ QF xs h = QF (.nx (ρ.set i (.ow xs))) h := rfl
theorem w_apF {xs : List PV} {Q : PQ (List PV)} : wp (oM (apF xs [u])) h Q = (xs.length < sizeLine ∧ Q (xs ++ [u]) h) := by
  show wp (oM (if xs.length < sizeLine then some (xs ++ [u]) else none)) h Q = _
  apply propext
  split
  · rename_i hl; exact ⟨fun q => ⟨hl, q⟩, fun q => q.2⟩
  · rename_i hl; exact ⟨fun q => q.elim, fun q => hl q.1⟩
theorem w_setI {mk me : EX} : wp (sSetI i mk me ρ) h QF = isOw ρ i (fun xs => wp (me ρ) h (KSI i xs mk ρ QF)) := by
  unfold sSetI; rw [w_onOw]; congr 1; funext xs; rw [wp_bind]; congr 1; funext v h; rw [wp_bind]; unfold KSI; congr 1; funext k h; rw [wp_bind]; rfl
theorem w_KSI {mk : EX} {xs : List PV} : KSI i xs mk ρ QF u h = wp (mk ρ) h (KSI2 i xs u ρ QF) := rfl
theorem w_KSI2 {xs : List PV} : KSI2 i xs u ρ QF v h = wp (oM (setAt xs u v)) h (KMt2 i ρ QF) := rfl
theorem w_setC {mk me : EX} : wp (sSetC i mk me ρ) h QF = (match ρ[i]? with | some (.va (.cell n)) => wp (me ρ) h (KSC n mk ρ QF) | _ => False) := by
  unfold sSetC; generalize ρ[i]? = o; rcases o with _ | sl
  · rfl
  · cases sl <;> first | rfl | skip
    rename_i w
    cases w <;> first | rfl | skip
    show wp (_ >>= _) h QF = _
    rw [wp_bind]; congr 1; funext v h; rw [wp_bind]; rfl
/-- the cell a name holds -/
def isCe (ρ : En) (i : Nat) (k : Nat → Prop) : Prop := match ρ[i]? with
  | some (.va (.cell n)) => k n
  | _ => False
theorem isCe0 {m : Nat} {k : Nat → Prop} : isCe (.va (.cell m) :: ρ) 0 k = k m := rfl
theorem isCes {sl : Sl} {k : Nat → Prop} : isCe (sl :: ρ) (n + 1) k = isCe ρ n k := rfl
theorem w_setC' {mk me : EX} : wp (sSetC i mk me ρ) h QF = isCe ρ i (fun n => wp (me ρ) h (KSC n mk ρ QF)) := w_setC
theorem w_KSC {mk : EX} : KSC n mk ρ QF u h = wp (mk ρ) h (KSC2 n u ρ QF) := rfl
theorem w_KSC2 : KSC2 n u ρ QF v h = wp (putCell n u v ρ) h QF := rfl
theorem w_augL {me : EX} : wp (sAugL i me ρ) h QF = isOw ρ i (fun xs => wp (me ρ) h (KAugL i xs ρ QF)) := by
  unfold sAugL; rw [w_onOw]; congr 1; funext xs; rw [wp_bind]; congr 1; funext v h
  cases v <;> first | rfl | skip
  show wp (if _ then _ else _) h QF = (_ ∧ _)
  rw [wp_ite]; apply propext
  split
  · rename_i hl; exact ⟨fun q => ⟨hl, q⟩, fun q => q.2⟩
  · rename_i hl; exact ⟨fun q => q.elim, fun q => hl q.1⟩
theorem w_KAugL {xs ys : List PV} : KAugL i xs ρ QF (.lst ys) h = (xs.length + ys.length ≤ sizeLine ∧ QF (.nx (ρ.set i (.ow (xs ++ ys)))) h) := rfl
def borE (i : Nat) (ρ : En) (k1 : En → Prop) (k2 : Prop) : Prop := match ρ[i]? with
  | some (.ow xs) => k1 (ρ.set i (.va (.lst xs)))
  | _ => k2
def slotOf (ρ : En) (i : Nat) : Option Sl := ρ[i]?
theorem w_eBor {xs : List PV} (e : ρ[i]? = some (.ow xs)) : wp (eBor i a ρ) h Q = wp (a (ρ.set i (.va (.lst xs)))) h (KBor Q) := by
  unfold eBor; rw [e]; show wp (_ >>= _) h Q = _; rw [wp_bind]; congr 1; funext v h; rw [wp_ite]; apply propext; unfold KBor
  split
  · rename_i hl; exact ⟨fun q => ⟨hl, q⟩, fun q => q.2⟩
  · rename_i hl; exact ⟨fun q => q.elim, fun q => hl q.1⟩
theorem w_tBor {xs : List PV} (e : ρ[i]? = some (.ow xs)) : wp (tBor i p ρ) h QB = wp (p (ρ.set i (.va (.lst xs)))) h QB := by
  unfold tBor; rw [e]
theorem w_oBor {xs : List PV} (e : ρ[i]? = some (.ow xs)) : wp (oBor i r ρ) h QL = wp (r (ρ.set i (.va (.lst xs)))) h (KBorO QL) := by
  unfold oBor; rw [e]; show wp (_ >>= _) h QL = _; rw [wp_bind]; congr 1; funext v h; rw [wp_ite]; apply propext; unfold KBorO
  split
  · rename_i hl; exact ⟨fun q => ⟨hl, q⟩, fun q => q.2⟩
  · rename_i hl; exact ⟨fun q => q.elim, fun q => hl q.1⟩
theorem w_eBorV {w : PV} (e : ρ[i]? = some (.va w)) : wp (eBor i a ρ) h Q = wp (a ρ) h Q := by unfold eBor; rw [e]
theorem w_tBorV {w : PV} (e : ρ[i]? = some (.va w)) : wp (tBor i p ρ) h QB = wp (p ρ) h QB := by unfold tBor; rw [e]
theorem w_oBorV {w : PV} (e : ρ[i]? = some (.va w)) : wp (oBor i r ρ) h QL = wp (r ρ) h QL := by unfold oBor; rw [e]
theorem w_KBor : KBor Q u h = (u.flat = true ∧ Q u h) := rfl
theorem w_KBorO {xs : List PV} : KBorO QL xs h = (flats xs = true ∧ QL xs h) := rfl
theorem w_frzO {xs : List PV} (e : ρ[i]? = some (.ow xs)) : frz i ρ = ρ.set i (.va (.lst xs)) := by unfold frz; rw [e]
theorem w_frzV {w : PV} (e : ρ[i]? = some (.va w)) : frz i ρ = ρ := by unfold frz; rw [e]
/-! defs -/
theorem w_run {args : List PV} : wp (runFn n s args) h Q = wp (s (startP n args)) h (KEnd Q) := by
  unfold runFn; rw [wp_bind]; congr 1; funext f h; cases f <;> rfl
theorem w_KEr : KEnd Q (.rt u) h = Q u h := rfl
theorem w_KEn : KEnd Q (.nx ρ) h = Q .non h := rfl
theorem w_start {args : List PV} : startP n args = args.map .va ++ List.replicate (n - args.length) .no := rfl
/-! operators -/
theorem w_addI {i j : Int} : wp (pAdd (.int i) (.int j)) h Q = Q (.int (i + j)) h := rfl
theorem w_addL {xs ys : List PV} : wp (pAdd (.lst xs) (.lst ys)) h Q = (xs.length + ys.length ≤ sizeLine ∧ Q (.lst (xs ++ ys)) h) := wp_guard
theorem w_addT {xs ys : List PV} : wp (pAdd (.tup xs) (.tup ys)) h Q = (xs.length + ys.length ≤ sizeLine ∧ Q (.tup (xs ++ ys)) h) := wp_guard
theorem w_subI {i j : Int} : wp (pSub (.int i) (.int j)) h Q = Q (.int (i - j)) h := rfl
theorem w_mulI {i j : Int} : wp (pMul (.int i) (.int j)) h Q = (MulOk i j ∧ Q (.int (i * j)) h) := wp_guard
theorem w_mulL {xs : List PV} {k : Int} : wp (pMul (.lst xs) (.int k)) h Q = ((-(2 ^ 63) ≤ k ∧ k < 2 ^ 63 ∧ xs.length * k.toNat ≤ sizeLine) ∧ Q (.lst (List.replicate k.toNat xs).flatten) h) := wp_guard
theorem w_mulT {xs : List PV} {k : Int} (h0 : xs ≠ []) (h1 : 1 ≤ k) (h2 : k ≤ 1000) (h3 : xs.length ≤ 1000) (q : Q (.tup (List.replicate k.toNat xs).flatten) h) : wp (pMul (.tup xs) (.int k)) h Q := by
  show wp (if k = 1 then pure (.tup xs) else guardM _ _) h Q
  split
  · rename_i e
    subst e
    rw [show (List.replicate (1 : Int).toNat xs).flatten = xs by simp] at q
    exact q
  · rename_i e
    rw [wp_guard]
    exact ⟨⟨h0, by omega, h2, h3⟩, q⟩
theorem w_divI {i j : Int} : wp (pDiv (.int i) (.int j)) h Q = (DivOk j ∧ Q (.int (i.fdiv j)) h) := wp_guard
theorem w_modI {i j : Int} : wp (pMod (.int i) (.int j)) h Q = (j ≠ 0 ∧ Q (.int (i.fmod j)) h) := wp_guard
theorem w_powI {i j : Int} : wp (pPow (.int i) (.int j)) h Q = (CPow i j ∧ Q (.int (i ^ j.toNat)) h) := wp_guard
theorem w_negI {i : Int} : wp (pNeg (.int i)) h Q = Q (.int (-i)) h := rfl
theorem w_cmpI {g : Int → Int → Bool} {i j : Int} : wp (pCmpI g (.int i) (.int j)) h Q = Q (.bl (g i j)) h := rfl
theorem w_eq : wp (pEq u v) h Q = ((CmpOk u ∧ CmpOk v) ∧ Q (.bl (eqb u v)) h) := wp_guard
theorem w_ne : wp (pNe u v) h Q = ((CmpOk u ∧ CmpOk v) ∧ Q (.bl (!eqb u v)) h) := wp_guard
theorem w_ix {k : Int} : wp (pIx u (.int k)) h Q = wp (ixI k u) h Q := rfl
theorem w_ixL {xs : List PV} {k : Int} : wp (ixI k (.lst xs)) h Q = wp (oM (atI xs k)) h Q := rfl
theorem w_ixT {xs : List PV} {k : Int} : wp (ixI k (.tup xs)) h Q = wp (oM (atI xs k)) h Q := rfl
theorem w_ixS {xs : List PV} {k : Int} : wp (ixI k (.scr xs)) h Q = wp (oM (atI xs k)) h Q := rfl
theorem w_oM {α : Type} {x : α} {Q : PQ α} : wp (oM (some x)) h Q = Q x h := rfl
theorem w_len1 : wp (f1 pLen [u]) h Q = wp (pLen u) h Q := rfl
theorem w_lenL {xs : List PV} : wp (pLen (.lst xs)) h Q = Q (.int xs.length) h := rfl
theorem w_lenT {xs : List PV} : wp (pLen (.tup xs)) h Q = Q (.int xs.length) h := rfl
theorem w_lenS {xs : List PV} : wp (pLen (.scr xs)) h Q = Q (.int xs.length) h := rfl
theorem w_absI {k : Int} : wp (f1 pAbs [.int k]) h Q = Q (.int (if k < 0 then -k else k)) h := rfl
theorem w_max2 {k l : Int} : wp (f2 pMax2 [.int k, .int l]) h Q = Q (.int (if l > k then l else k)) h := rfl
theorem w_min2 {k l : Int} : wp (f2 pMin2 [.int k, .int l]) h Q = Q (.int (if l < k then l else k)) h := rfl
theorem w_intI {k : Int} : wp (f1 pInt [.int k]) h Q = Q (.int k) h := rfl
theorem w_intB {k : Bool} : wp (f1 pInt [.bl k]) h Q = Q (.int (if k then 1 else 0)) h := rfl
theorem w_sumT {xs : List PV} : wp (f1 pSum [.tup xs]) h Q = wp (oM ((intsOf xs).map fun ns => .int ns.sum)) h Q := rfl
theorem w_sum {xs : List PV} : wp (f1 pSum [.lst xs]) h Q = wp (oM ((intsOf xs).map fun ns => .int ns.sum)) h Q := rfl
theorem w_tupL {xs : List PV} : wp (f1 pTuple [.lst xs]) h Q = Q (.tup xs) h := rfl
theorem w_tupT {xs : List PV} : wp (f1 pTuple [.tup xs]) h Q = Q (.tup xs) h := rfl
theorem w_tupS {xs : List PV} : wp (f1 pTuple [.scr xs]) h Q = Q (.tup xs) h := rfl
theorem w_strS {z : Str} : wp (f1 pStr [.str z]) h Q = Q (.str z) h := rfl
theorem w_strI {k : Int} : wp (f1 pStr [.int k]) h Q = if k.natAbs.log2 < 1920 then Q (.str (toString k)) h else False := by
  show wp (if _ then _ else _) h Q = _
  rw [wp_ite]; rfl
theorem w_lenZ {z : Str} : wp (pLen (.str z)) h Q = if z.length ≤ sizeLine then Q (.int z.length) h else False := by
  show wp (if _ then _ else _) h Q = _
  rw [wp_ite]; rfl
theorem w_isB {k l : Bool} : wp (pIsN (.bl k) (.bl l)) h Q = Q (.bl (decide (k = l))) h := rfl
theorem w_isN : wp (pIsN u .non) h Q = Q (.bl (match u with | .non => true | _ => false)) h := by cases u <;> rfl
theorem w_notN : wp (pNotN u .non) h Q = Q (.bl (match u with | .non => false | _ => true)) h := by cases u <;> rfl
end
theorem cmpok_int {i : Int} : CmpOk (.int i) := ⟨rfl, by simp [PV.toD, SeqAt.shaped, PyData.canLay0, PyData.depth]⟩
theorem cmpok_bl {i : Bool} : CmpOk (.bl i) := ⟨rfl, by simp [PV.toD, SeqAt.shaped, PyData.canLay0, PyData.depth]⟩
theorem cmpok_non : CmpOk .non := ⟨rfl, by simp [PV.toD, SeqAt.shaped, PyData.canLay0, PyData.depth]⟩
theorem eqb_int {i j : Int} : eqb (.int i) (.int j) = decide (i = j) := by
  simp only [eqb, PV.toD, PyData.eqv]
  rfl
theorem eqb_bl {i j : Bool} : eqb (.bl i) (.bl j) = decide (i = j) := by
  simp only [eqb, PV.toD, PyData.eqv]
  cases i <;> cases j <;> rfl
/-! ### loops -/
/-- how one round of a loop ends: the loop goes on with J, or is left with Q -/
def LQ (J : En → Hc → Prop) (Q : PQ Fl) : PQ Fl := fun f h => match f with
  | .nx ρ => J ρ h
  | .ct ρ => J ρ h
  | .bk ρ => Q (.nx ρ) h
  | .rt v => Q (.rt v) h
section
variable {J : En → Hc → Prop} {Q : PQ Fl} {ρ : En} {h : Hc} {v : PV}
theorem w_LQn : LQ J Q (.nx ρ) h = J ρ h := rfl
theorem w_LQc : LQ J Q (.ct ρ) h = J ρ h := rfl
theorem w_LQb : LQ J Q (.bk ρ) h = Q (.nx ρ) h := rfl
theorem w_LQr : LQ J Q (.rt v) h = Q (.rt v) h := rfl
end
theorem forL_cons {b : PV → SX} {x : PV} {xs : List PV} {ρ : En} {h : Hc} {Q : PQ Fl} : wp (forL b (x :: xs) ρ) h Q = wp (b x ρ) h (LQ (fun ρ' h' => wp (forL b xs ρ') h' Q) Q) := by
  show wp (b x ρ >>= _) h Q = _
  rw [wp_bind]; congr 1; funext f h
  cases f <;> rfl
/-- the invariant is told of the items that are done and those that are left -/
theorem for_inv {b : PV → SX} {Q : PQ Fl} (xs : List PV) (I : List PV → List PV → En → Hc → Prop) {ρ : En} {h : Hc} (h0 : I [] xs ρ h)
    (hs : ∀ pre x post ρ h, xs = pre ++ x :: post → I pre (x :: post) ρ h → wp (b x ρ) h (LQ (I (pre ++ [x]) post) Q)) (he : ∀ ρ h, I xs [] ρ h → Q (.nx ρ) h) : wp (forL b xs ρ) h Q := by
  suffices q : ∀ (post pre : List PV) (ρ : En) (h : Hc), xs = pre ++ post → I pre post ρ h → wp (forL b post ρ) h Q from q xs [] ρ h rfl h0
  intro post
  induction post with
  | nil => intro pre ρ h e i; rw [List.append_nil] at e; subst e; exact he ρ h i
  | cons x r ih =>
    intro pre ρ h e i
    rw [forL_cons]
    refine wp_mono (hs pre x r ρ h e i) fun f h' q => ?_
    cases f with
    | nx ρ' => exact ih (pre ++ [x]) ρ' h' (by rw [e]; simp) q
    | ct ρ' => exact ih (pre ++ [x]) ρ' h' (by rw [e]; simp) q
    | bk ρ' => exact q
    | rt v => exact q
/-- for i in range: the invariant is told of the number of rounds done -/
theorem for_rng {b : PV → SX} {Q : PQ Fl} {lo : Int} {n : Nat} (I : Nat → En → Hc → Prop) {ρ : En} {h : Hc} (h0 : I 0 ρ h)
    (hs : ∀ i ρ h, i < n → I i ρ h → wp (b (.int (lo + i)) ρ) h (LQ (I (i + 1)) Q)) (he : ∀ ρ h, I n ρ h → Q (.nx ρ) h) : wp (forL b (rangeP lo n) ρ) h Q := by
  have len : (rangeP lo n).length = n := by simp [rangeP]
  refine for_inv (rangeP lo n) (fun pre _ ρ h => pre.length ≤ n ∧ I pre.length ρ h) ⟨Nat.zero_le _, h0⟩ (fun pre x post ρ h e i => ?_) (fun ρ h i => ?_)
  · have hl : pre.length + (post.length + 1) = n := by rw [← len, e]; simp
    have hx : x = .int (lo + pre.length) := by
      have e1 : (rangeP lo n)[pre.length]? = some x := by rw [e]; simp
      rw [rangeP, List.getElem?_map, List.getElem?_range (by omega)] at e1
      exact (Option.some.inj e1).symm
    subst hx
    refine wp_mono (hs pre.length ρ h (by omega) i.2) fun f h' q => ?_
    cases f with
    | nx ρ' => exact ⟨by simp; omega, by rw [List.length_append]; exact q⟩
    | ct ρ' => exact ⟨by simp; omega, by rw [List.length_append]; exact q⟩
    | bk ρ' => exact q
    | rt v => exact q
  · rw [len] at i; exact he ρ h i.2
theorem for_rng0 {b : PV → SX} {Q : PQ Fl} {n : Nat} (I : Nat → En → Hc → Prop) {ρ : En} {h : Hc} (h0 : I 0 ρ h)
    (hs : ∀ (i : Nat) ρ h, i < n → I i ρ h → wp (b (.int i) ρ) h (LQ (I (i + 1)) Q)) (he : ∀ ρ h, I n ρ h → Q (.nx ρ) h) : wp (forL b (rangeP 0 n) ρ) h Q :=
  for_rng I h0 (fun i ρ h hi q => by rw [Int.zero_add]; exact hs i ρ h hi q) he
theorem set_id {ρ : En} (j : Nat) : ∃ v, ρ = ρ.set j v := by
  by_cases hj : j < ρ.length
  · exact ⟨ρ[j], (List.set_getElem_self hj).symm⟩
  · exact ⟨.no, (List.set_eq_of_length_le (by omega)).symm⟩
/-- a loop that writes one name only -/
theorem for_one {b : PV → SX} {Q : PQ Fl} {xs : List PV} {ρ : En} {h : Hc} (j : Nat) (I : Hc → Prop) (h0 : I h)
    (hs : ∀ x ∈ xs, ∀ v h, I h → wp (b x (ρ.set j v)) h (LQ (fun ρ' h' => (∃ v, ρ' = ρ.set j v) ∧ I h') Q)) (he : ∀ v h, I h → Q (.nx (ρ.set j v)) h) : wp (forL b xs ρ) h Q := by
  refine for_inv xs (fun _ _ ρ' h' => (∃ v, ρ' = ρ.set j v) ∧ I h') ⟨set_id j, h0⟩ (fun pre x post ρ' h' e i => ?_) (fun ρ' h' i => ?_)
  · obtain ⟨⟨v, rfl⟩, i⟩ := i
    exact hs x (by rw [e]; simp) v h' i
  · obtain ⟨⟨v, rfl⟩, i⟩ := i
    exact he v h' i
/-- a loop that writes two names only -/
theorem for_two {b : PV → SX} {Q : PQ Fl} {xs : List PV} {ρ : En} {h : Hc} (j k : Nat) (I : Hc → Prop) (h0 : I h)
    (hs : ∀ x ∈ xs, ∀ v w h, I h → wp (b x ((ρ.set j v).set k w)) h (LQ (fun ρ' h' => (∃ v w, ρ' = (ρ.set j v).set k w) ∧ I h') Q)) (he : ∀ v w h, I h → Q (.nx ((ρ.set j v).set k w)) h) : wp (forL b xs ρ) h Q := by
  refine for_inv xs (fun _ _ ρ' h' => (∃ v w, ρ' = (ρ.set j v).set k w) ∧ I h') ⟨?_, h0⟩ (fun pre x post ρ' h' e i => ?_) (fun ρ' h' i => ?_)
  · obtain ⟨v, e⟩ := set_id (ρ := ρ) j
    obtain ⟨w, e2⟩ := set_id (ρ := ρ) k
    exact ⟨v, w, by rw [← e]; exact e2⟩
  · obtain ⟨⟨v, w, rfl⟩, i⟩ := i
    exact hs x (by rw [e]; simp) v w h' i
  · obtain ⟨⟨v, w, rfl⟩, i⟩ := i
    exact he v w h' i
def KW (b : SX) (ρ : En) (J : En → Hc → Prop) (Q : PQ Fl) : PQ Bool := fun k h => if k = true then wp (b ρ) h (LQ J Q) else Q (.nx ρ) h
theorem w_KW {b : SX} {ρ : En} {J : En → Hc → Prop} {Q : PQ Fl} {k : Bool} {h : Hc} : KW b ρ J Q k h = if k = true then wp (b ρ) h (LQ J Q) else Q (.nx ρ) h := rfl
/-- while: the measure falls -/
theorem while_inv {c : TX} {b : SX} {Q : PQ Fl} (I : Nat → En → Hc → Prop) {ρ : En} {h : Hc} (n : Nat) (h0 : I n ρ h)
    (hs : ∀ n ρ h, I n ρ h → wp (c ρ) h (KW b ρ (fun ρ' h' => ∃ m, m < n ∧ I m ρ' h') Q)) : wp (sWhile c b ρ) h Q := by
  induction n using Nat.strongRecOn generalizing ρ h with
  | _ n ih =>
    rw [sWhile_eq, wp_bind]
    refine wp_mono (hs n ρ h h0) fun k h1 q => ?_
    unfold KW at q
    rw [wp_ite]
    split
    · rename_i hk
      rw [if_pos hk] at q
      rw [wp_bind]
      refine wp_mono q fun f h2 q2 => ?_
      cases f with
      | nx ρ' => obtain ⟨m, hm, q3⟩ := q2; exact ih m hm q3
      | ct ρ' => obtain ⟨m, hm, q3⟩ := q2; exact ih m hm q3
      | bk ρ' => exact q2
      | rt v => exact q2
    · rename_i hk
      rw [if_neg hk] at q
      exact q
/-! ### comprehensions -/
def compOne (g : GX) (t : TX) (e : EX) (ρ : En) (x : PV) : M (Option PV) := g x ρ >>= fun ρ' => t ρ' >>= fun k => if k = true then (e ρ' >>= fun y => pure (some y)) else pure none
def KGc (t : TX) (e : EX) (Q : PQ (Option PV)) : PQ En := fun ρ h => wp (t ρ) h (fun k h => if k = true then wp (e ρ) h (fun y h => Q (some y) h) else Q none h)
def KTc (e : EX) (ρ : En) (Q : PQ (Option PV)) : PQ Bool := fun k h => if k = true then wp (e ρ) h (fun y h => Q (some y) h) else Q none h
def KSo (Q : PQ (Option PV)) : PQ PV := fun y h => Q (some y) h
section
variable {g : GX} {t : TX} {e : EX} {ρ : En} {x : PV} {h : Hc} {Q : PQ (Option PV)}
theorem w_one : wp (compOne g t e ρ x) h Q = wp (g x ρ) h (KGc t e Q) := by
  unfold compOne; rw [wp_bind]; congr 1; funext ρ' h; rw [wp_bind]; unfold KGc; congr 1; funext k h; rw [wp_ite, wp_bind]; rfl
theorem w_KGc : KGc t e Q ρ h = wp (t ρ) h (KTc e ρ Q) := rfl
theorem w_KTc {k : Bool} : KTc e ρ Q k h = if k = true then wp (e ρ) h (KSo Q) else Q none h := rfl
theorem w_KSo : KSo Q x h = Q (some x) h := rfl
theorem w_tTrue {Q : PQ Bool} : wp (tTrue ρ) h Q = Q true h := rfl
end
theorem noX_wp {α : Type} {m : M α} {h : Hc} {Q : PQ α} (p : wp m h Q) : wp (noX m) h Q := by
  obtain ⟨a, h', e, q⟩ := wp_ok p
  unfold wp noX
  rw [e]; exact q
theorem compL_cons {g : GX} {t : TX} {e : EX} {ρ : En} {x : PV} {xs : List PV} {h : Hc} {Q : PQ (List PV)} :
    wp (compL g t e ρ (x :: xs)) h Q = wp (compOne g t e ρ x) h (fun o h => wp (compL g t e ρ xs) h (fun ys h => Q (o.toList ++ ys) h)) := by
  unfold compOne
  show wp (g x ρ >>= _) h Q = _
  rw [wp_bind, wp_bind]; congr 1; funext ρ' h
  rw [wp_bind, wp_bind]; congr 1; funext k h
  rw [wp_ite, wp_ite]
  split
  · rw [wp_bind, wp_bind]; congr 1; funext y h; rw [wp_bind]; rfl
  · rfl
/-- [e for x in xs if t] with draws: the invariant is told of what is done, what is left, and the list so far -/
theorem comp_inv {g : GX} {t : TX} {e : EX} {ρ : En} {Q : PQ (List PV)} (xs : List PV) (I : List PV → List PV → List PV → Hc → Prop) {h : Hc} (h0 : I [] xs [] h)
    (hs : ∀ pre x post ys h, xs = pre ++ x :: post → I pre (x :: post) ys h → wp (compOne g t e ρ x) h (fun o h' => I (pre ++ [x]) post (ys ++ o.toList) h')) (he : ∀ ys h, I xs [] ys h → Q ys h) :
    wp (noX (compL g t e ρ xs)) h Q := by
  apply noX_wp
  suffices q : ∀ (post pre ys : List PV) (h : Hc), xs = pre ++ post → I pre post ys h → wp (compL g t e ρ post) h (fun zs h' => Q (ys ++ zs) h') from by
    have := q xs [] [] h rfl h0
    exact this
  intro post
  induction post with
  | nil =>
    intro pre ys h e i
    rw [List.append_nil] at e; subst e
    show Q (ys ++ []) h
    rw [List.append_nil]; exact he ys h i
  | cons x r ih =>
    intro pre ys h e i
    rw [compL_cons]
    refine wp_mono (hs pre x r ys h e i) fun o h' q => ?_
    refine wp_mono (ih (pre ++ [x]) (ys ++ o.toList) h' (by rw [e]; simp) q) fun zs h2 q2 => ?_
    rw [← List.append_assoc]; exact q2
/-- .. without draws -/
theorem comp_map {g : GX} {t : TX} {e : EX} {ρ : En} {Q : PQ (List PV)} {xs : List PV} (F : PV → Option PV) {h : Hc} (hs : ∀ x ∈ xs, wp (compOne g t e ρ x) h (fun o h' => h' = h ∧ o = F x)) (he : Q (xs.filterMap F) h) :
    wp (noX (compL g t e ρ xs)) h Q := by
  refine comp_inv xs (fun pre _ ys h' => h' = h ∧ ys = pre.filterMap F) ⟨rfl, rfl⟩ (fun pre x post ys h' e i => ?_) (fun ys h' i => by rw [i.1, i.2]; exact he)
  obtain ⟨rfl, rfl⟩ := i
  refine wp_mono (hs x (by rw [e]; simp)) fun o h2 q => ⟨q.1, ?_⟩
  rw [q.2, List.filterMap_append]
  congr 1
/-- [e for i in range(n)] -/
theorem comp_rng {g : GX} {t : TX} {e : EX} {ρ : En} {Q : PQ (List PV)} {n : Nat} (F : Nat → Option PV) {h : Hc} (hs : ∀ i : Nat, i < n → wp (compOne g t e ρ (.int i)) h (fun o h' => h' = h ∧ o = F i)) (he : Q ((List.range n).filterMap F) h) :
    wp (noX (compL g t e ρ (rangeP 0 n))) h Q := by
  refine comp_map (fun x => match x with | .int i => F i.toNat | _ => none) (fun x hx => ?_) ?_
  · obtain ⟨i, hi, rfl⟩ := List.mem_map.mp hx
    rw [List.mem_range] at hi
    rw [Int.zero_add]
    exact hs i hi
  · unfold rangeP
    rw [List.filterMap_map]
    have : ((fun x => match x with | .int i => F i.toNat | _ => none) ∘ fun i : Nat => PV.int (0 + (i : Int))) = F := by
      funext i
      show F (0 + (i : Int)).toNat = F i
      rw [Int.zero_add]; rfl
    rw [this]; exact he
@[simp] theorem length_rangeP {lo : Int} {n : Nat} : (rangeP lo n).length = n := by simp [rangeP]
/-! ### kinds -/
theorem w_isa_int_non  : isa .int .non = false := rfl
theorem w_isa_bool_non  : isa .bool .non = false := rfl
theorem w_isa_str_non  : isa .str .non = false := rfl
theorem w_isa_tuple_non  : isa .tuple .non = false := rfl
theorem w_isa_list_non  : isa .list .non = false := rfl
theorem w_isa_dict_non  : isa .dict .non = false := rfl
theorem w_isa_int_bl {b : Bool} : isa .int (.bl b) = true := rfl
theorem w_isa_bool_bl {b : Bool} : isa .bool (.bl b) = true := rfl
theorem w_isa_str_bl {b : Bool} : isa .str (.bl b) = false := rfl
theorem w_isa_tuple_bl {b : Bool} : isa .tuple (.bl b) = false := rfl
theorem w_isa_list_bl {b : Bool} : isa .list (.bl b) = false := rfl
theorem w_isa_dict_bl {b : Bool} : isa .dict (.bl b) = false := rfl
theorem w_isa_int_int {i : Int} : isa .int (.int i) = true := rfl
theorem w_isa_bool_int {i : Int} : isa .bool (.int i) = false := rfl
theorem w_isa_str_int {i : Int} : isa .str (.int i) = false := rfl
theorem w_isa_tuple_int {i : Int} : isa .tuple (.int i) = false := rfl
theorem w_isa_list_int {i : Int} : isa .list (.int i) = false := rfl
theorem w_isa_dict_int {i : Int} : isa .dict (.int i) = false := rfl
theorem w_isa_int_str {z : Str} : isa .int (.str z) = false := rfl
theorem w_isa_bool_str {z : Str} : isa .bool (.str z) = false := rfl
theorem w_isa_str_str {z : Str} : isa .str (.str z) = true := rfl
theorem w_isa_tuple_str {z : Str} : isa .tuple (.str z) = false := rfl
theorem w_isa_list_str {z : Str} : isa .list (.str z) = false := rfl
theorem w_isa_dict_str {z : Str} : isa .dict (.str z) = false := rfl
theorem w_isa_int_tup {xs : List PV} : isa .int (.tup xs) = false := rfl
theorem w_isa_bool_tup {xs : List PV} : isa .bool (.tup xs) = false := rfl
theorem w_isa_str_tup {xs : List PV} : isa .str (.tup xs) = false := rfl
theorem w_isa_tuple_tup {xs : List PV} : isa .tuple (.tup xs) = true := rfl
theorem w_isa_list_tup {xs : List PV} : isa .list (.tup xs) = false := rfl
theorem w_isa_dict_tup {xs : List PV} : isa .dict (.tup xs) = false := rfl
theorem w_isa_int_lst {xs : List PV} : isa .int (.lst xs) = false := rfl
theorem w_isa_bool_lst {xs : List PV} : isa .bool (.lst xs) = false := rfl
theorem w_isa_str_lst {xs : List PV} : isa .str (.lst xs) = false := rfl
theorem w_isa_tuple_lst {xs : List PV} : isa .tuple (.lst xs) = false := rfl
theorem w_isa_list_lst {xs : List PV} : isa .list (.lst xs) = true := rfl
theorem w_isa_dict_lst {xs : List PV} : isa .dict (.lst xs) = false := rfl
theorem w_isa_int_scr {xs : List PV} : isa .int (.scr xs) = false := rfl
theorem w_isa_bool_scr {xs : List PV} : isa .bool (.scr xs) = false := rfl
theorem w_isa_str_scr {xs : List PV} : isa .str (.scr xs) = false := rfl
theorem w_isa_tuple_scr {xs : List PV} : isa .tuple (.scr xs) = false := rfl
theorem w_isa_list_scr {xs : List PV} : isa .list (.scr xs) = true := rfl
theorem w_isa_dict_scr {xs : List PV} : isa .dict (.scr xs) = false := rfl
theorem w_isa_int_cell {n : Nat} : isa .int (.cell n) = false := rfl
theorem w_isa_bool_cell {n : Nat} : isa .bool (.cell n) = false := rfl
theorem w_isa_str_cell {n : Nat} : isa .str (.cell n) = false := rfl
theorem w_isa_tuple_cell {n : Nat} : isa .tuple (.cell n) = false := rfl
theorem w_isa_list_cell {n : Nat} : isa .list (.cell n) = true := rfl
theorem w_isa_dict_cell {n : Nat} : isa .dict (.cell n) = false := rfl
theorem w_size : sizeLine = 16777216 := rfl
theorem cmpok_nil : CmpOk (.lst []) := ⟨rfl, by simp [PV.toD, toDs, SeqAt.shaped, PyData.canLay0, PyData.canLayAll0, PyData.depth, PyData.depthAll]⟩
theorem w_eqb_nil : eqb (.lst []) (.lst []) = true := by simp [eqb, PV.toD, toDs, PyData.eqv, PyData.eqvAll]
theorem w_cmpok_int {i : Int} : CmpOk (.int i) = True := eq_true cmpok_int
theorem w_cmpok_bl {i : Bool} : CmpOk (.bl i) = True := eq_true cmpok_bl
theorem w_cmpok_non : CmpOk .non = True := eq_true cmpok_non
theorem w_cmpok_nil : CmpOk (.lst []) = True := eq_true cmpok_nil
/-! ### small facts -/
theorem sl_le {n : Nat} (h : n ≤ 1000000) : n ≤ sizeLine := Nat.le_trans h (by decide)
theorem sl_lt {n : Nat} (h : n ≤ 1000000) : n < sizeLine := Nat.lt_of_le_of_lt h (by decide)
theorem mulok_l {i j : Int} (h1 : -(2 ^ 64) < i) (h2 : i < 2 ^ 64) : MulOk i j := .inl (.inl ⟨h1, h2⟩)
theorem mulok_r {i j : Int} (h1 : -(2 ^ 64) < j) (h2 : j < 2 ^ 64) : MulOk i j := .inl (.inr ⟨h1, h2⟩)
theorem divok {j : Int} (h0 : j ≠ 0) (h1 : -(2 ^ 64) < j) (h2 : j < 2 ^ 64) : DivOk j := by
  refine ⟨h0, ?_⟩
  have h3 : j.natAbs < 2 ^ 64 := by omega
  have : j.natAbs.log2 < 64 := (Nat.log2_lt (by omega)).mpr h3
  omega
theorem fmod_lt {i j : Int} (h : 0 < j) : i.fmod j < j := by rw [Int.fmod_eq_emod_of_nonneg _ (by omega)]; exact Int.emod_lt_of_pos _ h
theorem fmod_nn {i j : Int} (h : 0 < j) : 0 ≤ i.fmod j := by rw [Int.fmod_eq_emod_of_nonneg _ (by omega)]; exact Int.emod_nonneg _ (by omega)
theorem fmod_emod {i j : Int} (h : 0 < j) : i.fmod j = i % j := by rw [Int.fmod_eq_emod_of_nonneg _ (by omega)]
theorem fdiv_ediv {i j : Int} (h : 0 < j) : i.fdiv j = i / j := by rw [Int.fdiv_eq_ediv_of_nonneg _ (by omega)]
theorem mulok_fl {i j m : Int} (h : 0 < m) (h2 : m ≤ 2 ^ 64) : MulOk (i.fmod m) j := by
  have h3 := fmod_nn (i := i) h
  have h4 := fmod_lt (i := i) h
  exact mulok_l (by omega) (by omega)
theorem bigI {i : Int} (h : -(2 ^ 62) ≤ i) (h2 : i < 2 ^ 62) : Big i := ⟨h, h2⟩
theorem atI_nn {α : Type} {xs : List α} {i : Int} (h : 0 ≤ i) : atI xs i = xs[i.toNat]? := by
  unfold atI ixN
  rw [if_pos h]
  split
  · rfl
  · rw [List.getElem?_eq_none (by omega)]; rfl
/-- the law's cup -/
def Cup (h : Hc) : Prop := ∃ a b : Int, h = [[.int a, .int b]]
theorem cup_pos {a b : Int} : Cup [[.int a, .int b]] := ⟨a, b, rfl⟩
theorem w_ixC0 {a b : Int} {Q : PQ PV} : wp (ixI 0 (.cell 0)) [[.int a, .int b]] Q = Q (.int a) [[.int a, .int b]] := rfl
theorem w_ixC1 {a b : Int} {Q : PQ PV} : wp (ixI 1 (.cell 0)) [[.int a, .int b]] Q = Q (.int b) [[.int a, .int b]] := rfl
theorem w_put0 {a b c : Int} {ρ : En} {Q : PQ Fl} : wp (putCell 0 (.int c) (.int 0) ρ) [[.int a, .int b]] Q = Q (.nx ρ) [[.int c, .int b]] := rfl
theorem w_put1 {a b c : Int} {ρ : En} {Q : PQ Fl} : wp (putCell 0 (.int c) (.int 1) ρ) [[.int a, .int b]] Q = Q (.nx ρ) [[.int a, .int c]] := rfl
/-! ### sizes -/
theorem log2_lt_of {n k : Nat} (h : n < 2 ^ k) (hk : 0 < k) : n.log2 < k := by
  by_cases h0 : n = 0
  · subst h0; rw [Nat.log2_zero]; exact hk
  · exact (Nat.log2_lt h0).mpr h
theorem mulok_w {i j : Int} (h1 : i.natAbs < 2 ^ 4000) (h2 : j.natAbs < 2 ^ 4000) : MulOk i j := by
  refine .inr ?_
  have a := log2_lt_of h1 (by decide)
  have b := log2_lt_of h2 (by decide)
  show i.natAbs.log2 + j.natAbs.log2 < 1000000
  omega
theorem pow250 : (2 : Nat) ^ 250 < 2 ^ 4000 := Nat.pow_lt_pow_right (by decide) (by decide)
theorem mulok_m {i j : Int} (h1 : i.natAbs < 2 ^ 250) (h2 : j.natAbs < 2 ^ 250) : MulOk i j := mulok_w (Nat.lt_trans h1 pow250) (Nat.lt_trans h2 pow250)
theorem divok_w {j : Int} (h0 : j ≠ 0) (h1 : j.natAbs < 2 ^ 8000) : DivOk j := ⟨h0, by have := log2_lt_of h1 (by decide); omega⟩
theorem divok_m {j : Int} (h0 : j ≠ 0) (h1 : j.natAbs < 2 ^ 250) : DivOk j := divok_w h0 (Nat.lt_trans h1 (Nat.pow_lt_pow_right (by decide) (by decide)))
/-! ### comparing -/
theorem eqb_lst_nil {ys : List PV} : eqb (.lst ys) (.lst []) = ys.isEmpty := by
  cases ys <;> simp [eqb, PV.toD, toDs, PyData.eqv, PyData.eqvAll]
theorem eqb_tup_nil {ys : List PV} : eqb (.tup ys) (.tup []) = ys.isEmpty := by
  cases ys <;> simp [eqb, PV.toD, toDs, PyData.eqv, PyData.eqvAll]
theorem eqb_lst_cons {x y : PV} {xs ys : List PV} : eqb (.lst (x :: xs)) (.lst (y :: ys)) = (eqb x y && eqb (.lst xs) (.lst ys)) := by
  simp [eqb, PV.toD, toDs, PyData.eqv, PyData.eqvAll]
theorem eqb_tup_cons {x y : PV} {xs ys : List PV} : eqb (.tup (x :: xs)) (.tup (y :: ys)) = (eqb x y && eqb (.tup xs) (.tup ys)) := by
  simp [eqb, PV.toD, toDs, PyData.eqv, PyData.eqvAll]
/-- it may be compared, its depth is at most n -/
def CD (n : Nat) (p : PV) : Prop := p.dat = true ∧ p.toD.canLay0 = true ∧ p.toD.depth ≤ n
theorem CD.ok {n : Nat} {p : PV} (h : CD n p) (hn : n ≤ 64) : CmpOk p := ⟨h.1, by
  unfold SeqAt.shaped
  rw [h.2.1, decide_eq_true (Nat.le_trans h.2.2 hn)]; rfl⟩
theorem cd_int {n : Nat} {i : Int} : CD n (.int i) := ⟨rfl, rfl, Nat.zero_le _⟩
theorem cd_bl {n : Nat} {i : Bool} : CD n (.bl i) := ⟨rfl, rfl, Nat.zero_le _⟩
theorem cd_non {n : Nat} : CD n .non := ⟨rfl, rfl, Nat.zero_le _⟩
theorem cds {n : Nat} : ∀ {xs : List PV}, (∀ x ∈ xs, CD n x) → dats xs = true ∧ PyData.canLayAll0 (toDs xs) = true ∧ PyData.depthAll (toDs xs) ≤ n
  | [], _ => ⟨rfl, by simp [toDs, PyData.canLayAll0], by simp [toDs, PyData.depthAll]⟩
  | x :: xs, h => by
    obtain ⟨a, b, c⟩ := cds fun y hy => h y (List.mem_cons_of_mem _ hy)
    obtain ⟨d, e, f⟩ := h x List.mem_cons_self
    exact ⟨by simp [dats, a, d], by simp [toDs, PyData.canLayAll0, b, e], by simp only [toDs, PyData.depthAll]; exact Nat.max_le.mpr ⟨f, c⟩⟩
theorem cd_lst {n : Nat} {xs : List PV} (h : ∀ x ∈ xs, CD n x) : CD (n + 1) (.lst xs) := by
  obtain ⟨a, b, c⟩ := cds h
  exact ⟨by simp [PV.dat, a], by simp [PV.toD, PyData.canLay0, b], by simp only [PV.toD, PyData.depth]; omega⟩
theorem cd_tup {n : Nat} {xs : List PV} (h : ∀ x ∈ xs, CD n x) : CD (n + 1) (.tup xs) := by
  obtain ⟨a, b, c⟩ := cds h
  exact ⟨by simp [PV.dat, a], by simp [PV.toD, PyData.canLay0, b], by simp only [PV.toD, PyData.depth]; omega⟩
theorem cmpok_ints {xs : List PV} (h : ∀ x ∈ xs, ∃ i, x = .int i) : CmpOk (.lst xs) := (cd_lst (n := 0) fun x hx => by obtain ⟨i, rfl⟩ := h x hx; exact cd_int).ok (by decide)
theorem cmpok_intsT {xs : List PV} (h : ∀ x ∈ xs, ∃ i, x = .int i) : CmpOk (.tup xs) := (cd_tup (n := 0) fun x hx => by obtain ⟨i, rfl⟩ := h x hx; exact cd_int).ok (by decide)
theorem eqb_self_int : ∀ {ns ms : List Int}, eqb (.lst (ns.map .int)) (.lst (ms.map .int)) = decide (ns = ms)
  | [], [] => by simp [eqb, PV.toD, toDs, PyData.eqv, PyData.eqvAll]
  | [], _ :: _ => by simp [eqb, PV.toD, toDs, PyData.eqv, PyData.eqvAll]
  | _ :: _, [] => by simp [eqb, PV.toD, toDs, PyData.eqv, PyData.eqvAll]
  | x :: xs, y :: ys => by
    rw [List.map_cons, List.map_cons, eqb_lst_cons, eqb_int, eqb_self_int]
    simp
theorem eqb_self_intT : ∀ {ns ms : List Int}, eqb (.tup (ns.map .int)) (.tup (ms.map .int)) = decide (ns = ms)
  | [], [] => by simp [eqb, PV.toD, toDs, PyData.eqv, PyData.eqvAll]
  | [], _ :: _ => by simp [eqb, PV.toD, toDs, PyData.eqv, PyData.eqvAll]
  | _ :: _, [] => by simp [eqb, PV.toD, toDs, PyData.eqv, PyData.eqvAll]
  | x :: xs, y :: ys => by
    rw [List.map_cons, List.map_cons, eqb_tup_cons, eqb_int, eqb_self_intT]
    simp
/-! ### all, any -/
theorem w_allL {xs : List PV} {h : Hc} {Q : PQ PV} : wp (f1 pAll [.lst xs]) h Q = wp (pAll (.lst xs)) h Q := rfl
theorem w_anyL {xs : List PV} {h : Hc} {Q : PQ PV} : wp (f1 pAny [.lst xs]) h Q = wp (pAny (.lst xs)) h Q := rfl
theorem all_map {α : Type} {xs : List α} {p : α → Bool} {h : Hc} {Q : PQ PV} (q : Q (.bl (xs.all p)) h) : wp (pAll (.lst (xs.map fun x => .bl (p x)))) h Q := by
  have e1 : (xs.map fun x => PV.bl (p x)) = (xs.map p).map PV.bl := by rw [List.map_map]; rfl
  rw [e1]
  unfold pAll
  show wp (oM ((blsOf ((xs.map p).map PV.bl)).map fun bs => PV.bl (bs.all id))) h Q
  rw [blsOf_map]
  show Q (.bl ((xs.map p).all id)) h
  rw [List.all_map]; exact q
theorem any_map {α : Type} {xs : List α} {p : α → Bool} {h : Hc} {Q : PQ PV} (q : Q (.bl (xs.any p)) h) : wp (pAny (.lst (xs.map fun x => .bl (p x)))) h Q := by
  have e1 : (xs.map fun x => PV.bl (p x)) = (xs.map p).map PV.bl := by rw [List.map_map]; rfl
  rw [e1]
  unfold pAny
  show wp (oM ((blsOf ((xs.map p).map PV.bl)).map fun bs => PV.bl (bs.any id))) h Q
  rw [blsOf_map]
  show Q (.bl ((xs.map p).any id)) h
  rw [List.any_map]; exact q
theorem filterMap_some {α β : Type} (f : α → β) (xs : List α) : xs.filterMap (fun x => some (f x)) = xs.map f := by
  induction xs with
  | nil => rfl
  | cons x r ih => simp only [List.filterMap_cons, List.map_cons, ih]
theorem w_at0 {α : Type} {x : α} {xs : List α} : atI (x :: xs) 0 = some x := by rw [atI_nn (by decide)]; rfl
theorem w_at1 {α : Type} {x y : α} {xs : List α} : atI (x :: y :: xs) 1 = some y := by rw [atI_nn (by decide)]; rfl
theorem w_at2 {α : Type} {x y z : α} {xs : List α} : atI (x :: y :: z :: xs) 2 = some z := by rw [atI_nn (by decide)]; rfl
theorem w_at3 {α : Type} {x y z w : α} {xs : List α} : atI (x :: y :: z :: w :: xs) 3 = some w := by rw [atI_nn (by decide)]; rfl
def KCc (g : GX) (t : TX) (e : EX) (ρ : En) (xs : List PV) (Q : PQ (List PV)) : PQ (Option PV) := fun o h => wp (compL g t e ρ xs) h (fun ys h => Q (o.toList ++ ys) h)
def KCd (o : Option PV) (Q : PQ (List PV)) : PQ (List PV) := fun ys h => Q (o.toList ++ ys) h
section
variable {g : GX} {t : TX} {e : EX} {ρ : En} {x : PV} {xs : List PV} {h : Hc} {Q : PQ (List PV)} {o : Option PV}
theorem w_compN : wp (compL g t e ρ []) h Q = Q [] h := rfl
theorem w_compC : wp (compL g t e ρ (x :: xs)) h Q = wp (compOne g t e ρ x) h (KCc g t e ρ xs Q) := compL_cons
theorem w_KCc : KCc g t e ρ xs Q o h = wp (compL g t e ρ xs) h (KCd o Q) := rfl
theorem w_KCdS : KCd (some x) Q xs h = Q (x :: xs) h := rfl
theorem w_KCdN : KCd none Q xs h = Q xs h := rfl
end
theorem filter1 {α β : Type} {p : α → Bool} {y : β} : ∀ xs : List α, (xs.filterMap fun x => if p x = true then none else some y).isEmpty = xs.all p
  | [] => rfl
  | x :: r => by
    cases hp : p x with
    | true => simp only [List.filterMap_cons, hp, if_true, List.all_cons, Bool.true_and]; exact filter1 r
    | false => simp [List.filterMap_cons, hp]
theorem w_cut3a {a b c : PV} : cutP [a, b, c] (some 1) none = [b, c] := rfl
theorem w_cut3b {a b c : PV} : cutP [a, b, c] none (some 2) = [a, b] := rfl
/-- whole numbers between bounds, bools are none -/
def fitsB (lo hi : Int) : PV → Bool
  | .int i => decide (lo ≤ i ∧ i ≤ hi)
  | _ => false
/-! ### zip, enumerate -/
def StL (K : PySem.W.Frag) (a : Addr) (vs : List V) (O : Addr → Prop) (γ : List Addr) (H : Hp) : Prop := ∀ O' γ' H' h', Later O γ H O' γ' H' → Cells K γ' H' h' → SqL K H' a vs
def lstOf : PV → Option (List PV)
  | .lst xs => some xs
  | .scr xs => some xs
  | _ => none
theorem Rep.stL {K : PySem.W.Frag} {O : Addr → Prop} {γ : List Addr} {H : Hp} {p : PV} {v : V} {xs : List PV} (r : Rep K O γ H p v) (e : lstOf p = some xs) : ∃ a vs, v = .ref a ∧ SqL K H a vs ∧ StL K a vs O γ H ∧ Reps K O γ H xs vs := by
  cases r with
  | lst s o r => cases e; exact ⟨_, _, rfl, SqL.of s, fun O' γ' H' h' L _ => SqL.of (L.ls _ _ s o).1, r⟩
  | scr s r => cases e; exact ⟨_, _, rfl, s.sq, fun O' γ' H' h' L _ => (s.elim (fun ⟨o, h⟩ => .inl ⟨o, L.nl _ _ h (fun _ => nofun)⟩) .inr : SqF _ _ _ _).sq, r⟩
  | _ => cases e
theorem StL.later {K : PySem.W.Frag} {a : Addr} {vs : List V} {O O' : Addr → Prop} {γ γ' : List Addr} {H H' : Hp} (s : StL K a vs O γ H) (L : Later O γ H O' γ' H') : StL K a vs O' γ' H' := fun O2 γ2 H2 h2 L2 C => s O2 γ2 H2 h2 ⟨fun a vs e n => L2.ls a vs (L.ls a vs e n).1 (L.ls a vs e n).2, fun a o e n => L2.nl a o (L.nl a o e n) n, fun n a e => L2.ga n a (L.ga n a e)⟩ C
theorem later_new {O : Addr → Prop} {γ : List Addr} {H : Hp} {p : Addr} {o : HO} (np : H p = none) : Later O γ H O γ (upd H p o) :=
  ⟨fun a vs e n => ⟨by rw [upd_ne (ne_of_none e np)]; exact e, n⟩, fun a o' e _ => by rw [upd_ne (ne_of_none e np)]; exact e, fun _ _ e => e⟩
def zipP (xs ys : List PV) : List PV := List.zipWith (fun x y => .tup [x, y]) xs ys
def enumP (xs : List PV) : List PV := (List.range xs.length).zipWith (fun i x => .tup [.int (i : Nat), x]) xs
theorem wk_zip {K : PySem.W.Frag} {O : Addr → Prop} {γ : List Addr} {H : Hp} {a b : Addr} {xs ys : List PV} {vs ws : List V} (s1 : StL K a vs O γ H) (r1 : Reps K O γ H xs vs) (s2 : StL K b ws O γ H) (r2 : Reps K O γ H ys ws) : Wk K (Itz K a b) (zipP xs ys) O γ H := by
  intro O' γ' H' h' L C
  have sq1 := s1 O' γ' H' h' L C
  have sq2 := s2 O' γ' H' h' L C
  have rr1 := r1.later L
  have rr2 := r2.later L
  refine ⟨fun i hi => ⟨vs, ws, sq1, sq2, ?_⟩, fun i p e => ?_⟩
  · rw [zipP, List.length_zipWith] at hi
    rw [← r1.length, ← r2.length]; omega
  · unfold zipP at e
    rw [List.getElem?_zipWith] at e
    cases ex : xs[i]? with
    | none => rw [ex] at e; cases e
    | some x =>
      cases ey : ys[i]? with
      | none => rw [ex, ey] at e; cases e
      | some y =>
        rw [ex, ey] at e
        cases e
        obtain ⟨v, e1, q1⟩ := rr1.get ex
        obtain ⟨w, e2, q2⟩ := rr2.get ey
        refine ⟨⟨vs, ws, v, w, sq1, sq2, e1, e2⟩, fun u H2 z => ?_⟩
        obtain ⟨T, v', w', rfl, nT, rfl, f1, f2⟩ := z
        have g1 := f1 vs sq1
        have g2 := f2 ws sq2
        rw [e1] at g1; rw [e2] at g2; cases g1; cases g2
        exact ⟨EL.new nT, C.new nT, .tup (.inl (.inl upd_same)) (.cons (q1.later (later_new nT)) (.cons (q2.later (later_new nT)) .nil))⟩
theorem wk_zipT {K : PySem.W.Frag} {O : Addr → Prop} {γ : List Addr} {H : Hp} {a b : Addr} {xs ys : List PV} {vs ws : List V} (s1 : SqT K H a vs) (r1 : Reps K O γ H xs vs) (s2 : SqT K H b ws) (r2 : Reps K O γ H ys ws) : Wk K (RZ.ItzT K a b) (zipP xs ys) O γ H := by
  intro O' γ' H' h' L C
  have sq1 := SqT.later L.nl s1
  have sq2 := SqT.later L.nl s2
  have rr1 := r1.later L
  have rr2 := r2.later L
  refine ⟨fun i hi => ⟨vs, ws, sq1, sq2, ?_⟩, fun i p e => ?_⟩
  · rw [zipP, List.length_zipWith] at hi
    rw [← r1.length, ← r2.length]; omega
  · unfold zipP at e
    rw [List.getElem?_zipWith] at e
    cases ex : xs[i]? with
    | none => rw [ex] at e; cases e
    | some x =>
      cases ey : ys[i]? with
      | none => rw [ex, ey] at e; cases e
      | some y =>
        rw [ex, ey] at e
        cases e
        obtain ⟨v, e1, q1⟩ := rr1.get ex
        obtain ⟨w, e2, q2⟩ := rr2.get ey
        refine ⟨⟨vs, ws, v, w, sq1, sq2, e1, e2⟩, fun u H2 z => ?_⟩
        obtain ⟨T, v', w', rfl, nT, rfl, f1, f2⟩ := z
        have g1 := f1 vs sq1
        have g2 := f2 ws sq2
        rw [e1] at g1; rw [e2] at g2; cases g1; cases g2
        exact ⟨EL.new nT, C.new nT, .tup (.inl (.inl upd_same)) (.cons (q1.later (later_new nT)) (.cons (q2.later (later_new nT)) .nil))⟩
theorem wk_enum {K : PySem.W.Frag} {O : Addr → Prop} {γ : List Addr} {H : Hp} {a : Addr} {xs : List PV} {vs : List V} (s1 : StL K a vs O γ H) (r1 : Reps K O γ H xs vs) : Wk K (Ite K a) (enumP xs) O γ H := by
  intro O' γ' H' h' L C
  have sq1 := s1 O' γ' H' h' L C
  have rr1 := r1.later L
  refine ⟨fun i hi => ⟨vs, sq1, ?_⟩, fun i p e => ?_⟩
  · rw [enumP, List.length_zipWith, List.length_range] at hi
    rw [← r1.length]; omega
  · unfold enumP at e
    rw [List.getElem?_zipWith] at e
    cases ex : xs[i]? with
    | none =>
      rw [ex] at e
      cases er : (List.range xs.length)[i]? <;> rw [er] at e <;> cases e
    | some x =>
      have hi := (List.getElem?_eq_some_iff.mp ex).1
      rw [ex, List.getElem?_range hi] at e
      cases e
      obtain ⟨v, e1, q1⟩ := rr1.get ex
      refine ⟨⟨vs, v, sq1, e1⟩, fun u H2 z => ?_⟩
      obtain ⟨T, v', rfl, nT, rfl, f1⟩ := z
      have g1 := f1 vs sq1
      rw [e1] at g1; cases g1
      exact ⟨EL.new nT, C.new nT, .tup (.inl (.inl upd_same)) (.cons (.int _) (.cons (q1.later (later_new nT)) .nil))⟩
/-! ### enumerate of a tuple -/
section
variable {prog : Program} {w : World}
abbrev tupItO (t : Addr) : Obj := { cls := .type "tuple_iterator", data := .fields #[.ref t, .int 0 0] }
abbrev enuO (it : Addr) : Obj := { cls := .type "enumerate", data := .fields #[.none, .bool false, .ref it, rawInt 0, .none, .none] }
theorem enumT_new (t : Addr) (its : Array Value) :
    Meets (Builtin.«enumerate.__new__» ⟨[.type "enumerate", .ref t], []⟩)
      (fun _ R s => s.heap.IsTuple t its ∧ R (.ok (.ret (.ref (s.heap.push (tupItO t)).objs.size))) { s with heap := (s.heap.push (tupItO t)).push (enuO s.heap.objs.size) }) :=
  .of_wp fun prog w A R s hh => by
    obtain ⟨hp, g, d, tk, os⟩ := s
    obtain ⟨ht, hr⟩ := hh
    have hsub := sub_enumerate
    have go : ∀ {B : Around} {E : Value → Shared → Prop} {Q : Value → Shared → Prop}, Q (.ref hp.objs.size) ⟨hp.push (tupItO t), g, d, tk, os⟩ → wpAny (model prog w) B (pyIter (.ref t)) Q E ⟨hp, g, d, tk, os⟩ := fun q => PySem.wpAny_pyIter_tuple (s := ⟨hp, g, d, tk, os⟩) ht q
    wp_walk using go
    refine wpAny_stack_any fun k => wpAny_pure ?_
    split
    · rename_i c _ _ _ _ _
      cases (c == Value.type "enumerate") <;> (wp_walk using go; exact ⟨_, rfl, hr⟩)
    · wp_walk using go; exact ⟨_, rfl, hr⟩
theorem call_enumT {A : Around} {E : Value → Shared → Prop} {s : Shared} {t : Addr} {its : Array Value} {Q : Value → Shared → Prop} (ht : s.heap.IsTuple t its)
    (q : ∀ h', IsEnum h' (s.heap.objs.size + 1) s.heap.objs.size 0 .none → h'.IsTupleIter s.heap.objs.size t 0 → (∀ b o, s.heap.get? b = some o → h'.get? b = some o) → Q (.ref (s.heap.objs.size + 1)) { s with heap := h' }) :
    wpAny (model prog w) A (call (.type "enumerate") [.ref t]) Q E s := by
  refine callType_new (F.called_enumerate) (by decide) (F.typeCall_enumerate_1 _) (F.newCall_enumerate_1 _) (fun o => F.args_object_init_2 o _) F.entry_enumerate_new (enumT_new t its) ⟨ht, ?_⟩
  have sz : (s.heap.push (tupItO t)).objs.size = s.heap.objs.size + 1 := Heap.size_push ..
  have e1 : ((s.heap.push (tupItO t)).push (enuO s.heap.objs.size)).get? (s.heap.objs.size + 1) = some (enuO s.heap.objs.size) := by
    rw [← sz]; exact Heap.get?_push_size _ rfl
  have e2 : ((s.heap.push (tupItO t)).push (enuO s.heap.objs.size)).get? s.heap.objs.size = some (tupItO t) := Heap.get?_push_of_some _ (Heap.get?_push_size _ rfl)
  have fin := q _ e1 ⟨_, e2, rfl, rfl⟩ (fun b o x => Heap.get?_push_of_some _ (Heap.get?_push_of_some _ x))
  show _ ∧ _
  rw [sz]
  exact ⟨⟨_, e1, rfl⟩, fin⟩
end
/-- the tuple at a, each item in a new pair -/
def IteT (K : PySem.W.Frag) (a : Addr) : It :=
  ⟨fun i H => ∃ (vs : List V) (v : V), SqT K H a vs ∧ vs[i]? = some v,
   fun i H p H' => ∃ T v, p = .ref T ∧ H T = none ∧ H' = upd H T (.tup [.int (i : Nat), v]) ∧ (∀ vs, SqT K H a vs → vs[i]? = some v),
   fun i H => ∃ vs : List V, SqT K H a vs ∧ vs.length ≤ i⟩
theorem turn_enumT {P : Program} {w : World} {K : PySem.W.Frag} {elts : List Expr} {kk : Nat} {tpos : Pos} (a e it : Addr) :
    Turn P w K (.Tuple elts kk tpos) (IteT K a) [e, it] e (fun i h => (∃ old, IsEnum h e it ((i : Nat) : Int) old) ∧ h.IsTupleIter it a i ∧ e ≠ it ∧ a ≠ it ∧ a ≠ e) where
  mem := by simp
  obj := by
    rintro i h ⟨⟨old, he⟩, ⟨o, ho, hc, hd⟩, _⟩ b hb
    rcases (show b = e ∨ b = it by simpa using hb) with rfl | rfl
    · exact ⟨_, he, fun v q => nomatch q⟩
    · exact ⟨o, ho, fun v q => by rw [hd] at q; cases q⟩
  keep := by
    rintro i h h' ⟨⟨old, he⟩, hi, n1, n2⟩ k
    exact ⟨⟨old, k e (by simp) _ he⟩, hi.at fun o q => k it (by simp) o q, n1, n2⟩
  item := by
    rintro X rfl rfl rfl hC i pins s σ H E I hf ⟨⟨old, he⟩, hit, n1, n2, n3⟩ ⟨vs, v, hq, hv⟩
    obtain ⟨its, rv, tp, _⟩ := I.tuple hq
    obtain ⟨u, hu, ru⟩ := rv.get hv
    have ll := rv.length
    have lt : i < its.toArray.size := by
      have := (List.getElem?_eq_some_iff.mp hv).1
      simp; omega
    have el : e < s.heap.objs.size := Heap.lt_size he
    have il : it < s.heap.objs.size := let ⟨_, q, _⟩ := hit; Heap.lt_size q
    refine wpAny_pyNext_enum_itemD (Draws.tuple (A := X.A.in1) (I.ok.hd hC) it a n2 its.toArray) he ⟨hit, tp⟩ lt n1 (by simp [n1, n3.symm]) fun x h' tk px ho st hT hz hk => ?_
    have ex : x = u := by
      have px : its.toArray[i]? = some x := px
      have hu : its.toArray[i]? = some u := by simpa using hu
      rw [hu] at px; exact (Option.some.inj px).symm
    subst ex
    refine ⟨_, rfl, wpAny_letOwnedTupleGo_enum (s := { s with heap := h', toks := tk + 1 }) ho fun h2 he2 sb => ?_⟩
    have gT : h2.get? s.heap.objs.size = some { cls := .type "tuple", data := .seq #[.int i tk, x] } := (sb.2 _ (Nat.ne_of_gt el)).trans hT
    have nw : ObjOk X.prog X.w (upd H s.heap.objs.size (.tup [.int (i : Nat), v])) h2 s.heap.objs.size (.tup [.int (i : Nat), v]) :=
      ⟨by show 2 ≤ sizeLine; decide, [.int i tk, x], .cons ⟨_, rfl⟩ (.cons ru .nil), _, gT, rfl, _, rfl⟩
    have J : Inv X pins σ (upd H s.heap.objs.size (.tup [.int (i : Nat), v])) { s with heap := h2, toks := tk + 1 } := by
      refine I.turnedNew (ch := [e, it]) (fun b o hb q => ?_) hf (Nat.le_refl _) nw
      have b1 : b ≠ e := fun z => hb (by simp [z])
      have b2 : b ≠ it := fun z => hb (by simp [z])
      exact (sb.2 b b1).trans (hk b o b1 b2 q)
    refine ⟨.ref s.heap.objs.size, _, J, rfl, ⟨_, v, rfl, I.hok.fresh (Nat.le_refl _), rfl, fun ws hw => by rw [I.tuple_inj hw hq]; exact hv⟩, ⟨⟨x, ?_⟩, st.1.at fun o q => (sb.2 it n1.symm).trans q, n1, n2, n3⟩, fun b hb => ?_⟩
    · rw [show ((i + 1 : Nat) : Int) = (i : Int) + 1 by omega]; exact he2
    · have lb : b < s.heap.objs.size := by
        rcases (show b = e ∨ b = it by simpa using hb) with rfl | rfl
        · exact el
        · exact il
      rw [upd_ne (Nat.ne_of_lt lb)]
      exact (hf b hb).1
  done := by
    rintro X rfl rfl rfl hC i pins s σ H E I hf ⟨⟨old, he⟩, hit, n1, n2, n3⟩ ⟨vs, hq, hv⟩
    obtain ⟨its, rv, tp, _⟩ := I.tuple hq
    have ll := rv.length
    obtain ⟨f0, f1, f2, f3, f4, f5⟩ := hf it (by simp)
    have ty : s.TypeIs (.ref e) "enumerate" := ⟨_, he, rfl⟩
    have nn : its.toArray[i]? = none := by simp; omega
    unfold pyNext
    refine wpAny_bind (wpAny_attempt (wpAny_callSpecial?_slot (name := Str.ofString "__next__") ty F.slot_enumerate_next (wpAny_call_entry F.slot_enumerate_next ty F.entry_enumerate_next ?_ (F.args_enumerate_next_1 _))))
    show wpAny _ _ (field (.ref e) 2 >>= _) _ _ s
    refine wpAny_bind (wpAny_field he rfl (x := .ref it) rfl (wpAny_bind (PySem.wpAny_nextOf_tuple_end (I.ok.hd hC) hit tp nn fun h2 x hx ⟨ox, hox, hcx⟩ => ?_)))
    refine wpAny_bind (wpAny_isInstance (T := "StopIteration") (b := true) ⟨ox, hox, hcx⟩ isSubtype_stop (wpAny_pure ⟨rfl, ?_⟩))
    exact I.turned (t' := s.toks) (fun b o hb q => hx b o hb q) f0 f1 f3 f4 f5
  self := by
    rintro A i s Q E ⟨⟨old, he⟩, _⟩ q
    exact wpAny_pyIter_enum he q
def iEnumA (K : PySem.W.Frag) (ta : TA) : TI := fun σ H R => ta σ H fun vs H1 => ∃ a, vs = [.ref a] ∧ ((∃ xs, SqL K H1 a xs ∧ R (Ite K a) H1) ∨ (∃ xs, SqT K H1 a xs ∧ R (IteT K a) H1))
theorem pi_enumA {X : Cx} {x : Expr} {ta : TA} {p pos tpos : Pos} {elts : List Expr} {kk : Nat} (hg : Gl X "enumerate") (hm : X.mg "enumerate" = none) (pa : PA X [x] ta)
    (hs : starEach [x] X.env = [(false, eval x X.env)] := by rfl) : PI X (.Tuple elts kk tpos) (.Call (.Name "enumerate" p) [x] [] pos) (iEnumA X.K ta) := by
  refine ⟨fun pins s σ H R I hh => ?_⟩
  refine Call_ (ld_blt I hg hm boot_enumerate (PyProof.Rows.callWith_type1 (thn (pa.run pos pins s σ H _ I hh) fun us s1 ⟨vs, H1, I1, r1, a, ev, q⟩ => ?_) hs rfl))
  subst ev
  obtain _ | ⟨r, rr⟩ := r1
  cases rr
  cases r
  have fresh : ∀ b ∈ [s1.heap.objs.size + 1, s1.heap.objs.size], FpOk X pins H1 b := fun b hb => by
    have le : s1.heap.objs.size ≤ b := by
      rcases (show b = s1.heap.objs.size + 1 ∨ b = s1.heap.objs.size by simpa using hb) with z | z <;> rw [z]
      · exact Nat.le_succ _
      · exact Nat.le_refl _
    exact I1.fpOk le (I1.hok.fresh le)
  rcases q with ⟨xs, hq, q⟩ | ⟨xs, hq, q⟩
  · obtain ⟨its, _, p1, _⟩ := I1.list hq
    refine call_enumerate_list p1.isList fun h2 e1 e2 _ hk => wpAny_pyIter_enum e1 ?_
    exact ⟨_, _, _, _, H1, rfl, I1.kept (t' := s1.toks) hk, turn_enum a _ _, ⟨⟨_, e1⟩, e2, Nat.succ_ne_self _⟩, fresh, q⟩
  · obtain ⟨its, _, p1, _⟩ := I1.tuple hq
    obtain ⟨o, ho, _⟩ := id p1
    have al := Heap.lt_size ho
    refine call_enumT (t := a) (its := its.toArray) p1 fun h2 e1 e2 hk => wpAny_pyIter_enum e1 ?_
    exact ⟨_, _, _, _, H1, rfl, I1.kept (t' := s1.toks) hk, turn_enumT a _ _, ⟨⟨_, e1⟩, e2, Nat.succ_ne_self _, Nat.ne_of_lt al, Nat.ne_of_lt (Nat.lt_succ_of_lt al)⟩, fresh, q⟩
theorem wk_enumT {K : PySem.W.Frag} {O : Addr → Prop} {γ : List Addr} {H : Hp} {a : Addr} {xs : List PV} {vs : List V} (s1 : SqT K H a vs) (r1 : Reps K O γ H xs vs) : Wk K (IteT K a) (enumP xs) O γ H := by
  intro O' γ' H' h' L C
  have sq := SqT.later L.nl s1
  have rr := r1.later L
  have ll := r1.length
  constructor
  · intro i hi
    rw [enumP, List.length_zipWith, List.length_range] at hi
    exact ⟨vs, sq, by omega⟩
  · intro i p e
    have hi : i < xs.length := by
      have := (List.getElem?_eq_some_iff.mp e).1
      rw [enumP, List.length_zipWith, List.length_range] at this
      omega
    have ex : xs[i]? = some xs[i] := List.getElem?_eq_getElem hi
    rw [enumP, List.getElem?_zipWith, ex, List.getElem?_range hi] at e
    cases e
    obtain ⟨v, e1, q1⟩ := rr.get ex
    refine ⟨⟨vs, v, sq, e1⟩, fun u H2 z => ?_⟩
    obtain ⟨T, v', rfl, nT, rfl, f1⟩ := z
    have g1 := f1 vs sq
    rw [e1] at g1; cases g1
    exact ⟨EL.new nT, C.new nT, .tup (.inl (.inl upd_same)) (.cons (.int _) (.cons (q1.later (later_new nT)) .nil))⟩
def enumO : PV → Option (List PV)
  | .tup xs => some (enumP xs)
  | x => (lstOf x).map enumP
def zipO : PV → PV → Option (List PV)
  | .tup a, .tup b => some (zipP a b)
  | .lst a, .lst b => some (zipP a b)
  | .lst a, .scr b => some (zipP a b)
  | .scr a, .lst b => some (zipP a b)
  | .scr a, .scr b => some (zipP a b)
  | _, _ => none
def zipM : List PV → M (List PV)
  | [x, y] => oM (zipO x y)
  | _ => M.stuck
def iZip (m : AX) : AX := fun ρ => m ρ >>= zipM
def enumM : List PV → M (List PV)
  | [x] => oM (enumO x)
  | _ => M.stuck
def iEnumX (m : AX) : AX := fun ρ => m ρ >>= enumM
theorem si_zip {X : Cx} {W : WX} {a b : Expr} {m : AX} {p pos tpos : Pos} {elts : List Expr} {kk : Nat} (hg : Gl X "zip") (hm : X.mg "zip" = none) (s : SA X W [a, b] m)
    (hs : starEach [a, b] X.env = (false, eval a X.env) :: starEach [b] X.env := by rfl) (hpl : (backTo pos (starEach [b] X.env)).any (·.1) = false := by rfl) : SI X W (.Tuple elts kk tpos) (.Call (.Name "zip" p) [a, b] [] pos) (iZip m) := by
  obtain ⟨t, pa, q⟩ := s.ex
  refine ⟨_, RZ.pi_zipA hg hm pa hs hpl, fun F γ ω ρ h σ H R ER0 C p => ?_⟩
  unfold iZip at p
  rw [post_bind] at p
  refine q F γ ω ρ h σ H _ ER0 C (post_mono p (fun xs h1 p1 γ1 H1 vs L1 C1 r1 => ?_) (fun _ _ z => z))
  match xs, r1, p1 with
  | [], _, p1 => exact p1.elim
  | [_], _, p1 => exact p1.elim
  | _ :: _ :: _ :: _, _, p1 => exact p1.elim
  | [x, y], r1, p1 =>
    obtain ⟨v, w, rfl, rx, ry⟩ := r1.twoR
    have p1 : post (oM (zipO x y) h1) (fun xs h' => ∀ γ' H' J, EL γ H γ' H' → Cells X.K γ' H' h' → Wk X.K J xs (Ob F γ' ω) γ' H' → R J H') (OutX X.K W X.mg γ H σ) := p1
    obtain ⟨zs, e, o⟩ := oM_post p1
    have go : ∀ as bs, lstOf x = some as → lstOf y = some bs → zs = zipP as bs → ∃ a b xs ys, [v, w] = [V.ref a, V.ref b] ∧ ((SqL X.K H1 a xs ∧ SqL X.K H1 b ys ∧ R (Itz X.K a b) H1) ∨ (SqT X.K H1 a xs ∧ SqT X.K H1 b ys ∧ R (RZ.ItzT X.K a b) H1)) := fun as bs ex ey ez => by
      obtain ⟨a, vs, rfl, s1, t1, g1⟩ := rx.stL ex
      obtain ⟨b, ws, rfl, s2, t2, g2⟩ := ry.stL ey
      subst ez
      exact ⟨a, b, vs, ws, rfl, .inl ⟨s1, s2, o γ1 H1 _ L1 C1 (wk_zip t1 g1 t2 g2)⟩⟩
    cases x <;> first | (cases e; done) | skip
    · cases y <;> first | (cases e; done) | skip
      cases e
      cases rx with
      | tup s1 g1 =>
        cases ry with
        | tup s2 g2 => exact ⟨_, _, _, _, rfl, .inr ⟨s1, s2, o γ1 H1 _ L1 C1 (wk_zipT s1 g1 s2 g2)⟩⟩
    · cases y <;> first | (cases e; done) | (cases e; exact go _ _ rfl rfl rfl)
    · cases y <;> first | (cases e; done) | (cases e; exact go _ _ rfl rfl rfl)
theorem si_enum {X : Cx} {W : WX} {a : Expr} {m : AX} {p pos tpos : Pos} {elts : List Expr} {kk : Nat} (hg : Gl X "enumerate") (hm : X.mg "enumerate" = none) (s : SA X W [a] m)
    (hs : starEach [a] X.env = [(false, eval a X.env)] := by rfl) : SI X W (.Tuple elts kk tpos) (.Call (.Name "enumerate" p) [a] [] pos) (iEnumX m) := by
  obtain ⟨t, pa, q⟩ := s.ex
  refine ⟨_, pi_enumA hg hm pa hs, fun F γ ω ρ h σ H R ER0 C p => ?_⟩
  unfold iEnumX at p
  rw [post_bind] at p
  refine q F γ ω ρ h σ H _ ER0 C (post_mono p (fun xs h1 p1 γ1 H1 vs L1 C1 r1 => ?_) (fun _ _ z => z))
  match xs, r1, p1 with
  | [], _, p1 => exact p1.elim
  | _ :: _ :: _, _, p1 => exact p1.elim
  | [x], r1, p1 =>
    obtain ⟨v, rfl, rx⟩ := r1.one
    have p1 : post (oM (enumO x) h1) (fun xs h' => ∀ γ' H' J, EL γ H γ' H' → Cells X.K γ' H' h' → Wk X.K J xs (Ob F γ' ω) γ' H' → R J H') (OutX X.K W X.mg γ H σ) := p1
    obtain ⟨zs, e, o⟩ := oM_post p1
    cases x <;> first | (cases e; done) | skip
    · cases e
      cases rx with
      | tup s1 g1 => exact ⟨_, rfl, .inr ⟨_, s1, o γ1 H1 _ L1 C1 (wk_enumT s1 g1)⟩⟩
    all_goals
      cases e
      obtain ⟨a, vs, rfl, s1, t1, r1⟩ := rx.stL rfl
      exact ⟨a, rfl, .inl ⟨vs, s1, o γ1 H1 _ L1 C1 (wk_enum t1 r1)⟩⟩
/-! ### xs[::-1] -/
def revO : PV → Option (List PV) := fun x => (lstOf x).map List.reverse
def oRev (m : EX) : AX := fun ρ => m ρ >>= fun x => oM (revO x)
theorem so_rev {X : Cx} {W : WX} {e : Expr} {m : EX} {k : Nat} {p1 p2 p3 pos : Pos} (s : SE X W e m) : SO X W (.Subscript e (.Slice none none (some (.UnaryOp .USub (.Constant (.int 1) k p1) p2)) p3) pos) (oRev m) := by
  obtain ⟨t, p, q⟩ := s.ex
  refine ⟨_, pe_revL p, fun F γ ω ρ h σ H Q R C p => ?_⟩
  unfold oRev at p
  rw [post_bind] at p
  refine q F γ ω ρ h σ H _ R C (post_mono p (fun x h1 p1 γ1 H1 v L1 C1 r1 => ?_) (fun _ _ z => z))
  obtain ⟨zs, e, o⟩ := oM_post p1
  unfold revO at e
  cases el : lstOf x with
  | none => rw [el] at e; cases e
  | some as =>
    rw [el] at e
    cases e
    obtain ⟨a, vs, rfl, s1, t1, r1⟩ := r1.stL el
    exact ⟨a, vs, rfl, s1, fun p np => (OutO.el L1 o).now C1 r1.reverse p np⟩
theorem room65 {k : Nat} {A : Around} (r : Room k A) : A.units + 65 < cLine := by have := r.un; omega
/-! ### x in a list of data, an int in a tuple of ints -/
def inB (x : PV) (ys : List PV) : Bool := ys.any fun z => eqb z x
theorem inB_toDs (x : PV) : ∀ ys : List PV, ((toDs ys).any fun z => PyData.eqv z x.toD) = inB x ys
  | [] => rfl
  | y :: ys => by
    show (PyData.eqv y.toD x.toD || (toDs ys).any fun z => PyData.eqv z x.toD) = _
    rw [inB_toDs x ys]; rfl
noncomputable def pInG (f : Bool → Bool) (x : PV) : PV → M PV
  | .lst ys => guardM (CmpOk x ∧ CmpOk (.lst ys)) (pure (.bl (f (inB x ys))))
  | .scr ys => guardM (CmpOk x ∧ CmpOk (.scr ys)) (pure (.bl (f (inB x ys))))
  | .tup ys => match x with
    | .int i => oM ((intsOf ys).map fun ns => .bl (f (ns.any fun z => z == i)))
    | _ => M.stuck
  | _ => M.stuck
noncomputable abbrev pIn := pInG fun b => b
noncomputable abbrev pNotIn := pInG fun b => !b
theorem nox_in {f : Bool → Bool} : NoX2 (pInG f) := fun x y h => by
  unfold pInG
  split
  · exact guard_nox pure_nox
  · exact guard_nox pure_nox
  · split
    · exact oM_nox
    · exact stuck_nox
  · exact stuck_nox
def rInX (K : PySem.W.Frag) : R2 := fun x y H Q => rInD K x y H Q ∨ rIn K false x y H Q
def rNotInX (K : PySem.W.Frag) : R2 := fun x y H Q => rNotInD K x y H Q ∨ rIn K true x y H Q
theorem op_inX {X : Cx} (hu : X.A.units + 65 < cLine) : OpR X (compareOp .In) (rInX X.K) := (op_inD hu).or op_in_seq
theorem op_notInX {X : Cx} (hu : X.A.units + 65 < cLine) : OpR X (compareOp .NotIn) (rNotInX X.K) := (op_notInD hu).or op_notIn_seq
theorem inV_ints (i : Int) : ∀ ns : List Int, inV (.int i) (ns.map V.int) = ns.any fun z => z == i
  | [] => rfl
  | n :: ns => by
    show (eqV (.int n) (.int i) || inV (.int i) (ns.map V.int)) = _
    rw [inV_ints i ns]; rfl
theorem flat_ints : ∀ ns : List Int, (ns.map V.int).all flatV = true
  | [] => rfl
  | _ :: ns => by show (true && (ns.map V.int).all flatV) = true; rw [flat_ints ns]; rfl
theorem s_in {K : PySem.W.Frag} : OpS K (rInX K) pIn := by
  intro F γ ω h H x y v w Q C B rx ry p
  cases y <;> first | exact p.elim | skip
  · rename_i ys
    cases x <;> first | exact p.elim | skip
    rename_i i
    obtain ⟨z, e, p⟩ := oM_post p
    cases e2 : intsOf ys with
    | none => rw [e2] at e; cases e
    | some ns =>
      rw [e2] at e; cases e
      cases rx
      cases ry with
      | tup s r =>
        rw [intsOf_eq e2] at r
        have := r.ints
        subst this
        exact .inr ⟨_, _, rfl, .inr s, rfl, flat_ints ns, by rw [if_neg (by decide), inV_ints]; exact OutV.now p C (.bl _)⟩
  · rename_i ys
    obtain ⟨⟨c1, c2⟩, p⟩ := guard_post (show post (guardM (CmpOk x ∧ CmpOk (.lst ys)) (pure (.bl (inB x ys))) h) _ _ from p)
    have d2 := ry.dp c2.1
    have h2 := c2.2
    simp only [PV.toD] at d2 h2
    exact .inl ⟨_, _, rx.dp c1.1, d2, c1.2, h2, by rw [inB_toDs]; exact OutV.now p C (.bl _)⟩
  · rename_i ys
    obtain ⟨⟨c1, c2⟩, p⟩ := guard_post (show post (guardM (CmpOk x ∧ CmpOk (.scr ys)) (pure (.bl (inB x ys))) h) _ _ from p)
    have d2 := ry.dp c2.1
    have h2 := c2.2
    simp only [PV.toD] at d2 h2
    exact .inl ⟨_, _, rx.dp c1.1, d2, c1.2, h2, by rw [inB_toDs]; exact OutV.now p C (.bl _)⟩
theorem s_notIn {K : PySem.W.Frag} : OpS K (rNotInX K) pNotIn := by
  intro F γ ω h H x y v w Q C B rx ry p
  cases y <;> first | exact p.elim | skip
  · rename_i ys
    cases x <;> first | exact p.elim | skip
    rename_i i
    obtain ⟨z, e, p⟩ := oM_post p
    cases e2 : intsOf ys with
    | none => rw [e2] at e; cases e
    | some ns =>
      rw [e2] at e; cases e
      cases rx
      cases ry with
      | tup s r =>
        rw [intsOf_eq e2] at r
        have := r.ints
        subst this
        exact .inr ⟨_, _, rfl, .inr s, rfl, flat_ints ns, by rw [if_pos rfl, inV_ints]; exact OutV.now p C (.bl _)⟩
  · rename_i ys
    obtain ⟨⟨c1, c2⟩, p⟩ := guard_post (show post (guardM (CmpOk x ∧ CmpOk (.lst ys)) (pure (.bl (!inB x ys))) h) _ _ from p)
    have d2 := ry.dp c2.1
    have h2 := c2.2
    simp only [PV.toD] at d2 h2
    exact .inl ⟨_, _, rx.dp c1.1, d2, c1.2, h2, by rw [inB_toDs]; exact OutV.now p C (.bl _)⟩
  · rename_i ys
    obtain ⟨⟨c1, c2⟩, p⟩ := guard_post (show post (guardM (CmpOk x ∧ CmpOk (.scr ys)) (pure (.bl (!inB x ys))) h) _ _ from p)
    have d2 := ry.dp c2.1
    have h2 := c2.2
    simp only [PV.toD] at d2 h2
    exact .inl ⟨_, _, rx.dp c1.1, d2, c1.2, h2, by rw [inB_toDs]; exact OutV.now p C (.bl _)⟩
theorem for_four {b : PV → SX} {Q : PQ Fl} {xs : List PV} {ρ : En} {h : Hc} (j1 j2 j3 j4 : Nat) (I : Hc → Prop) (h0 : I h)
    (hs : ∀ x ∈ xs, ∀ v1 v2 v3 v4 h, I h → wp (b x ((((ρ.set j1 v1).set j2 v2).set j3 v3).set j4 v4)) h (LQ (fun ρ' h' => (∃ v1 v2 v3 v4, ρ' = (((ρ.set j1 v1).set j2 v2).set j3 v3).set j4 v4) ∧ I h') Q)) (he : ∀ v1 v2 v3 v4 h, I h → Q (.nx ((((ρ.set j1 v1).set j2 v2).set j3 v3).set j4 v4)) h) : wp (forL b xs ρ) h Q := by
  refine for_inv xs (fun _ _ ρ' h' => (∃ v1 v2 v3 v4, ρ' = (((ρ.set j1 v1).set j2 v2).set j3 v3).set j4 v4) ∧ I h') ⟨?_, h0⟩ (fun pre x post ρ' h' e i => ?_) (fun ρ' h' i => ?_)
  · obtain ⟨v1, e1⟩ := set_id (ρ := ρ) j1
    obtain ⟨v2, e2⟩ := set_id (ρ := ρ) j2
    obtain ⟨v3, e3⟩ := set_id (ρ := ρ) j3
    obtain ⟨v4, e4⟩ := set_id (ρ := ρ) j4
    exact ⟨v1, v2, v3, v4, by rw [← e1, ← e2, ← e3]; exact e4⟩
  · obtain ⟨⟨v1, v2, v3, v4, rfl⟩, i⟩ := i
    exact hs x (by rw [e]; simp) v1 v2 v3 v4 h' i
  · obtain ⟨⟨v1, v2, v3, v4, rfl⟩, i⟩ := i
    exact he v1 v2 v3 v4 h' i
theorem cut_le {xs : List PV} {a b : Option Int} : (cutP xs a b).length ≤ xs.length := by
  unfold cutP
  rw [List.length_take, List.length_drop]; omega
theorem cmpok_nilT : CmpOk (.tup []) := (cd_tup (n := 0) (by simp)).ok (by decide)
theorem w_cmpok_nilT : CmpOk (.tup []) = True := eq_true cmpok_nilT
/-! ### steps -/
def isOwB (ρ : En) (i : Nat) : Bool := match ρ[i]? with
  | some (.ow _) => true
  | _ => false
theorem w_ib0 {xs : List PV} {ρ : En} : isOwB (.ow xs :: ρ) 0 = true := rfl
theorem w_ib1 {p : PV} {ρ : En} : isOwB (.va p :: ρ) 0 = false := rfl
theorem w_ibS {i : Nat} {sl : Sl} {ρ : En} : isOwB (sl :: ρ) (i + 1) = isOwB ρ i := rfl
def KBq (b : Bool) (Q : PQ PV) : PQ PV := fun v h => if b = true then v.flat = true ∧ Q v h else Q v h
def KBqO (b : Bool) (Q : PQ (List PV)) : PQ (List PV) := fun v h => if b = true then flats v = true ∧ Q v h else Q v h
theorem w_KBq {b : Bool} {Q : PQ PV} {v : PV} {h : Hc} : KBq b Q v h = if b = true then v.flat = true ∧ Q v h else Q v h := rfl
theorem w_KBqO {b : Bool} {Q : PQ (List PV)} {v : List PV} {h : Hc} : KBqO b Q v h = if b = true then flats v = true ∧ Q v h else Q v h := rfl
theorem w_tBorF {i : Nat} {p : TX} {ρ : En} {h : Hc} {Q : PQ Bool} : wp (tBor i p ρ) h Q = wp (p (frz i ρ)) h Q := by
  unfold tBor frz
  generalize ρ[i]? = o
  rcases o with _ | sl
  · rfl
  · cases sl <;> rfl
theorem w_eBorF {i : Nat} {a : EX} {ρ : En} {h : Hc} {Q : PQ PV} : wp (eBor i a ρ) h Q = wp (a (frz i ρ)) h (KBq (isOwB ρ i) Q) := by
  cases e : ρ[i]? with
  | none => unfold eBor frz isOwB; rw [e]; rfl
  | some sl =>
    cases sl with
    | ow xs => rw [w_eBor e]; unfold frz isOwB; rw [e]; rfl
    | no => unfold eBor frz isOwB; rw [e]; rfl
    | va p => unfold eBor frz isOwB; rw [e]; rfl
theorem w_oBorF {i : Nat} {a : AX} {ρ : En} {h : Hc} {Q : PQ (List PV)} : wp (oBor i a ρ) h Q = wp (a (frz i ρ)) h (KBqO (isOwB ρ i) Q) := by
  cases e : ρ[i]? with
  | none => unfold oBor frz isOwB; rw [e]; rfl
  | some sl =>
    cases sl with
    | ow xs => rw [w_oBor e]; unfold frz isOwB; rw [e]; rfl
    | no => unfold oBor frz isOwB; rw [e]; rfl
    | va p => unfold oBor frz isOwB; rw [e]; rfl
theorem w_flatI {i : Int} : (PV.int i).flat = true := rfl
theorem w_flatB {i : Bool} : (PV.bl i).flat = true := rfl
theorem w_flatN : PV.non.flat = true := rfl
theorem frz_succ {i : Nat} {sl : Sl} {ρ : En} : frz (i + 1) (sl :: ρ) = sl :: frz i ρ := by
  unfold frz
  show (match ρ[i]? with | some (.ow xs) => _ | _ => _) = _
  generalize ρ[i]? = o
  rcases o with _ | sl2
  · rfl
  · cases sl2 <;> rfl
theorem w_frz0 {xs : List PV} {ρ : En} : frz 0 (.ow xs :: ρ) = .va (.lst xs) :: ρ := rfl
theorem w_frz1 {p : PV} {ρ : En} : frz 0 (.va p :: ρ) = .va p :: ρ := rfl
theorem w_frzS {i : Nat} {sl : Sl} {ρ : En} : frz (i + 1) (sl :: ρ) = sl :: frz i ρ := frz_succ
section
variable {ρ : En} {h : Hc} {r : AX} {a : EX} {QL : PQ (List PV)} {Q : PQ PV}
theorem w_zip : wp (iZip r ρ) h QL = wp (r ρ) h (KRg zipM QL) := by unfold iZip; rw [wp_bind]; rfl
theorem w_enum : wp (iEnumX r ρ) h QL = wp (r ρ) h (KRg enumM QL) := by unfold iEnumX; rw [wp_bind]; rfl
theorem w_zTT {xs ys : List PV} : KRg zipM QL [.tup xs, .tup ys] h = QL (zipP xs ys) h := rfl
theorem w_zLL {xs ys : List PV} : KRg zipM QL [.lst xs, .lst ys] h = QL (zipP xs ys) h := rfl
theorem w_enL {xs : List PV} : KRg enumM QL [.lst xs] h = QL (enumP xs) h := rfl
theorem w_enT {xs : List PV} : KRg enumM QL [.tup xs] h = QL (enumP xs) h := rfl
theorem w_enS {xs : List PV} : KRg enumM QL [.scr xs] h = QL (enumP xs) h := rfl
theorem w_rev : wp (oRev a ρ) h QL = wp (a ρ) h (KSq (α := PV) QL revO) := by unfold oRev; rw [wp_bind]; rfl
theorem w_revL {xs : List PV} : KSq (α := PV) QL revO (.lst xs) h = QL xs.reverse h := rfl
theorem w_revS {xs : List PV} : KSq (α := PV) QL revO (.scr xs) h = QL xs.reverse h := rfl
theorem w_inL {f : Bool → Bool} {x : PV} {ys : List PV} : wp (pInG f x (.lst ys)) h Q = ((CmpOk x ∧ CmpOk (.lst ys)) ∧ Q (.bl (f (inB x ys))) h) := wp_guard
theorem w_inT {f : Bool → Bool} {i : Int} {ys : List PV} : wp (pInG f (.int i) (.tup ys)) h Q = wp (oM ((intsOf ys).map fun ns => .bl (f (ns.any fun z => z == i)))) h Q := rfl
end
/-! ### list(range(..)), tuple(range(..)) -/
theorem rgV_ints (a b : Int) : rgV a b = (((List.range (b - a).toNat).map fun i : Nat => a + (i : Int)).map V.int) := by unfold rgV; rw [List.map_map]; rfl
theorem rangeP_ints (a : Int) (n : Nat) : rangeP a n = (((List.range n).map fun i : Nat => a + (i : Int)).map PV.int) := by unfold rangeP; rw [List.map_map]; rfl
theorem rg_reps {K : PySem.W.Frag} {O : Addr → Prop} {γ : List Addr} {H : Hp} {a b : Int} : Reps K O γ H (rangeP a (b - a).toNat) (rgV a b) := by
  rw [rangeP_ints, rgV_ints]; exact Reps.of_ints
open Classical in
noncomputable def rgM : PV → PV → M (List PV)
  | .int a, .int b => if RgOk a b then pure (rangeP a (b - a).toNat) else M.stuck
  | _, _ => M.stuck
noncomputable def oR2 (ma mb : EX) : AX := fun ρ => ma ρ >>= fun x => mb ρ >>= fun y => rgM x y
noncomputable def oR1 (ma : EX) : AX := fun ρ => ma ρ >>= fun x => rgM (.int 0) x
section
variable {X : Cx} {W : WX} {a b : Expr} {ma mb : EX} {p p2 pos pos2 : Pos}
theorem so_listR2 (hc : X.calm = true) (hg : Gl X "list") (hm : X.mg "list" = none) (hg2 : Gl X "range") (hm2 : X.mg "range" = none) (sa : SE X W a ma) (sb : SE X W b mb)
    (na2 : starEach [a, b] X.env = (false, eval a X.env) :: starEach [b] X.env := by rfl) (nb2 : starEach [b] X.env = (false, eval b X.env) :: starEach [] X.env := by rfl)
    (np2 : (backTo pos2 (starEach [b] X.env)).any (fun x => x.fst) = false := by rfl)
    (na : starEach [Expr.Call (.Name "range" p2) [a, b] [] pos2] X.env = (false, eval (Expr.Call (.Name "range" p2) [a, b] [] pos2) X.env) :: starEach [] X.env := by rfl) :
    SO X W (.Call (.Name "list" p) [.Call (.Name "range" p2) [a, b] [] pos2] [] pos) (oR2 ma mb) := by
  obtain ⟨ta, pa, qa⟩ := sa.ex
  obtain ⟨tb, pb, qb⟩ := sb.ex
  refine ⟨_, pe_listRg hc hg hm (prg_2 hg2 hm2 pa pb na2 nb2 np2) na, fun F γ ω ρ h σ H Q R C p => ?_⟩
  unfold oR2 at p
  rw [post_bind] at p
  refine qa F γ ω ρ h σ H _ R C (post_mono p (fun x h1 p1 γ1 H1 v L1 C1 r1 => ?_) (fun _ _ x => x))
  rw [post_bind] at p1
  refine qb F γ1 ω ρ h1 σ H1 _ (R.el L1) C1 (post_mono p1 (fun y h2 p2 γ2 H2 w L2 C2 r2 => ?_) (fun _ _ z => z.el L1))
  cases x <;> first | exact p2.elim | skip
  cases y <;> first | exact p2.elim | skip
  rename_i i j
  cases r1; cases r2
  have p2 : post ((@ite (M (List PV)) (RgOk i j) (Classical.propDecidable _) (pure (rangeP i (j - i).toNat)) M.stuck) h2) (OutO X.K F ω γ H Q) (OutX X.K W X.mg γ H σ) := p2
  by_cases hk : RgOk i j
  · rw [if_pos hk] at p2
    exact ⟨i, j, rfl, rfl, hk, fun q nq => (OutO.el (L1.trans L2) p2).now C2 rg_reps q nq⟩
  · rw [if_neg hk] at p2; exact p2.elim
end
/-! ### sorted(list of ints) -/
theorem perm_sorted_eq : ∀ (l1 l2 : List Int), l1.Perm l2 → l1.Pairwise (· ≤ ·) → l2.Pairwise (· ≤ ·) → l1 = l2
  | [], l2, p, _, _ => (List.Perm.nil_eq p)
  | x :: xs, [], p, _, _ => absurd p.length_eq (by simp)
  | x :: xs, y :: ys, p, h1, h2 => by
    have hx : x ∈ y :: ys := p.mem_iff.mp List.mem_cons_self
    have hy : y ∈ x :: xs := p.mem_iff.mpr List.mem_cons_self
    rw [List.pairwise_cons] at h1 h2
    have e : x = y := by
      rcases List.mem_cons.mp hx with e | e
      · exact e
      · rcases List.mem_cons.mp hy with f | f
        · exact f.symm
        · exact Int.le_antisymm (h1.1 y f) (h2.1 x e)
    subst e
    rw [perm_sorted_eq xs ys (List.Perm.cons_inv p) h1.2 h2.2]
def sortI (ns : List Int) : List Int := ns.mergeSort fun a b => decide (a ≤ b)
theorem sortI_perm (ns : List Int) : (sortI ns).Perm ns := List.mergeSort_perm ns _
theorem sortI_pw (ns : List Int) : (sortI ns).Pairwise (· ≤ ·) := by
  have := List.pairwise_mergeSort (le := fun a b : Int => decide (a ≤ b)) (fun a b c h1 h2 => by simp at *; omega) (fun a b => by simp; omega) ns
  exact this.imp fun h => by simpa using h
def oSort (m : EX) : AX := fun ρ => m ρ >>= fun x => oM ((lstOf x).bind fun xs => (intsOf xs).map fun ns => (sortI ns).map PV.int)
section
variable {X : Cx} {W : WX} {a : Expr} {m : EX} {p pos : Pos}
theorem so_sorted (hg : Gl X "sorted") (hm : X.mg "sorted" = none) (hv : bootBuiltins "sorted" = some (.builtin "sorted")) (s : SE X W a m)
    (he : starEach [a] X.env = (false, eval a X.env) :: starEach [] X.env := by rfl) (hpl : (backTo pos (starEach [] X.env)).any (·.1) = false := by rfl) : SO X W (.Call (.Name "sorted" p) [a] [] pos) (oSort m) := by
  obtain ⟨t, pe, q⟩ := s.ex
  refine ⟨_, pe_callB cr_sortedI hg hm hv (pa_cons pe pa_nil he) (by decide) (by decide) he hpl, fun F γ ω ρ h σ H Q R C p => ?_⟩
  unfold oSort at p
  rw [post_bind] at p
  refine q F γ ω ρ h σ H _ R C (post_mono p (fun x h1 p1 γ1 H1 v L1 C1 r1 => ?_) (fun _ _ x => x))
  obtain ⟨zs, e, o⟩ := oM_post p1
  cases el : lstOf x with
  | none => rw [el] at e; cases e
  | some xs =>
    rw [el] at e
    have e : ((intsOf xs).map fun ns => (sortI ns).map PV.int) = some zs := e
    cases ei : intsOf xs with
    | none => rw [ei] at e; cases e
    | some ns =>
      rw [ei] at e
      cases e
      obtain ⟨a, vs, rfl, s1, t1, g1⟩ := r1.stL el
      rw [intsOf_eq ei] at g1
      have := g1.ints
      subst this
      refine ⟨a, ns, rfl, s1, fun ns' q hp hs nq => ?_⟩
      have : ns' = sortI ns := perm_sorted_eq _ _ (hp.trans (sortI_perm ns).symm) hs (sortI_pw ns)
      subst this
      exact (OutO.el L1 o).now C1 Reps.of_ints q nq
end
/-! ### [x] * n, an own list -/
def RepOk (xs : List PV) (k : Int) : Prop := -(2 ^ 63) ≤ k ∧ k < 2 ^ 63 ∧ xs.length * k.toNat ≤ sizeLine
open Classical in
noncomputable def repM : PV → PV → M (List PV)
  | .lst xs, .int k => if RepOk xs k then pure (List.replicate k.toNat xs).flatten else M.stuck
  | _, _ => M.stuck
noncomputable def oRep (ma mb : EX) : AX := fun ρ => ma ρ >>= fun x => mb ρ >>= fun y => repM x y
theorem so_rep {X : Cx} {W : WX} {a b : Expr} {ma mb : EX} {pos : Pos} (sa : SE X W a ma) (sb : SE X W b mb) : SO X W (.BinOp a .Mult b pos) (oRep ma mb) := by
  obtain ⟨ta, pa, qa⟩ := sa.ex
  obtain ⟨tb, pb, qb⟩ := sb.ex
  refine ⟨_, pe_op op_rep pa pb, fun F γ ω ρ h σ H Q R C p => two (f := repM) qa qb R C p fun γ2 H2 h2 x y v w L2 R2 C2 r1 r2 p2 => ?_⟩
  cases x <;> first | exact p2.elim | skip
  cases y <;> first | exact p2.elim | skip
  rename_i xs k
  cases r2
  have p2 : post ((@ite (M (List PV)) (RepOk xs k) (Classical.propDecidable _) (pure (List.replicate k.toNat xs).flatten) M.stuck) h2) (OutO X.K F ω γ H Q) (OutX X.K W X.mg γ H σ) := p2
  by_cases hk : RepOk xs k
  · rw [if_pos hk] at p2
    obtain ⟨h1, h2', hl⟩ := hk
    cases r1 with
    | lst s1 o1 r1 => exact ⟨_, _, _, rfl, rfl, s1, h1, h2', by rw [← r1.length]; exact hl, fun q nq => (OutO.el L2 p2).now C2 (r1.rep _) q nq⟩
  · rw [if_neg hk] at p2; exact p2.elim
section
variable {ρ : En} {h : Hc} {a b : EX} {QL : PQ (List PV)}
def KRpA (b : EX) (ρ : En) (Q : PQ (List PV)) : PQ PV := fun x h => wp (b ρ) h (fun y h => wp (repM x y) h Q)
def KRpB (x : PV) (Q : PQ (List PV)) : PQ PV := fun y h => wp (repM x y) h Q
theorem w_oRep : wp (oRep a b ρ) h QL = wp (a ρ) h (KRpA b ρ QL) := by
  unfold oRep; rw [wp_bind]; congr 1; funext x h; rw [wp_bind]; rfl
theorem w_KRpA {x : PV} : KRpA b ρ QL x h = wp (b ρ) h (KRpB x QL) := rfl
theorem w_KRpB {xs : List PV} {k : Int} : KRpB (.lst xs) QL (.int k) h = (RepOk xs k ∧ QL (List.replicate k.toNat xs).flatten h) := w_and_ite (d := Classical.propDecidable _)
end
section
variable {ρ : En} {h : Hc} {a b : EX} {QL : PQ (List PV)}
def KRA (b : EX) (ρ : En) (Q : PQ (List PV)) : PQ PV := fun x h => wp (b ρ) h (fun y h => wp (rgM x y) h Q)
def KRB (x : PV) (Q : PQ (List PV)) : PQ PV := fun y h => wp (rgM x y) h Q
theorem w_oR2 : wp (oR2 a b ρ) h QL = wp (a ρ) h (KRA b ρ QL) := by
  unfold oR2; rw [wp_bind]; congr 1; funext x h; rw [wp_bind]; rfl
theorem w_KRA {x : PV} : KRA b ρ QL x h = wp (b ρ) h (KRB x QL) := rfl
theorem w_KRBx {i j : Int} : KRB (.int i) QL (.int j) h = (RgOk i j ∧ QL (rangeP i (j - i).toNat) h) := w_and_ite (d := Classical.propDecidable _)
def KSort (Q : PQ (List PV)) : PQ PV := fun x h => wp (oM ((lstOf x).bind fun xs => (intsOf xs).map fun ns => (sortI ns).map PV.int)) h Q
theorem w_sort : wp (oSort a ρ) h QL = wp (a ρ) h (KSort QL) := by unfold oSort; rw [wp_bind]; rfl
theorem w_KSort {ns : List Int} : KSort QL (.lst (ns.map PV.int)) h = QL ((sortI ns).map PV.int) h := by
  unfold KSort
  show wp (oM ((intsOf (ns.map PV.int)).map fun ns => (sortI ns).map PV.int)) h QL = _
  rw [intsOf_map]; rfl
end
/-! ### x[::-1] of a list or of a tuple -/
section
variable {prog : Program} {w : World} {A : Around} {E : Value → Shared → Prop} {s : Shared}
theorem back_places (n : Nat) : Builtin.Slice.slicePlaces ((n : Int) - 1) (-1) (-1) = n := by
  unfold Builtin.Slice.slicePlaces
  simp
  omega
theorem back_applied {z : Addr} {u1 u2 u3 : Value} {n : Nat} {Q : Int × Int × Nat → Shared → Prop} (hz : s.heap.IsSliceOf z u1 u2 u3) (p1 : IsPart u1 none) (p2 : IsPart u2 none) (p3 : IsPart u3 (some (-1)))
    (q : Q ((n : Int) - 1, -1, n) s) : wpAny (model prog w) A (Builtin.Slice.sliceApplied (.ref z) (pure (n : Int))) Q E s := by
  obtain ⟨oz, h1, h2, h3⟩ := id hz
  unfold Builtin.Slice.sliceApplied Builtin.Slice.sliceFields
  refine wpAny_bind (wpAny_bind (wpAny_field h1 h3 (x := u1) rfl (wpAny_bind (wpAny_field h1 h3 (x := u2) rfl (wpAny_bind (wpAny_field h1 h3 (x := u3) rfl (wpAny_pure ?_)))))))
  refine wpAny_bind (HT.slicePart_ p3 ?_)
  show wpAny _ _ (if ((-1 : Int) == 0) = true then _ else _) _ _ s
  rw [if_neg (by decide)]
  refine wpAny_bind (HT.slicePart_ p1 (wpAny_bind (HT.slicePart_ p2 (wpAny_bind (wpAny_pure ?_)))))
  show wpAny _ _ (match Builtin.Slice.sliceAdjust none none (-1) (n : Int) with | (a, b) => pure (a, (-1 : Int), Builtin.Slice.slicePlaces a b (-1))) _ _ s
  rw [show Builtin.Slice.sliceAdjust none none (-1) (n : Int) = ((n : Int) - 1, -1) from rfl]
  show wpAny _ _ (pure ((n : Int) - 1, (-1 : Int), Builtin.Slice.slicePlaces ((n : Int) - 1) (-1) (-1))) _ _ s
  rw [back_places]
  exact wpAny_pure q
theorem back_pick (xs : Array Value) : ((List.range xs.size).filterMap fun (m : Nat) => xs[((xs.size : Int) - 1 + (m : Int) * (-1)).toNat]?).toArray = xs.toList.reverse.toArray := by
  congr 1
  have e : ((List.range xs.size).filterMap fun (m : Nat) => xs[((xs.size : Int) - 1 + (m : Int) * (-1)).toNat]?) = (List.range xs.size).map fun m => xs.toList.reverse[m]?.getD .none := by
    rw [← List.filterMap_eq_map]
    have go : ∀ l : List Nat, (∀ m ∈ l, m < xs.size) → (l.filterMap fun (m : Nat) => xs[((xs.size : Int) - 1 + (m : Int) * (-1)).toNat]?) = l.filterMap (some ∘ fun m => xs.toList.reverse[m]?.getD .none) := fun l => by
      induction l with
      | nil => intro _; rfl
      | cons m r ih =>
        intro hm
        have lt := hm m List.mem_cons_self
        rw [List.filterMap_cons, List.filterMap_cons, ih fun y hy => hm y (List.mem_cons_of_mem _ hy)]
        have i1 : ((xs.size : Int) - 1 + (m : Int) * (-1)).toNat = xs.size - 1 - m := by omega
        rw [i1, Array.getElem?_eq_getElem (by omega)]
        have i2 : xs.toList.reverse[m]? = some (xs[xs.size - 1 - m]'(by omega)) := by
          rw [List.getElem?_reverse (by simpa using lt)]
          simp
        show xs[xs.size - 1 - m] :: _ = xs.toList.reverse[m]?.getD .none :: _
        rw [i2]; rfl
    exact go _ fun m hm => List.mem_range.mp hm
  rw [e]
  refine List.ext_getElem (by simp) fun i a b => ?_
  simp at a b
  simp [a]
theorem back_tuple {t z : Addr} {its : Array Value} {u1 u2 u3 : Value} {Q : Value → Shared → Prop} (ht : IsTup s.heap t its) (hz : s.heap.IsSliceOf z u1 u2 u3) (p1 : IsPart u1 none) (p2 : IsPart u2 none) (p3 : IsPart u3 (some (-1))) (hsz : its.size ≤ sizeLine)
    (q : Q (.ref s.heap.objs.size) { s with heap := s.heap.push { cls := .type "tuple", data := .seq its.toList.reverse.toArray } }) : wpAny (model prog w) A (getItem (.ref t) (.ref z)) Q E s := by
  have fits : sizeOk (.seq its.toList.reverse.toArray) := by
    show its.toList.reverse.toArray.size ≤ sizeLine
    simpa using hsz
  obtain ⟨oz, h1, h2, h3⟩ := id hz
  have tz : s.TypeIs (.ref z) "slice" := ⟨oz, h1, h2⟩
  unfold getItem
  try with_reducible refine wpAny_holding ?_
  first | refine wpAny_bind (wpAny_pure ?_) | skip
  refine wpAny_bind (wpAny_sequenceKey ht.typeIs (by decide) (wpAny_bind (wpAny_callSpecial?_slot (name := Str.ofString "__getitem__") ht.typeIs PyProof.Rows.slot_tuple_getitem (wpAny_call_entry PyProof.Rows.slot_tuple_getitem ht.typeIs PyProof.Rows.entry_tuple_getitem ?_ (PyProof.Rows.args_tuple_getitem _ _)))))
  show wpAny _ _ (Builtin.Tuple.tupleItemsOf (.ref t) >>= _) _ _ s
  refine wpAny_bind (tupleItemsOf_ ht (wpAny_bind (wpAny_typeOf tz ?_)))
  rw [if_pos (by decide)]
  refine wpAny_bind (back_applied hz p1 p2 p3 ?_)
  show wpAny _ _ (if ((its.size : Int) - 1 == 0 && (-1 : Int) == 1 && its.size == its.size) = true then _ else _) _ _ s
  rw [if_neg (by simp), back_pick]
  first
    | exact wpAny_bind (m := Builtin.Tuple.tupleExact _) (wpAny_newObj_type (wpAny_pure ⟨_, rfl, wpAny_pure q⟩) fits)
    | exact wpAny_bind (m := Builtin.Tuple.tupleExact _) (wpAny_newObj_type (wpAny_bind (wpAny_pure (wpAny_pure ⟨_, rfl, wpAny_pure q⟩))) fits)
    | exact wpAny_bind (wpAny_bind (m := Builtin.Tuple.tupleExact _) (wpAny_newObj_type (wpAny_pure (wpAny_pure ⟨_, rfl, wpAny_pure q⟩)) fits))
    | exact wpAny_bind (wpAny_bind (m := Builtin.Tuple.tupleExact _) (wpAny_newObj_type (wpAny_pure ⟨_, rfl, wpAny_pure q⟩) fits))
end
def tBack (K : PySem.W.Frag) (te : TE) : TE := fun σ H Q => te σ H fun x H1 => ∃ a, x = .ref a ∧ ((∃ xs, SqL K H1 a xs ∧ ∀ p, H1 p = none → Q (.ref p) (upd H1 p (.lst xs.reverse))) ∨ (∃ xs, SqT K H1 a xs ∧ ∀ p, H1 p = none → Q (.ref p) (upd H1 p (.tup xs.reverse))))
theorem pe_back {X : Cx} {e : Expr} {te : TE} {k : Nat} {p1 p2 p3 pos : Pos} (pe : PE X e te) : PE X (.Subscript e (.Slice none none (some (.UnaryOp .USub (.Constant (.int 1) k p1) p2)) p3) pos) (tBack X.K te) := by
  refine ⟨fun pins s σ H Q I hh => ?_⟩
  refine Subscript_ (thn (pe.run pins s σ H _ I hh) fun v s1 ⟨x, H1, I1, r1, a, ex, q⟩ => ?_)
  subst ex
  cases r1
  have step : PO X (some (.UnaryOp .USub (.Constant (.int 1) k p1) p2)) (tPart (tUn (rU fun i => .int (-i)) (tC (.int 1)))) := po_some (pe_un un_neg pe_int)
  refine wpAny_Slice (thn (po_none.run pins s1 σ H1 (fun o H2 => o = none ∧ H2 = H1) I1 ⟨rfl, rfl⟩) fun v1 s2 ⟨o1, H2, I2, q1, e1, z1⟩ => ?_)
  subst e1 z1
  refine thn (po_none.run pins s2 σ H2 (fun o H3 => o = none ∧ H3 = H2) I2 ⟨rfl, rfl⟩) fun v2 s3 ⟨o2, H3, I3, q2, e2, z2⟩ => ?_
  subst e2 z2
  refine thn (step.run pins s3 σ H3 (fun o H4 => o = some (-1) ∧ H4 = H3) I3 ⟨1, rfl, -1, rfl, rfl, rfl⟩) fun v3 s4 ⟨o3, H4, I4, q3, e3, z3⟩ => ?_
  subst e3 z3
  have I5 : Inv X pins σ H4 { s4 with heap := s4.heap.push { cls := .type "slice", data := .fields #[v1, v2, v3] } } := I4.kept (t' := s4.toks) fun b ob y => Heap.get?_push_of_some _ y
  show wpAny (model X.prog X.w) X.A (subscriptTail e (.Slice none none (some (.UnaryOp .USub (.Constant (.int 1) k p1) p2)) p3) (.ref a) (.ref s4.heap.objs.size)) (EP X pins σ Q) X.xe { s4 with heap := s4.heap.push { cls := .type "slice", data := .fields #[v1, v2, v3] } }
  rcases q with ⟨xs, hx, q⟩ | ⟨xs, hx, q⟩
  · obtain ⟨its, r, ht, hz⟩ := I5.list hx
    have ll := r.length
    refine tail_any (ops := [.ref a, .ref s4.heap.objs.size]) ht.isList.typeIs (PySem.slot_list_getitem.lookup) (wpAny_getItem_list_slice ht.isList (Heap.IsSliceOf.new _ v1 v2 v3) q1 q2 q3 (by decide) ?_ (by rw [List.size_toArray]; omega)) (by with_unfolding_all rfl)
    rw [PySem.W.krv_pick]
    refine ⟨.ref _, _, I5.laid (t' := s4.toks) (o := .lst xs.reverse) (fun b ob y => Heap.get?_push_of_some _ y) (Nat.le_refl _) ⟨by rw [List.length_reverse]; exact hz, _, 0, r.reverse, Heap.get?_push_size _ rfl⟩, rfl, q _ (I5.hok.fresh (Nat.le_refl _))⟩
  · obtain ⟨its, r, ht, hz⟩ := I5.tuple hx
    have ll := r.length
    refine tail_any (ops := [.ref a, .ref s4.heap.objs.size]) ht.typeIs (PyProof.Rows.slot_tuple_getitem.lookup) (back_tuple ht (Heap.IsSliceOf.new _ v1 v2 v3) q1 q2 q3 (by rw [List.size_toArray]; omega) ?_) (by with_unfolding_all rfl)
    refine ⟨.ref _, _, I5.laid (t' := s4.toks) (o := .tup xs.reverse) (fun b ob y => Heap.get?_push_of_some _ y) (Nat.le_refl _) ⟨by rw [List.length_reverse]; exact hz, _, r.reverse, _, Heap.get?_push_size _ rfl, rfl, _, rfl⟩, rfl, q _ (I5.hok.fresh (Nat.le_refl _))⟩
def pBack : PV → M PV
  | .lst xs => pure (.lst xs.reverse)
  | .scr xs => pure (.lst xs.reverse)
  | .tup xs => pure (.tup xs.reverse)
  | _ => M.stuck
def eBack (m : EX) : EX := fun ρ => m ρ >>= pBack
theorem se_back {X : Cx} {W : WX} {e : Expr} {m : EX} {k : Nat} {p1 p2 p3 pos : Pos} (sx : SE X W e m) : SE X W (.Subscript e (.Slice none none (some (.UnaryOp .USub (.Constant (.int 1) k p1) p2)) p3) pos) (eBack m) := by
  obtain ⟨t, p, q⟩ := sx.ex
  refine ⟨_, pe_back p, fun F γ ω ρ h σ H Q R C p => ?_⟩
  unfold eBack at p
  rw [post_bind] at p
  refine q F γ ω ρ h σ H _ R C (post_mono p (fun x h1 p1 γ1 H1 v L1 C1 r1 => ?_) (fun _ _ y => y))
  have B := (R.el L1).there C1
  cases x <;> first | exact p1.elim | skip
  · cases r1 with
    | tup s1 g1 => exact ⟨_, rfl, .inr ⟨_, s1, fun q nq => OutV.nowTup (OutV.el L1 p1) C1 g1.reverse q nq⟩⟩
  all_goals
    obtain ⟨a, vs, rfl, s1, t1, g1⟩ := r1.stL rfl
    exact ⟨a, rfl, .inl ⟨vs, s1, fun q nq => OutV.nowLst (OutV.el L1 p1) C1 B g1.reverse q nq⟩⟩
section
variable {ρ : En} {h : Hc} {a : EX} {Q : PQ PV} {xs : List PV}
def KBk (Q : PQ PV) : PQ PV := fun x h => wp (pBack x) h Q
theorem w_back : wp (eBack a ρ) h Q = wp (a ρ) h (KBk Q) := by unfold eBack; rw [wp_bind]; rfl
theorem w_KBkL : KBk Q (.lst xs) h = Q (.lst xs.reverse) h := rfl
theorem w_KBkS : KBk Q (.scr xs) h = Q (.lst xs.reverse) h := rfl
theorem w_KBkT : KBk Q (.tup xs) h = Q (.tup xs.reverse) h := rfl
end
/-! ### a test that is a conditional -/
section
variable {X : Cx} {W : WX} {c a b : Expr} {pos : Pos} {tc tA tB' : TT} {ca cx cy : TX}
def tIfT (c t u : TT) : TT := fun σ H Q => c σ H fun k H1 => if k = true then t σ H1 Q else u σ H1 Q
theorem pt_ifExp (hc : PT X c tc) (ha : PT X a tA) (hb : PT X b tB') : PT X (.IfExp c a b pos) (tIfT tc tA tB') := by
  refine ⟨fun pins s σ H Q I h => ?_⟩
  refine isTrue_IfExp (thn (hc.run pins s σ H _ I h) fun d s1 ⟨H1, I1, q1⟩ => ?_)
  cases d with
  | true => exact ha.run pins s1 σ H1 Q I1 q1
  | false => exact hb.run pins s1 σ H1 Q I1 q1
def tIfX (t x y : TX) : TX := fun ρ => t ρ >>= fun k => if k = true then x ρ else y ρ
theorem st_if (sc : ST X W c ca) (sa : ST X W a cx) (sb : ST X W b cy) : ST X W (.IfExp c a b pos) (tIfX ca cx cy) := by
  obtain ⟨tc, pc, qc⟩ := sc.ex
  obtain ⟨ta, pa, qa⟩ := sa.ex
  obtain ⟨tb, pb, qb⟩ := sb.ex
  refine ⟨_, pt_ifExp pc pa pb, fun F γ ω ρ h σ H Q R C p => ?_⟩
  unfold tIfX at p
  rw [post_bind] at p
  refine qc F γ ω ρ h σ H _ R C (post_mono p (fun k h1 p1 γ1 H1 L1 C1 => ?_) (fun _ _ x => x))
  cases k with
  | true => exact (if_pos rfl).mpr (qa F γ1 ω ρ h1 σ H1 Q (R.el L1) C1 (post_mono p1 (fun _ _ z => z.el L1) (fun _ _ z => z.el L1)))
  | false => exact qb F γ1 ω ρ h1 σ H1 Q (R.el L1) C1 (post_mono p1 (fun _ _ z => z.el L1) (fun _ _ z => z.el L1))
end
section
variable {ρ : En} {h : Hc} {p x y : TX} {QB : PQ Bool} {k : Bool}
def KTf (x y : TX) (ρ : En) (QB : PQ Bool) : PQ Bool := fun k h => if k = true then wp (x ρ) h QB else wp (y ρ) h QB
theorem w_tIf : wp (tIfX p x y ρ) h QB = wp (p ρ) h (KTf x y ρ QB) := by
  unfold tIfX; rw [wp_bind]; congr 1; funext v h; rw [wp_ite]; rfl
theorem w_KTf : KTf x y ρ QB k h = if k = true then wp (x ρ) h QB else wp (y ρ) h QB := rfl
end
/-! ### x.pop(), x one's own, as a statement -/
def sPop (i : Nat) : SX := onOw i fun xs ρ => if xs = [] then M.stuck else pure (.nx (ρ.set i (.ow xs.dropLast)))
section
variable {X : Cx} {W : WX} {x : Str} {p0 apos cpos pos : Pos}
theorem ss_pop (i : Nat) (hN : X.N[i]? = some x := by rfl)
    (hv : Vis X.env.scope x := by first | exact Or.inl rfl | exact Or.inr (Or.inl rfl) | exact Or.inr (Or.inr rfl))
    (hbase : attributeBase (.Name x p0) "pop" X.env (eval (.Name x p0) X.env) = eval (.Name x p0) X.env := by rfl) (hline : (apos.endLine == cpos.line) = true := by rfl)
    (hd : (x == ("__debug__" : Str)) = false := by decide) (hcd : (x == ("__classdict__" : Str)) = false := by decide)
    (hsw : swapsWith (.Call (.Attribute (.Name x p0) "pop" apos) [] [] cpos) none pos.line X.env = pure false := by rfl) :
    SS X W (.Expr (.Call (.Attribute (.Name x p0) "pop" apos) [] [] cpos) pos) (sPop i) := by
  refine ⟨_, ps_expr (pe_bm0 PySem.F.plainAttrs_list PySem.F.slot_list_pop PySem.F.type_list_pop mt_pop (pe_var hN hv hd hcd) hbase hline) hsw, fun F γ ω ρ h σ H D R C p => ?_⟩
  obtain ⟨xs, hx, p⟩ := onOw_post p
  obtain ⟨a, vs, h0, h1', h2, r0⟩ := R.ow i xs hx
  by_cases c : xs = []
  · rw [if_pos c] at p; exact p.elim
  · rw [if_neg c] at p
    have hl : xs.length = vs.length := r0.length
    have hp : 0 < vs.length := by rw [← hl]; exact List.length_pos_iff.mpr c
    obtain ⟨y, hy⟩ : ∃ y, vs[vs.length - 1]? = some y := ⟨_, List.getElem?_eq_getElem (by omega)⟩
    refine ⟨.ref a, h1', .inl ⟨rfl, vs, SqL.of h2⟩, a, vs, y, rfl, rfl, h2, hy, ?_⟩
    have ng := (R.oc i a h0).1
    have hi : i < ρ.length := (List.getElem?_eq_some_iff.mp hx).1
    have rd := Reps.take (xs.length - 1) r0
    rw [← List.dropLast_eq_take, hl, ← List.dropLast_eq_take] at rd
    exact p γ ω _ σ (SL.put h0 ng h2) (C.put h0 ng h2) (R.put hi h0 h1' rd)
end
section
variable {ρ : En} {h : Hc} {QF : PQ Fl} {i : Nat} {xs : List PV}
theorem w_pop : wp (sPop i ρ) h QF = isOw ρ i (fun xs => if xs = [] then False else QF (.nx (ρ.set i (.ow xs.dropLast))) h) := by
  unfold sPop; rw [w_onOw]; congr 1; funext xs; rw [wp_ite]; rfl
end
/-! ### len(set(xs)), xs a list of integers -/
def setN (ns : List Int) : Nat := (PyProof.Rows.firstMet (fun i => ns.getD i 0) ns.length).length
theorem map_getD (ns : List Int) : (List.range ns.length).map (fun i => ns.getD i 0) = ns := by
  refine List.ext_getElem (by simp) fun i h1 h2 => ?_
  rw [List.getElem_map, List.getElem_range, List.getD_eq_getElem?_getD, List.getElem?_eq_getElem h2]; rfl
theorem setN_any (ns : List Int) (k : Int) : (PyProof.Rows.firstMet (fun i => ns.getD i 0) ns.length).any (· == k) = ns.any (· == k) := by
  rw [PyProof.Rows.firstMet_any, map_getD]
theorem setN_le1 {ns : List Int} : setN ns ≤ 1 ↔ ∀ x ∈ ns, ∀ y ∈ ns, x = y := by
  constructor
  · intro h x hx y hy
    have ex : ∀ z ∈ ns, z ∈ PyProof.Rows.firstMet (fun i => ns.getD i 0) ns.length := fun z hz => by
      have := setN_any ns z
      rw [show ns.any (· == z) = true from List.any_eq_true.mpr ⟨z, hz, by simp⟩] at this
      obtain ⟨w, hw, e⟩ := List.any_eq_true.mp this
      rw [← eq_of_beq e]; exact hw
    have a := ex x hx
    have b := ex y hy
    unfold setN at h
    match hf : PyProof.Rows.firstMet (fun i => ns.getD i 0) ns.length, h, a, b with
    | [], _, a, _ => simp at a
    | [c], _, a, b => rw [List.mem_singleton.mp a, List.mem_singleton.mp b]
    | c :: d :: r, h, _, _ => simp at h
  · intro h
    match hn : ns with
    | [] => exact Nat.zero_le _
    | c :: r =>
      have key : ∀ i, i ≤ (c :: r).length → PyProof.Rows.firstMet (fun i => (c :: r).getD i 0) i = if i = 0 then [] else [c] := by
        intro i
        induction i with
        | zero => intro _; rfl
        | succ i ih =>
          intro hi
          rw [PyProof.Rows.firstMet_succ, ih (by omega), if_neg (show ¬ (i + 1 = 0) by omega)]
          have e : (c :: r).getD i 0 = c := by
            rw [List.getD_eq_getElem?_getD, List.getElem?_eq_getElem (show i < (c :: r).length from hi)]
            exact h _ (List.getElem_mem _) _ List.mem_cons_self
          show PyProof.Rows.step_dedup _ ((c :: r).getD i 0) = _
          rw [e]
          by_cases h0 : i = 0
          · rw [if_pos h0]; rfl
          · rw [if_neg h0]; unfold PyProof.Rows.step_dedup; rw [if_pos (by simp)]
      unfold setN
      rw [key _ (Nat.le_refl _), if_neg (by simp)]; exact Nat.le_refl _
section
variable {X : Cx}
def tLenSetA (K : PySem.W.Frag) (ta : TE) : TE := fun σ H Q => ta σ H fun x H1 => ∃ (l : Addr) (ns : List Int), x = V.ref l ∧ SqL K H1 l (ns.map V.int) ∧ ns.length ≤ 4000 ∧ Q (.int (setN ns : Nat)) H1
theorem pe_lenSetA {a : Expr} {ta : TE} {p p2 q pos : Pos} (hc : X.calm = true) (hg : Gl X "len") (hm : X.mg "len" = none) (hg2 : Gl X "set") (hm2 : X.mg "set" = none) (ha : PE X a ta)
    (na : starEach [a] X.env = (false, eval a X.env) :: starEach [] X.env := by rfl) : PE X (.Call (.Name "len" p) [.Call (.Name "set" p2) [a] [] q] [] pos) (tLenSetA X.K ta) := by
  refine ⟨fun pins s σ H Q I h => ?_⟩
  refine Call_ (ld_blt I hg hm PySem.boot_len ?_)
  refine PyProof.Rows.callWith_builtin1 (PyProof.Rows.args_cons ?_ rfl) rfl rfl
  refine Call_ (ld_blt I hg2 hm2 PyProof.Rows.boot_set ?_)
  refine PyProof.Rows.callWith_type1 (PyProof.Rows.args_cons (thn (ha.run pins s σ H _ I h) fun v s1 ⟨x, H1, I1, r1, q1⟩ => PyProof.Rows.args_nil ?_) na) na rfl
  obtain ⟨l, ns, rfl, hq, h1, q1⟩ := q1
  cases r1
  obtain ⟨its, r, pl, hz⟩ := I1.list hq
  have hl : its.toArray.size = ns.length := by rw [List.size_toArray, ← r.length, List.length_map]
  refine call_set_list (I1.ok.hd hc) pl.isList (ns := ns) (by simpa using r.ints) (by unfold scanBound; omega) fun h' tk hS hk => ?_
  rw [hl] at hS
  refine PyProof.Rows.args_nil ?_
  obtain ⟨o, es, ep, t, ho, hex, hd, _, _, _, hf, hn⟩ := hS
  have hle := PyProof.Rows.firstMet_length_le (fun i => ns.getD i 0) ns.length
  have I2 : Inv X pins σ H1 { s1 with heap := h', toks := tk } := I1.kept fun b o e => hk b o (Heap.lt_size e) e
  refine call_len_set ho hex hd hf (by rw [hn] <;> omega) ⟨.int (setN ns : Nat), H1, I2.tok _, ⟨_, by rw [hn]; rfl⟩, q1⟩
end
def lenSetM (x : PV) : M PV := oM ((lstOf x).bind fun xs => (intsOf xs).bind fun ns => if ns.length ≤ 4000 then some (PV.int (setN ns : Nat)) else none)
def eLenSet (m : EX) : EX := fun ρ => m ρ >>= lenSetM
section
variable {X : Cx} {W : WX} {a : Expr} {m : EX} {p p2 q pos : Pos}
theorem se_lenSet (hc : X.calm = true) (hg : Gl X "len") (hm : X.mg "len" = none) (hg2 : Gl X "set") (hm2 : X.mg "set" = none) (s : SE X W a m)
    (na : starEach [a] X.env = (false, eval a X.env) :: starEach [] X.env := by rfl) : SE X W (.Call (.Name "len" p) [.Call (.Name "set" p2) [a] [] q] [] pos) (eLenSet m) := by
  obtain ⟨t, pe, qq⟩ := s.ex
  refine ⟨_, pe_lenSetA hc hg hm hg2 hm2 pe na, fun F γ ω ρ h σ H Q R C p => ?_⟩
  unfold eLenSet at p
  rw [post_bind] at p
  refine qq F γ ω ρ h σ H _ R C (post_mono p (fun x h1 p1 γ1 H1 v L1 C1 r1 => ?_) (fun _ _ x => x))
  obtain ⟨z, e, o⟩ := oM_post p1
  cases el : lstOf x with
  | none => rw [el] at e; cases e
  | some xs =>
    rw [el] at e
    have e : ((intsOf xs).bind fun ns => if ns.length ≤ 4000 then some (PV.int (setN ns : Nat)) else none) = some z := e
    cases ei : intsOf xs with
    | none => rw [ei] at e; cases e
    | some ns =>
      rw [ei] at e
      have e : (if ns.length ≤ 4000 then some (PV.int (setN ns : Nat)) else none) = some z := e
      by_cases hl : ns.length ≤ 4000
      · rw [if_pos hl] at e
        cases e
        obtain ⟨a, vs, rfl, s1, t1, g1⟩ := r1.stL el
        rw [intsOf_eq ei] at g1
        have := g1.ints
        subst this
        exact ⟨a, ns, rfl, s1, hl, (OutV.el L1 o).now C1 (.int _)⟩
      · rw [if_neg hl] at e; cases e
end
section
variable {ρ : En} {h : Hc} {a : EX} {Q : PQ PV}
def KLSet (Q : PQ PV) : PQ PV := fun x h => wp (lenSetM x) h Q
theorem w_lenSet : wp (eLenSet a ρ) h Q = wp (a ρ) h (KLSet Q) := by unfold eLenSet; rw [wp_bind]; rfl
theorem w_KLSet {ns : List Int} : KLSet Q (.lst (ns.map PV.int)) h = (ns.length ≤ 4000 ∧ Q (.int (setN ns : Nat)) h) := by
  unfold KLSet lenSetM
  show wp (oM ((intsOf (ns.map PV.int)).bind fun ns => if ns.length ≤ 4000 then some (PV.int (setN ns : Nat)) else none)) h Q = _
  rw [intsOf_map]
  show wp (oM (if ns.length ≤ 4000 then some (PV.int (setN ns : Nat)) else none)) h Q = _
  by_cases hl : ns.length ≤ 4000
  · rw [if_pos hl]; exact (propext ⟨fun q => ⟨hl, q⟩, fun q => q.2⟩)
  · rw [if_neg hl]; exact (propext ⟨fun q => q.elim, fun q => absurd q.1 hl⟩)
end
theorem w_notB {a b : Bool} {h : Hc} {Q : PQ PV} : wp (pNotN (.bl a) (.bl b)) h Q = Q (.bl (!decide (a = b))) h := rfl
/-! ### min(xs), xs a list of pairs of integers -/
def pairO : PV → Option (Int × Int)
  | .tup [.int a, .int b] => some (a, b)
  | _ => none
def pairsO : List PV → Option (List (Int × Int))
  | [] => some []
  | x :: r => (pairO x).bind fun p => (pairsO r).map fun q => p :: q
def prP (p : Int × Int) : PV := .tup [.int p.1, .int p.2]
theorem pairO_eq {x : PV} {p : Int × Int} (e : pairO x = some p) : x = prP p := by
  unfold pairO at e
  split at e
  · cases e; rfl
  · cases e
theorem pairsO_eq : ∀ {xs : List PV} {ps : List (Int × Int)}, pairsO xs = some ps → xs = ps.map prP
  | [], ps, e => by cases e; rfl
  | x :: r, ps, e => by
    have e : ((pairO x).bind fun p => (pairsO r).map fun q => p :: q) = some ps := e
    cases h1 : pairO x with
    | none => rw [h1] at e; cases e
    | some p =>
      cases h2 : pairsO r with
      | none => rw [h1, h2] at e; cases e
      | some q =>
        rw [h1, h2] at e
        cases e
        rw [pairO_eq h1, pairsO_eq h2]; rfl
theorem pairsO_map : ∀ ps : List (Int × Int), pairsO (ps.map prP) = some ps
  | [] => rfl
  | p :: r => by
    show ((some p).bind fun p => (pairsO (r.map prP)).map fun q => p :: q) = _
    rw [pairsO_map r]; rfl
def minPr : List (Int × Int) → Option (Int × Int)
  | [] => none
  | p :: r => some (PySem.W.minOf p r)
def pMinP : PV → M PV
  | .lst xs => oM ((pairsO xs).bind fun ps => (minPr ps).map prP)
  | _ => M.stuck
theorem nox_minP : NoX1 pMinP := fun x h => by cases x <;> first | exact oM_nox | (intro e h' q; cases q)
theorem DpAll_at {K : PySem.W.Frag} {H : Hp} : ∀ {vs : List V} {ds : List PyData} {i : Nat} {y : V}, DpAll K H vs ds → vs[i]? = some y → ∃ d, ds[i]? = some d ∧ Dp K H y d := by
  intro vs
  induction vs with
  | nil => intro ds i y h e; simp at e
  | cons v vs ih =>
    intro ds i y h e
    cases h with
    | cons r s =>
      cases i with
      | zero => cases e; exact ⟨_, rfl, r⟩
      | succ i =>
        obtain ⟨d, h1, h2⟩ := ih s (i := i) (by simpa using e)
        exact ⟨d, by simpa using h1, h2⟩
theorem Vals.atV {vs : List V} {us : List Value} (r : Vals vs us) {i : Nat} {u : Value} (e : us[i]? = some u) : ∃ y, vs[i]? = some y ∧ RelV y u := by
  cases h : vs[i]? with
  | none => rw [Vals.none_of r h] at e; cases e
  | some y =>
    obtain ⟨w, hw, rw'⟩ := r.get h
    rw [hw] at e; cases e
    exact ⟨y, rfl, rw'⟩
def rMinD (K : PySem.W.Frag) : List V → Hp → VK → Prop := fun vs H Q => ∃ (a : Addr) (ys : List V) (p : Int × Int) (r : List (Int × Int)), vs = [V.ref a] ∧ SqL K H a ys ∧ DpAll K H ys ((p :: r).map PySem.W.Datum.toD) ∧
  ∀ (i : Nat) (y : V), ys[i]? = some y → (p :: r)[i]? = some (PySem.W.minOf p r) → Q y H
theorem cr_minD {X : Cx} (hc : X.calm = true) (hu : X.A.units + 64 < cLine) : CallR X (.builtin "min") (rMinD X.K) := by
  intro pins s σ H vs us Q I r h
  obtain ⟨a, ys, p, ps, rfl, hs, hd, q⟩ := h
  obtain ⟨its, rv, hl, _⟩ := I.list hs
  rw [Vals.ref1 r]
  obtain ⟨as, ra⟩ := Dp.readsAll I _ ys its hd rv
  refine PySem.W.min_list_datum (α := Int × Int) (x := p) (xs := ps) (I.ok.hd hc) hl.isList ⟨as, by simpa using ra⟩ (by
    have e : PySem.W.Datum.depth (Int × Int) ≤ 1 := by decide
    show X.A.units + 1 + _ < cLine
    omega) fun i v h' tk hi hr hk => ?_
  obtain ⟨y, hy, ry⟩ := Vals.atV rv (by simpa using hi)
  obtain ⟨d, hdi, dy⟩ := DpAll_at hd hy
  rw [List.getElem?_map] at hdi
  obtain ⟨pi, hpi, rfl⟩ := Option.map_eq_some_iff.mp hdi
  obtain ⟨bs, rb⟩ := Dp.reads I _ y v dy ry
  obtain ⟨cs, rc⟩ := hr
  obtain ⟨ds, rd⟩ : PySem.W.Holds h' v pi := PySem.W.Holds.keeps hk ⟨bs, rb⟩
  have e : (PySem.W.Datum.toD pi : PyData) = PySem.W.Datum.toD (PySem.W.minOf p ps) := (Reads.unique rd _ _ rc).1
  have e2 : pi = PySem.W.minOf p ps := by
    simp [PySem.W.Datum.toD] at e
    exact Prod.ext e.1 e.2
  exact ⟨y, H, I.kept hk, ry, q i y hy (by rw [hpi, e2])⟩
theorem toDs_pairs : ∀ ps : List (Int × Int), toDs (ps.map prP) = ps.map PySem.W.Datum.toD
  | [] => by simp [toDs]
  | p :: r => by
    show toDs (prP p :: r.map prP) = PySem.W.Datum.toD p :: r.map PySem.W.Datum.toD
    simp only [toDs, toDs_pairs r]
    congr 1
theorem dats_pairs : ∀ ps : List (Int × Int), dats (ps.map prP) = true
  | [] => rfl
  | p :: r => by
    show ((prP p).dat && dats (r.map prP)) = true
    rw [dats_pairs r]; simp [prP, PV.dat, dats]
theorem c_minP {K : PySem.W.Frag} : CallS K (rMinD K) (f1 pMinP) := cs_f1 fun F γ ω h H x v Q C B rx p => by
  cases x <;> first | exact p.elim | skip
  rename_i xs
  obtain ⟨z, e, o⟩ := oM_post p
  cases e2 : pairsO xs with
  | none => rw [e2] at e; cases e
  | some ps =>
    rw [e2] at e
    have e : (minPr ps).map prP = some z := e
    cases ps with
    | nil => cases e
    | cons q r =>
      cases e
      obtain rfl := pairsO_eq e2
      obtain ⟨a, vs, rfl, s1, t1, g1⟩ := rx.stL rfl
      have dd := g1.dp (dats_pairs _)
      rw [toDs_pairs] at dd
      refine ⟨a, vs, q, r, rfl, s1, dd, fun i y hy hi => ?_⟩
      obtain ⟨w, hw, rw'⟩ := g1.get (i := i) (p := prP (PySem.W.minOf q r)) (by rw [List.getElem?_map, hi]; rfl)
      rw [hy] at hw; cases hw
      exact o.now C rw'
section
variable {h : Hc} {QL : PQ PV}
theorem w_minP {p : Int × Int} {r : List (Int × Int)} : wp (f1 pMinP [.lst ((p :: r).map prP)]) h QL = QL (prP (PySem.W.minOf p r)) h := by
  show wp (oM ((pairsO ((p :: r).map prP)).bind fun ps => (minPr ps).map prP)) h QL = _
  rw [pairsO_map]
  rfl
end
/-! ### xs.index(x), xs a list of integers or of pairs of integers, x in it -/
def pidx (ps : List (Int × Int)) (p : Int × Int) : Nat := @List.idxOf _ instBEqOfDecidableEq p ps
theorem idx_get {α : Type} [BEq α] [LawfulBEq α] {l : List α} {a : α} (h : a ∈ l) : l[l.idxOf a]? = some a := by
  have hl : l.idxOf a < l.length := List.idxOf_lt_length_of_mem h
  rw [List.getElem?_eq_getElem hl]
  exact congrArg some (List.getElem_idxOf hl)
theorem pidx_get {ps : List (Int × Int)} {p : Int × Int} (h : p ∈ ps) : ps[pidx ps p]? = some p := @idx_get _ instBEqOfDecidableEq _ ps p h
theorem DpAll_len {K : PySem.W.Frag} {H : Hp} : ∀ {vs : List V} {ds : List PyData}, DpAll K H vs ds → vs.length = ds.length := by
  intro vs
  induction vs with
  | nil => intro ds h; cases h; rfl
  | cons v vs ih =>
    intro ds h
    cases h with
    | cons r s => rw [List.length_cons, List.length_cons, ih s]
section
variable {X : Cx}
def rIdxI (K : PySem.W.Frag) : V → List V → Hp → VK → Prop := fun x xs H Q => ∃ (a : Addr) (ns : List Int) (k : Int), x = .ref a ∧ xs = [.int k] ∧ SqL K H a (ns.map V.int) ∧ k ∈ ns ∧ Q (.int (ns.idxOf k : Nat)) H
def rIdxP (K : PySem.W.Frag) : V → List V → Hp → VK → Prop := fun x xs H Q => ∃ (a : Addr) (ys : List V) (k : V) (ps : List (Int × Int)) (p : Int × Int), x = .ref a ∧ xs = [k] ∧ SqL K H a ys ∧ DpAll K H ys (ps.map PySem.W.Datum.toD) ∧ Dp K H k (PySem.W.Datum.toD p) ∧ p ∈ ps ∧ Q (.int (pidx ps p : Nat)) H
def rIdx (K : PySem.W.Frag) : V → List V → Hp → VK → Prop := fun x xs H Q => rIdxI K x xs H Q ∨ rIdxP K x xs H Q
theorem mt_idx (hu : X.A.units + 64 < cLine) : MtR X "list.index" (rIdx X.K) := by
  intro pins s σ H x xs v us Q I rx rxs h
  rcases h with ⟨a, ns, k, rfl, rfl, hs, hk, q⟩ | ⟨a, ys, k, ps, p, rfl, rfl, hs, hd, hp, hm, q⟩
  · cases rx
    obtain ⟨u, rfl, t, rfl⟩ := vals1 rxs
    obtain ⟨its, rv, pl, hz⟩ := I.list hs
    exact PySem.SeqAt.list_index_ints pl.isList rv.ints (by simpa using hz) hk ⟨.int _, H, I.tok _, ⟨_, rfl⟩, q⟩
  · cases rx
    obtain ⟨u, rfl, ru⟩ := vals1 rxs
    obtain ⟨its, rv, pl, hz⟩ := I.list hs
    obtain ⟨as, ra⟩ := Dp.readsAll I _ ys its hd rv
    obtain ⟨bs, rb⟩ := Dp.reads I _ k u hp ru
    have e1 : PySem.W.Datum.depth (Int × Int) ≤ 1 := by decide
    have hlen := DpAll_len hd
    rw [List.length_map] at hlen
    refine PySem.W.index_list_datum (α := Int × Int) pl.isList ⟨as, ra⟩ ⟨bs, rb⟩ (by show X.A.units + 1 + _ < cLine; omega) (by omega) hm ⟨.int _, H, I.tok _, ⟨_, rfl⟩, q⟩
end
def pIdx : PV → PV → M PV := fun x y => oM ((lstOf x).bind fun xs =>
  match y with
  | .int k => (intsOf xs).bind fun ns => if k ∈ ns then some (.int (ns.idxOf k : Nat)) else none
  | y => (pairO y).bind fun p => (pairsO xs).bind fun ps => if p ∈ ps then some (.int (pidx ps p : Nat)) else none)
def eIdx (mo : EX) (m : AX) : EX := fun ρ => mo ρ >>= fun x => oM (lstOf x) >>= fun _ => m ρ >>= fun ys => match ys with | [y] => pIdx x y | _ => M.stuck
section
variable {X : Cx} {W : WX} {o e : Expr} {mo : EX} {m : AX} {apos cpos : Pos}
theorem se_idx (hu : X.A.units + 64 < cLine) (so : SE X W o mo) (sa : SA X W [e] m)
    (hbase : attributeBase o "index" X.env (eval o X.env) = eval o X.env := by rfl)
    (hfew : ((backTo cpos (starEach [e] X.env)).all (fun x => !x.1) && (backToKw cpos (keywordEach [] X.env)).all (fun x => x.1.isSome)
      && decide ([e].length + ([] : List Keyword).length + (if ([] : List Keyword).isEmpty then 0 else 1) < 30)) = true := by rfl)
    (hline : (apos.endLine == cpos.line) = true := by rfl) (hs : starEach [e] X.env = (false, eval e X.env) :: starEach [] X.env := by rfl) (hplain : (backTo cpos (starEach [] X.env)).any (·.1) = false := by rfl) :
    SE X W (.Call (.Attribute o "index" apos) [e] [] cpos) (eIdx mo m) := by
  obtain ⟨to, po, qo⟩ := so.ex
  obtain ⟨ta, pa, qa⟩ := sa.ex
  refine ⟨_, pe_bm PySem.F.plainAttrs_list PySem.F.slot_list_index PySem.F.type_list_index (mt_idx hu) po pa hbase hfew hline hs hplain, fun F γ ω ρ h σ H Q R C p => ?_⟩
  unfold eIdx at p
  rw [post_bind] at p
  refine qo F γ ω ρ h σ H _ R C (post_mono p (fun x h1 p1 γ1 H1 v L1 C1 r1 => ?_) (fun _ _ y => y))
  rw [post_bind] at p1
  obtain ⟨xs, el, p1⟩ := oM_post p1
  rw [post_bind] at p1
  obtain ⟨a, vs, rfl, s1, t1, g1⟩ := r1.stL el
  refine ⟨.inl ⟨rfl, vs, s1⟩, ?_⟩
  refine qa F γ1 ω ρ h1 σ H1 _ (R.el L1) C1 (post_mono p1 (fun ys h2 p2 γ2 H2 us L2 C2 r2 => ?_) (fun _ _ z => z.el L1))
  have r1' := r1.later L2.later
  obtain ⟨a', vs', ea, s1', t1', g1'⟩ := r1'.stL el
  cases ea
  match ys, r2, p2 with
  | [], r2, p2 => exact p2.elim
  | [y], r2, p2 =>
    obtain ⟨z, e, o⟩ := oM_post p2
    obtain ⟨w, rfl, ry⟩ := r2.one
    rw [el] at e
    have o := (OutV.el (L1.trans L2) o)
    by_cases hy : ∃ k, y = .int k
    · obtain ⟨k, rfl⟩ := hy
      have e : ((intsOf xs).bind fun ns => if k ∈ ns then some (PV.int (ns.idxOf k : Nat)) else none) = some z := e
      cases ei : intsOf xs with
      | none => rw [ei] at e; cases e
      | some ns =>
        rw [ei] at e
        have e : (if k ∈ ns then some (PV.int (ns.idxOf k : Nat)) else none) = some z := e
        by_cases hk : k ∈ ns
        · rw [if_pos hk] at e
          cases e
          cases ry
          rw [intsOf_eq ei] at g1'
          have := g1'.ints
          subst this
          exact .inl ⟨_, ns, k, rfl, rfl, s1', hk, o.now C2 (.int _)⟩
        · rw [if_neg hk] at e; cases e
    · have e : ((pairO y).bind fun p => (pairsO xs).bind fun ps => if p ∈ ps then some (PV.int (pidx ps p : Nat)) else none) = some z := by
        cases y <;> first | exact e | exact absurd ⟨_, rfl⟩ hy
      cases e1 : pairO y with
      | none => rw [e1] at e; cases e
      | some q =>
        cases e2 : pairsO xs with
        | none => rw [e1, e2] at e; cases e
        | some ps =>
          rw [e1, e2] at e
          have e : (if q ∈ ps then some (PV.int (pidx ps q : Nat)) else none) = some z := e
          by_cases hk : q ∈ ps
          · rw [if_pos hk] at e
            cases e
            obtain rfl := pairsO_eq e2
            obtain rfl := pairO_eq e1
            have dd := g1'.dp (dats_pairs _)
            rw [toDs_pairs] at dd
            have dy := ry.dp (p := prP q) (by simp [prP, PV.dat, dats])
            have ed : (prP q).toD = PySem.W.Datum.toD q := by simp [prP, PV.toD, toDs]; rfl
            rw [ed] at dy
            exact .inr ⟨_, vs', w, ps, q, rfl, rfl, s1', dd, dy, hk, o.now C2 (.int _)⟩
          · rw [if_neg hk] at e; cases e
  | _ :: _ :: _, r2, p2 => exact p2.elim
end
section
variable {ρ : En} {h : Hc} {a : EX} {m : AX} {Q : PQ PV}
def KIxA (m : AX) (ρ : En) (Q : PQ PV) : PQ PV := fun x h => wp (oM (lstOf x) >>= fun _ => m ρ >>= fun ys => match ys with | [y] => pIdx x y | _ => M.stuck) h Q
def KIxB (x : PV) (Q : PQ PV) : PQ (List PV) := fun ys h => wp (match ys with | [y] => pIdx x y | _ => M.stuck) h Q
theorem w_idx : wp (eIdx a m ρ) h Q = wp (a ρ) h (KIxA m ρ Q) := by unfold eIdx; rw [wp_bind]; rfl
theorem w_KIxA {xs : List PV} : KIxA m ρ Q (.lst xs) h = wp (m ρ) h (KIxB (.lst xs) Q) := by
  unfold KIxA
  rw [wp_bind]
  show wp (m ρ >>= _) h Q = _
  rw [wp_bind]; rfl
theorem w_KIxB {x y : PV} : KIxB x Q [y] h = wp (pIdx x y) h Q := rfl
theorem idx_pr {ps : List (Int × Int)} {p : Int × Int} (hp : p ∈ ps) (q : Q (.int (pidx ps p : Nat)) h) : wp (pIdx (.lst (ps.map prP)) (prP p)) h Q := by
  show wp (oM ((pairO (prP p)).bind fun p => (pairsO (ps.map prP)).bind fun ps => if p ∈ ps then some (PV.int (pidx ps p : Nat)) else none)) h Q
  rw [pairsO_map, show pairO (prP p) = some p from rfl]
  show wp (oM (if p ∈ ps then some (PV.int (pidx ps p : Nat)) else none)) h Q
  rw [if_pos hp]; exact q
theorem idx_int {ns : List Int} {k : Int} (hk : k ∈ ns) (q : Q (.int (ns.idxOf k : Nat)) h) : wp (pIdx (.lst (ns.map PV.int)) (.int k)) h Q := by
  show wp (oM ((intsOf (ns.map PV.int)).bind fun ns => if k ∈ ns then some (PV.int (ns.idxOf k : Nat)) else none)) h Q
  rw [intsOf_map]
  show wp (oM (if k ∈ ns then some (PV.int (ns.idxOf k : Nat)) else none)) h Q
  rw [if_pos hk]; exact q
end
/-! ### () * k -/
theorem tuple_mul0 (l : Addr) (items : Array Value) (n : Nat) (dd : Option Addr) (sl : Array (Option Value)) (x : Int) (u : Tok) (c0 : (decide (x < -(2 ^ 63)) || decide (x ≥ 2 ^ 63)) = false) (c1 : (items.isEmpty || x == 1) = true) :
    Meets (Builtin.«tuple.__mul__» ⟨[.ref l, .int x u], []⟩) (fun _ R s => s.heap.get? l = some { cls := .type "tuple", dict := dd, data := .seq items n, slots := sl } ∧
      R (.ok (.ret (Value.ref l))) s) :=
  .of_wp fun prog w A R s h => by
    obtain ⟨hp, g, d, tk, os⟩ := s
    obtain ⟨hl, h⟩ := h
    have f1 := AutoSeq1.idx_int
    wp_walk using wpAny_loadPart' hl
    repeat (first
      | (refine wpAny_ite_false (decide_eq_false (by rw [c0]; exact Bool.false_ne_true)) ?_; wp_walk using wpAny_loadPart' hl)
      | (refine wpAny_ite_true (decide_eq_true (by rw [c1])) ?_; wp_walk using wpAny_loadPart' hl))
    exact ⟨_, rfl, h⟩
def rRep0 (K : PySem.W.Frag) : R2 := fun x y H Q => ∃ l k, x = .ref l ∧ y = .int k ∧ SqT K H l [] ∧ 2 ≤ k ∧ k ≤ 1000 ∧ Q (.ref l) H
theorem op_rep0 {X : Cx} : OpR X (binaryOp .Mult) (rRep0 X.K) := by
  intro pins s σ H x y v u Q I rx ry h
  obtain ⟨l, k, rfl, rfl, hT, h1, h2, q⟩ := h
  cases rx
  obtain ⟨t, rfl⟩ := ry
  obtain ⟨its, r, ⟨⟨cls, dd, data, sl⟩, ho, hc, n, hd⟩, hs⟩ := I.tuple hT
  simp only at hc hd
  subst hc hd
  cases r
  have c0 : (decide (k < -(2 ^ 63)) || decide (k ≥ 2 ^ 63)) = false := by
    rw [decide_eq_false (by omega), decide_eq_false (by omega)] <;> rfl
  refine wpAny_binaryOp_repeat_ref (T := "tuple") (U := "int") (by decide) ⟨_, ho, rfl⟩ (fun s' => typeIs_int s' k t) noFill_tuple_mul F.fills_int_mul F.slot_int_rmul repeat_tuple F.slot_int_index.lookup
    (call_meets F.slot_int_rmul (typeIs_int s k t) F.entry_int_rmul (F.args_int_rmul_2 _ _) (int_rmul_tuple k t l _ n dd sl)
      ⟨ho, rfl, ⟨_, ho, rfl⟩, call_meets F.slot_tuple_mul ⟨_, ho, rfl⟩ F.entry_tuple_mul (F.args_tuple_mul_2 _ _) (tuple_mul0 l _ n dd sl k t c0 (by simp)) ⟨ho, ?_⟩⟩)
  exact ⟨.ref l, H, I, rfl, q⟩
noncomputable def pMulE : PV → PV → M PV
  | .tup [], .int k => guardM (2 ≤ k ∧ k ≤ 1000) (pure (.tup []))
  | x, y => pMul x y
theorem nox_mulE : NoX2 pMulE := fun x y h => by
  unfold pMulE
  split
  · exact guard_nox pure_nox
  · exact nox_mul _ _ _
def rMulE (K : PySem.W.Frag) : R2 := fun x y H Q => rMulP K x y H Q ∨ rRep0 K x y H Q
theorem op_mulE {X : Cx} : OpR X (binaryOp .Mult) (rMulE X.K) := op_mulP.or op_rep0
theorem s_mulE {K : PySem.W.Frag} : OpS K (rMulE K) pMulE := by
  intro F γ ω h H x y v w Q C B rx ry p
  unfold pMulE at p
  split at p
  · obtain ⟨⟨h1, h2⟩, p⟩ := guard_post p
    cases ry
    cases rx with
    | tup s1 r1 =>
      have e := r1.length
      have : _ = [] := List.eq_nil_of_length_eq_zero e.symm
      subst this
      exact .inr ⟨_, _, rfl, rfl, s1, h1, h2, OutV.now p C (.tup s1 .nil)⟩
  · exact .inl (s_mul F γ ω h H _ _ v w Q C B rx ry p)
section
variable {h : Hc} {Q : PQ PV}
theorem w_mulEI {i j : Int} : wp (pMulE (.int i) (.int j)) h Q = (MulOk i j ∧ Q (.int (i * j)) h) := wp_guard
theorem w_mulEL {xs : List PV} {k : Int} : wp (pMulE (.lst xs) (.int k)) h Q = ((-(2 ^ 63) ≤ k ∧ k < 2 ^ 63 ∧ xs.length * k.toNat ≤ sizeLine) ∧ Q (.lst (List.replicate k.toNat xs).flatten) h) := wp_guard
theorem mulE_T {xs : List PV} {k : Int} (h1 : 2 ≤ k) (h2 : k ≤ 1000) (h3 : xs.length ≤ 1000) (q : Q (.tup (List.replicate k.toNat xs).flatten) h) : wp (pMulE (.tup xs) (.int k)) h Q := by
  cases xs with
  | nil =>
    have e : (List.replicate k.toNat ([] : List PV)).flatten = [] := by
      generalize k.toNat = n
      induction n with
      | zero => rfl
      | succ n ih => rw [List.replicate_succ, List.flatten_cons, ih]; rfl
    rw [e] at q
    show wp (guardM (2 ≤ k ∧ k ≤ 1000) (pure (.tup []))) h Q
    rw [wp_guard]
    exact ⟨⟨h1, h2⟩, q⟩
  | cons x r => exact w_mulT (by simp) (by omega) h2 h3 q
end
/-! ### tuple(range(a, b)) -/
noncomputable def eTR2 (ma mb : EX) : EX := fun ρ => ma ρ >>= fun x => mb ρ >>= fun y => rgM x y >>= fun xs => pure (.tup xs)
section
variable {X : Cx} {W : WX} {a b : Expr} {ma mb : EX} {p p2 pos pos2 : Pos}
theorem se_tupR2 (hc : X.calm = true) (hg : Gl X "tuple") (hm : X.mg "tuple" = none) (hg2 : Gl X "range") (hm2 : X.mg "range" = none) (sa : SE X W a ma) (sb : SE X W b mb)
    (na2 : starEach [a, b] X.env = (false, eval a X.env) :: starEach [b] X.env := by rfl) (nb2 : starEach [b] X.env = (false, eval b X.env) :: starEach [] X.env := by rfl)
    (np2 : (backTo pos2 (starEach [b] X.env)).any (fun x => x.fst) = false := by rfl)
    (na : starEach [Expr.Call (.Name "range" p2) [a, b] [] pos2] X.env = (false, eval (Expr.Call (.Name "range" p2) [a, b] [] pos2) X.env) :: starEach [] X.env := by rfl) :
    SE X W (.Call (.Name "tuple" p) [.Call (.Name "range" p2) [a, b] [] pos2] [] pos) (eTR2 ma mb) := by
  obtain ⟨ta, pa, qa⟩ := sa.ex
  obtain ⟨tb, pb, qb⟩ := sb.ex
  refine ⟨_, pe_tupRg hc hg hm (prg_2 hg2 hm2 pa pb na2 nb2 np2) na, fun F γ ω ρ h σ H Q R C p => ?_⟩
  unfold eTR2 at p
  rw [post_bind] at p
  refine qa F γ ω ρ h σ H _ R C (post_mono p (fun x h1 p1 γ1 H1 v L1 C1 r1 => ?_) (fun _ _ x => x))
  rw [post_bind] at p1
  refine qb F γ1 ω ρ h1 σ H1 _ (R.el L1) C1 (post_mono p1 (fun y h2 p2 γ2 H2 w L2 C2 r2 => ?_) (fun _ _ z => z.el L1))
  cases x <;> first | exact p2.elim | skip
  cases y <;> first | exact p2.elim | skip
  rename_i i j
  cases r1; cases r2
  have p2 : post (((@ite (M (List PV)) (RgOk i j) (Classical.propDecidable _) (pure (rangeP i (j - i).toNat)) M.stuck) >>= fun xs => pure (PV.tup xs)) h2) (OutV X.K F ω γ H Q) (OutX X.K W X.mg γ H σ) := p2
  by_cases hk : RgOk i j
  · rw [if_pos hk] at p2
    exact ⟨i, j, rfl, rfl, hk, fun q nq => OutV.nowTup (OutV.el (L1.trans L2) p2) C2 rg_reps q nq⟩
  · rw [if_neg hk] at p2; exact p2.elim
end
section
variable {ρ : En} {h : Hc} {a b : EX} {Q : PQ PV}
def KTRA (b : EX) (ρ : En) (Q : PQ PV) : PQ PV := fun x h => wp (b ρ) h (fun y h => wp (rgM x y >>= fun xs => pure (.tup xs)) h Q)
def KTRB (x : PV) (Q : PQ PV) : PQ PV := fun y h => wp (rgM x y >>= fun xs => pure (.tup xs)) h Q
theorem w_eTR2 : wp (eTR2 a b ρ) h Q = wp (a ρ) h (KTRA b ρ Q) := by
  unfold eTR2; rw [wp_bind]; congr 1; funext x h; rw [wp_bind]; rfl
theorem w_KTRA {x : PV} : KTRA b ρ Q x h = wp (b ρ) h (KTRB x Q) := rfl
theorem w_KTRB {i j : Int} : KTRB (.int i) Q (.int j) h = (RgOk i j ∧ Q (.tup (rangeP i (j - i).toNat)) h) := by
  unfold KTRB
  rw [wp_bind]
  exact w_and_ite (d := Classical.propDecidable _)
end
/-! ### (x, ..) * 0 -/
theorem tuple_mulZ (l : Addr) (items : Array Value) (n : Nat) (dd : Option Addr) (sl : Array (Option Value)) (u : Tok) (c1 : (items.isEmpty || (0 : Int) == 1) = false) :
    Meets (Builtin.«tuple.__mul__» ⟨[.ref l, .int 0 u], []⟩) (fun _ R s => s.heap.get? l = some { cls := .type "tuple", dict := dd, data := .seq items n, slots := sl } ∧
      R (.ok (.ret (Value.ref s.heap.objs.size))) { s with heap := s.heap.push { cls := Value.type "tuple", data := Data.seq #[] }, toks := s.toks }) :=
  .of_wp fun prog w A R s h => by
    obtain ⟨hp, g, d, tk, os⟩ := s
    obtain ⟨hl, h⟩ := h
    have f1 := AutoSeq1.idx_int
    have c2 : (decide ((0 : Int) ≤ 0) || items.isEmpty) = true := by simp
    wp_walk using wpAny_loadPart' hl
    repeat (first
      | (refine wpAny_ite_false (decide_eq_false (by rw [c1]; exact Bool.false_ne_true)) ?_; wp_walk using wpAny_loadPart' hl)
      | (refine wpAny_ite_true (decide_eq_true (by rw [c2])) ?_; wp_walk using wpAny_loadPart' hl)
      | (refine wpAny_ite_false (decide_eq_false (by decide)) ?_; wp_walk using wpAny_loadPart' hl))
    exact ⟨_, rfl, h⟩
def rRepZ (K : PySem.W.Frag) : R2 := fun x y H Q => ∃ l xs, x = .ref l ∧ y = .int 0 ∧ SqT K H l xs ∧ xs ≠ [] ∧ ∀ p, H p = none → Q (.ref p) (upd H p (.tup []))
theorem op_repZ {X : Cx} : OpR X (binaryOp .Mult) (rRepZ X.K) := by
  intro pins s σ H x y v u Q I rx ry h
  obtain ⟨l, xs, rfl, rfl, hT, hne, q⟩ := h
  cases rx
  obtain ⟨t, rfl⟩ := ry
  obtain ⟨its, r, ⟨⟨cls, dd, data, sl⟩, ho, hc, n, hd⟩, hs⟩ := I.tuple hT
  simp only at hc hd
  subst hc hd
  have hle : its.length = xs.length := r.length.symm
  have hn : its ≠ [] := fun e => hne (by
    rw [e] at hle
    exact List.eq_nil_of_length_eq_zero hle.symm)
  have hi : its.toArray.isEmpty = false := by
    cases its with
    | nil => exact absurd rfl hn
    | cons a b => rfl
  refine wpAny_binaryOp_repeat_ref (T := "tuple") (U := "int") (by decide) ⟨_, ho, rfl⟩ (fun s' => typeIs_int s' 0 t) noFill_tuple_mul F.fills_int_mul F.slot_int_rmul repeat_tuple F.slot_int_index.lookup
    (call_meets F.slot_int_rmul (typeIs_int s 0 t) F.entry_int_rmul (F.args_int_rmul_2 _ _) (int_rmul_tuple 0 t l _ n dd sl)
      ⟨ho, rfl, ⟨_, ho, rfl⟩, call_meets F.slot_tuple_mul ⟨_, ho, rfl⟩ F.entry_tuple_mul (F.args_tuple_mul_2 _ _) (tuple_mulZ l _ n dd sl t (by rw [hi]; rfl)) ⟨ho, ?_⟩⟩)
  refine ⟨.ref s.heap.objs.size, _, I.laid (t' := s.toks) (o := .tup []) (fun b ob q => Heap.get?_push_of_some _ q) (Nat.le_refl _) ?_, rfl, q _ (I.hok.fresh (Nat.le_refl _))⟩
  exact ⟨by decide, _, .nil, IsTup.new _ _⟩
noncomputable def pMulZ : PV → PV → M PV
  | .tup (_ :: _), .int 0 => pure (.tup [])
  | x, y => pMul x y
theorem nox_mulZ : NoX2 pMulZ := fun x y h => by
  unfold pMulZ
  split
  · exact pure_nox
  · exact nox_mul _ _ _
def rMulZ (K : PySem.W.Frag) : R2 := fun x y H Q => rMulP K x y H Q ∨ rRepZ K x y H Q
theorem op_mulZ {X : Cx} : OpR X (binaryOp .Mult) (rMulZ X.K) := op_mulP.or op_repZ
theorem s_mulZ {K : PySem.W.Frag} : OpS K (rMulZ K) pMulZ := by
  intro F γ ω h H x y v w Q C B rx ry p
  unfold pMulZ at p
  split at p
  · cases ry
    cases rx with
    | tup s1 r1 =>
      refine .inr ⟨_, _, rfl, rfl, s1, fun e => ?_, fun q nq => OutV.nowTup p C .nil q nq⟩
      have := r1.length
      rw [e] at this
      simp at this
  · exact .inl (s_mul F γ ω h H _ _ v w Q C B rx ry p)
section
variable {h : Hc} {Q : PQ PV}
theorem mulZ_T {x : PV} {k : Int} (h1 : 0 ≤ k) (h2 : k ≤ 1000) (q : Q (.tup (List.replicate k.toNat x)) h) : wp (pMulZ (.tup [x]) (.int k)) h Q := by
  by_cases c : k = 0
  · subst c
    exact q
  · have e : (List.replicate k.toNat [x]).flatten = List.replicate k.toNat x := by
      generalize k.toNat = n
      induction n with
      | zero => rfl
      | succ n ih => rw [List.replicate_succ, List.flatten_cons, ih]; rfl
    have e2 : pMulZ (.tup [x]) (.int k) = pMul (.tup [x]) (.int k) := by
      unfold pMulZ
      split
      · rename_i hk
        injection hk with hk
        exact absurd hk c
      · rfl
    rw [e2]
    exact w_mulT (by simp) (by omega) h2 (by simp) (by rw [e]; exact q)
end
/-! ### t[lo:hi].count(k): of a slice that is a new tuple -/
section
variable {X : Cx} {e a : Expr} {lo hi : Option Expr} {te : TE} {tl th : TO} {t : TA} {p2 spos apos cpos : Pos}
def tSlC (K : PySem.W.Frag) (te : TE) (tl th : TO) (t : TA) : TE := fun σ H Q => te σ H fun x H1 => tl σ H1 fun l H2 => th σ H2 fun u H3 => ∃ b xs, x = V.ref b ∧ SqT K H3 b xs ∧
  ¬ (HT.sIx xs.length 0 l = 0 ∧ HT.sIx xs.length xs.length u = xs.length) ∧ ∀ p, H3 p = none → t σ (upd H3 p (.tup (cutV xs l u))) fun us H4 => ∃ (k : Int) (ns : List Int), us = [V.int k] ∧ SqT K H4 p (ns.map V.int) ∧ Q (.int ((ns.countP fun y => decide (y = k) : Nat) : Int)) H4
theorem pe_slCount (hu : X.A.units + 64 < cLine) (he : PE X e te) (hl : PO X lo tl) (hh : PO X hi th) (ha : PA X [a] t)
    (hbase : attributeBase (.Subscript e (.Slice lo hi none p2) spos) "count" X.env (eval (.Subscript e (.Slice lo hi none p2) spos) X.env) = eval (.Subscript e (.Slice lo hi none p2) spos) X.env := by rfl)
    (hfew : ((backTo cpos (starEach [a] X.env)).all (fun x => !x.1) && (backToKw cpos (keywordEach [] X.env)).all (fun x => x.1.isSome)
      && decide ([a].length + ([] : List Keyword).length + (if ([] : List Keyword).isEmpty then 0 else 1) < 30)) = true := by rfl)
    (hline : (apos.endLine == cpos.line) = true := by rfl) (hs : starEach [a] X.env = (false, eval a X.env) :: starEach [] X.env := by rfl) (hplain : (backTo cpos (starEach [] X.env)).any (·.1) = false := by rfl) :
    PE X (.Call (.Attribute (.Subscript e (.Slice lo hi none p2) spos) "count" apos) [a] [] cpos) (tSlC X.K te tl th t) := by
  refine ⟨fun pins s σ H Q I h => ?_⟩
  refine wpAny_Call_method_late hbase hfew hline rfl ?_
  refine Subscript_ (thn (he.run pins s σ H _ I h) fun v s1 ⟨x, H1, I1, r1, q1⟩ => ?_)
  refine wpAny_Slice (thn (hl.run pins s1 σ H1 _ I1 q1) fun vl s2 ⟨l, H2, I2, pl, q2⟩ => thn (hh.run pins s2 σ H2 _ I2 q2) fun vu s3 ⟨u, H3, I3, pu, q3⟩ => ?_)
  rw [evalPart_none]
  refine wpAny_pure ?_
  have I4 : Inv X pins σ H3 { s3 with heap := s3.heap.push { cls := .type "slice", data := .fields #[vl, vu, .none] } } := I3.kept (t' := s3.toks) fun b ob q => Heap.get?_push_of_some _ q
  obtain ⟨b, xs, rfl, hx, hw, q4⟩ := q3
  cases r1
  obtain ⟨its, r, ht, hz⟩ := I4.tuple hx
  have hlen : its.toArray.size = xs.length := by rw [List.size_toArray]; exact r.length.symm
  refine tail_any (ops := [.ref s3.heap.objs.size, .ref b]) ht.typeIs (PyProof.Rows.slot_tuple_getitem.lookup) (HT.getItem_tuple_cut ht (Heap.IsSliceOf.new ..) pl pu (by rw [hlen]; exact hw) ?_ (by rw [hlen]; exact hz)) (by with_unfolding_all rfl)
  rw [hlen]
  generalize hs4 : ({ s3 with heap := s3.heap.push { cls := .type "slice", data := .fields #[vl, vu, .none] } } : Shared) = s4 at *
  have I5 := I4.laid (t' := s4.toks) (o := .tup (cutV xs l u)) (h' := s4.heap.push { cls := .type "tuple", data := .seq ((its.drop (HT.sIx xs.length 0 l)).take (HT.sIx xs.length xs.length u - HT.sIx xs.length 0 l)).toArray }) (a := s4.heap.objs.size) (fun b ob q => Heap.get?_push_of_some _ q) (Nat.le_refl _) ⟨Nat.le_trans (cutV_length xs l u) hz, _, (r.drop (HT.sIx xs.length 0 l)).take (HT.sIx xs.length xs.length u - HT.sIx xs.length 0 l), IsTup.new _ _⟩
  have q5 := q4 _ (I4.hok.fresh (Nat.le_refl _))
  refine ⟨"tuple", "tuple.count", PySem.F.plainAttrs_tuple, PySem.F.slot_tuple_count, PySem.F.type_tuple_count, ⟨_, Heap.get?_push_size _ rfl, rfl⟩, fun c ec => ?_, ?_⟩
  · cases ec
    exact ⟨_, Heap.get?_push_size _ rfl, rfl⟩
  have hA := ha.run cpos pins _ σ _ _ I5 q5
  rw [hs] at hA ⊢
  refine Calls.callWith_builtin (by show (false || (backTo cpos (starEach [] X.env)).any (·.1)) = false; rw [hplain] <;> rfl) (Calls.evalArgs_plain ?_)
  refine thn hA fun us s6 ⟨vs, H6, I6, r6, k, ns, ev, hq, q6⟩ => ?_
  subst ev
  obtain ⟨w, rfl, tk, rfl⟩ := vals1 r6
  obtain ⟨its6, r6', ht6, _⟩ := I6.tuple hq
  have e1 : PySem.W.Datum.depth Int = 0 := rfl
  exact PySem.W.count_tuple_datum (α := Int) ht6 ⟨[], by rw [List.toList_toArray]; exact IntsAre.reads s6.heap r6'.ints⟩ ⟨_, .int k tk⟩ (by rw [e1]; show X.A.units + 1 + 0 < cLine; omega) ⟨.int _, H6, I6.tok _, ⟨_, rfl⟩, q6⟩
end
def slcM (l u : Option Int) (x : PV) (ys : List PV) : M PV := match x, ys with
  | .tup xs, [.int k] => oM ((intsOf (cutP xs l u)).bind fun ns => some (.int ((ns.countP fun y => decide (y = k) : Nat) : Int)))
  | _, _ => M.stuck
def slcT (l u : Option Int) : PV → M Unit
  | .tup xs => if HT.sIx xs.length 0 l = 0 ∧ HT.sIx xs.length xs.length u = xs.length then M.stuck else pure ()
  | _ => M.stuck
def eSlC (me : EX) (ml mh : En → M (Option Int)) (m : AX) : EX := fun ρ => me ρ >>= fun x => ml ρ >>= fun l => mh ρ >>= fun u => slcT l u x >>= fun _ => m ρ >>= fun ys => slcM l u x ys
section
variable {X : Cx} {W : WX} {e a : Expr} {lo hi : Option Expr} {me : EX} {ml mh : En → M (Option Int)} {m : AX} {p2 spos apos cpos : Pos}
theorem se_slCount (hu : X.A.units + 64 < cLine) (se : SE X W e me) (sl : SP0 X W lo ml) (sh : SP0 X W hi mh) (sa : SA X W [a] m)
    (hbase : attributeBase (.Subscript e (.Slice lo hi none p2) spos) "count" X.env (eval (.Subscript e (.Slice lo hi none p2) spos) X.env) = eval (.Subscript e (.Slice lo hi none p2) spos) X.env := by rfl)
    (hfew : ((backTo cpos (starEach [a] X.env)).all (fun x => !x.1) && (backToKw cpos (keywordEach [] X.env)).all (fun x => x.1.isSome)
      && decide ([a].length + ([] : List Keyword).length + (if ([] : List Keyword).isEmpty then 0 else 1) < 30)) = true := by rfl)
    (hline : (apos.endLine == cpos.line) = true := by rfl) (hs : starEach [a] X.env = (false, eval a X.env) :: starEach [] X.env := by rfl) (hplain : (backTo cpos (starEach [] X.env)).any (·.1) = false := by rfl) :
    SE X W (.Call (.Attribute (.Subscript e (.Slice lo hi none p2) spos) "count" apos) [a] [] cpos) (eSlC me ml mh m) := by
  obtain ⟨te, pe, qe⟩ := se.ex
  obtain ⟨tl, pl, ql⟩ := sl.ex
  obtain ⟨th, ph, qh⟩ := sh.ex
  obtain ⟨ta, pa, qa⟩ := sa.ex
  refine ⟨_, pe_slCount hu pe pl ph pa hbase hfew hline hs hplain, fun F γ ω ρ h σ H Q R C p => ?_⟩
  unfold eSlC at p
  rw [post_bind] at p
  refine qe F γ ω ρ h σ H _ R C (post_mono p (fun x h1 p1 γ1 H1 v L1 C1 r1 => ?_) (fun _ _ x => x))
  rw [post_bind] at p1
  refine ql F γ1 ω ρ h1 σ H1 _ (R.el L1) C1 (post_mono p1 (fun l h2 p2 γ2 H2 L2 C2 => ?_) (fun _ _ z => z.el L1))
  rw [post_bind] at p2
  have L12 := L1.trans L2
  refine qh F γ2 ω ρ h2 σ H2 _ (R.el L12) C2 (post_mono p2 (fun u h3 p3 γ3 H3 L3 C3 => ?_) (fun _ _ z => z.el L12))
  have L13 := L12.trans L3
  have r3 := (r1.later L2.later).later L3.later
  rw [post_bind] at p3
  cases x with
  | tup xs =>
    cases r3 with
    | tup s3 g3 =>
      rename_i b vs
      by_cases hc : HT.sIx xs.length 0 l = 0 ∧ HT.sIx xs.length xs.length u = xs.length
      · rw [show slcT l u (.tup xs) = M.stuck from if_pos hc] at p3; exact p3.elim
      · rw [show slcT l u (.tup xs) = pure () from if_neg hc] at p3
        refine ⟨_, vs, rfl, s3, by rw [← g3.length]; exact hc, fun p np => ?_⟩
        have p3 : post ((m ρ >>= fun ys => slcM l u (.tup xs) ys) h3) (OutV X.K F ω γ H Q) (OutX X.K W X.mg γ H σ) := p3
        rw [post_bind] at p3
        have L3n : EL γ3 H3 γ3 (upd H3 p (.tup (cutV vs l u))) := EL.new np
        have L1n := L13.trans L3n
        refine qa F γ3 ω ρ h3 σ _ _ (R.el L1n) (C3.new np) (post_mono p3 (fun ys h4 p4 γ4 H4 us L4 C4 r4 => ?_) (fun _ _ z => z.el L1n))
        match ys, r4, p4 with
        | [.int k], r4, p4 =>
          obtain ⟨z, ez, o⟩ := oM_post p4
          obtain ⟨w, rfl, rw'⟩ := r4.one
          cases rw'
          cases ei : intsOf (cutP xs l u) with
          | none => rw [ei] at ez; cases ez
          | some ns =>
            rw [ei] at ez
            cases ez
            have rT : Rep X.K (Ob F γ3 ω) γ3 (upd H3 p (.tup (cutV vs l u))) (.tup (cutP xs l u)) (.ref p) := .tup (.inl (.inl upd_same)) ((g3.cut l u).later L3n.later)
            have rT4 := rT.later L4.later
            rw [intsOf_eq ei] at rT4
            cases rT4 with
            | tup s4 g4 =>
              have := g4.ints
              subst this
              exact ⟨k, ns, rfl, s4, (OutV.el (L1n.trans L4) o).now C4 (.int _)⟩
        | [], r4, p4 => exact p4.elim
        | [.non], r4, p4 => exact p4.elim
        | [.bl _], r4, p4 => exact p4.elim
        | [.str _], r4, p4 => exact p4.elim
        | [.tup _], r4, p4 => exact p4.elim
        | [.lst _], r4, p4 => exact p4.elim
        | [.cell _], r4, p4 => exact p4.elim
        | [.scr _], r4, p4 => exact p4.elim
        | y :: z :: r, r4, p4 => cases y <;> exact p4.elim
  | _ => exact p3.elim
end
section
variable {ρ : En} {h : Hc} {xs : List PV} {Q : PQ PV}
theorem slc_wp {i : Nat} {K k : Int} (hK : 0 ≤ K) (hl : K < xs.length) (he : ρ[i]? = some (.va (.tup xs))) {ns : List Int} (hn : cutP xs none (some K) = ns.map PV.int) (q : Q (.int ((ns.countP fun y => decide (y = k) : Nat) : Int)) h) :
    wp (eSlC (eV i) noP (soP (eC (.int K))) (aCons (eC (.int k)) aNil) ρ) h Q := by
  have e1 : HT.sIx xs.length 0 none = 0 := rfl
  have e2 : HT.sIx xs.length xs.length (some K) = K.toNat := by
    obtain ⟨k, rfl⟩ : ∃ k : Nat, K = k := ⟨K.toNat, by omega⟩
    rw [HT.sIx_nat]
    show min k xs.length = k
    omega
  unfold eSlC
  rw [wp_bind]
  have hv : ∀ {Q : PQ PV}, Q (.tup xs) h → wp (eV i ρ) h Q := fun {Q} q => by
    unfold eV; rw [he]; exact q
  refine hv ?_
  rw [wp_bind]
  have hno : ∀ {Q : PQ (Option Int)}, Q none h → wp (noP ρ) h Q := fun q => q
  refine hno ?_
  rw [wp_bind]
  have hso : ∀ {Q : PQ (Option Int)}, Q (some K) h → wp (soP (eC (.int K)) ρ) h Q := fun q => q
  refine hso ?_
  rw [wp_bind, show slcT none (some K) (.tup xs) = pure () from if_neg (by rw [e1, e2]; omega)]
  show wp (aCons (eC (.int k)) aNil ρ >>= fun ys => slcM none (some K) (.tup xs) ys) h Q
  rw [wp_bind]
  show wp (slcM none (some K) (.tup xs) [.int k]) h Q
  show wp (oM ((intsOf (cutP xs none (some K))).bind fun ns => some (PV.int ((ns.countP fun y => decide (y = k) : Nat) : Int)))) h Q
  rw [hn, intsOf_map]
  exact q
end
/-! ### the text of k38: what each def does -/
noncomputable section
abbrev c_LISTED : Int := 2000
abbrev c_ITEMS : Int := 400
abbrev c_GREAT : Int := 999
abbrev N_u_law_cup : List Str := ["script", "cell"]
def m_u_law_cup : SX :=
  (sSeq (sSet 1 (eF (f1 pAbs) (aCons (eBin pIx (eBin pAdd (eOfO (oList (eV 0))) (eOfO (oLst (aCons (eC (.int 0)) aNil)))) (eC (.int 0))) aNil)))
  (sRet (eCell (oLst (aCons (eIfX (tOf (eBin pGe (eV 1) (eBin pPow (eC (.int 10)) (eC (.int 18))))) (eBin pDiv (eV 1) (eC (.int 1231))) (eC (.int 0))) (aCons (eBin pAdd (eBin pMod (eF (f1 pInt) (aCons (eBin pAdd (eBin pMul (eV 1) (eC (.int 1531))) (eC (.int 9639))) aNil)) (eC (.int 2077509143))) (eC (.int 1089))) aNil))))))
def g_u_law_cup : List PV → M PV := runFn 2 m_u_law_cup
abbrev N_u_law_roll : List Str := ["cup", "many", "found", "deep"]
def m_u_law_roll : SX :=
  (sSeq (sIf (tOf (eBin pGt (eBin pIx (eV 0) (eC (.int 0))) (eC (.int 0)))) (sSeq (sSet 2 (eBin pMod (eF (f1 pInt) (aCons (eBin pIx (eV 0) (eC (.int 0))) aNil)) (eV 1)))
  (sSeq (sSetC 0 (eC (.int 0)) (eBin pDiv (eBin pIx (eV 0) (eC (.int 0))) (eV 1)))
  (sRet (eV 2)))) sNop)
  (sSeq (sSetC 0 (eC (.int 1)) (eBin pMod (eF (f1 pInt) (aCons (eBin pAdd (eBin pMul (eBin pIx (eV 0) (eC (.int 1))) (eC (.int 36797))) (eC (.int 11821))) aNil)) (eC (.int 2147483423))))
  (sSeq (sSet 3 (eBin pMod (eF (f1 pInt) (aCons (eBin pMul (eBin pIx (eV 0) (eC (.int 1))) (eBin pAdd (eBin pIx (eV 0) (eC (.int 1))) (eC (.int 1561)))) aNil)) (eC (.int 2147483587))))
  (sRet (eBin pMod (eF (f1 pInt) (aCons (eBin pDiv (eV 3) (eC (.int 1949))) aNil)) (eV 1))))))
def g_u_law_roll : List PV → M PV := runFn 4 m_u_law_roll
abbrev N_u_law_same : List Str := ["told", "due", "at"]
def m_u_law_same (g : List PV → M PV) : SX :=
  (sSeq (sIf (tOrX (tOf (eIsa .tuple (eV 1))) (tOf (eIsa .list (eV 1)))) (sSeq (sIf (tOrX (tOf (eBin pNe (eIsa .tuple (eV 0)) (eIsa .tuple (eV 1)))) (tOrX (tOf (eBin pNe (eIsa .list (eV 0)) (eIsa .list (eV 1)))) (tOf (eBin pNe (eF (f1 pLen) (aCons (eV 0) aNil)) (eF (f1 pLen) (aCons (eV 1) aNil)))))) (sRet (eC (.bl false))) sNop)
  (sRet (eBin pEq (eOfO (oComp [2] (iR1 (aCons (eF (f1 pLen) (aCons (eV 1) aNil)) aNil)) (gN 2) (tNotX (tOf (eCall g 2 (aCons (eBin pIx (eV 0) (eV 2)) (aCons (eBin pIx (eV 1) (eV 2)) aNil))))) (eC (.int 1)))) (eOfO (oLst aNil))))) sNop)
  (sSeq (sIf (tOf (eBin pIsN (eV 1) (eC .non))) (sRet (eBin pIsN (eV 0) (eC .non))) sNop)
  (sSeq (sIf (tOf (eIsa .bool (eV 1))) (sRet (eIfX (tOf (eV 1)) (eBin pIsN (eV 0) (eC (.bl true))) (eBin pIsN (eV 0) (eC (.bl false))))) sNop)
  (sSeq (sIf (tOf (eIsa .int (eV 1))) (sRet (eAndX (eIsa .int (eV 0)) (eAndX (eNotX (eIsa .bool (eV 0))) (eBin pEq (eF (f1 pInt) (aCons (eV 0) aNil)) (eV 1))))) sNop)
  (sRet (eAndX (eIsa .str (eV 0)) (eBin pEq (eF (f1 pStr) (aCons (eV 0) aNil)) (eV 1))))))))
def g_u_law_same : Nat → List PV → M PV
  | 0 => fun _ => M.stuck
  | n + 1 => runFn 3 (m_u_law_same (g_u_law_same n))
abbrev N_u_law_some : List Str := ["cup", "things"]
def m_u_law_some : SX :=
  (sRet (eBin pIx (eV 1) (eCall g_u_law_roll 2 (aCons (eV 0) (aCons (eF (f1 pLen) (aCons (eV 1) aNil)) aNil)))))
def g_u_law_some : List PV → M PV := runFn 2 m_u_law_some
abbrev N_fits_whole : List Str := ["value", "low", "high"]
def m_fits_whole : SX :=
  (sRet (eAndX (eIsa .int (eV 0)) (eAndX (eNotX (eIsa .bool (eV 0))) (eChain pLe pLe (eV 1) (eV 0) (eV 2)))))
def g_fits_whole : List PV → M PV := runFn 3 m_fits_whole
abbrev N_is_tuple_of : List Str := ["value", "least", "most"]
def m_is_tuple_of : SX :=
  (sRet (eAndX (eIsa .tuple (eV 0)) (eChain pLe pLe (eV 1) (eF (f1 pLen) (aCons (eV 0) aNil)) (eV 2))))
def g_is_tuple_of : List PV → M PV := runFn 3 m_is_tuple_of
abbrev N_kolakoski_in : List Str := ["one", "other", "many", "found", "at", "letter"]
def m_kolakoski_in : SX :=
  (sSeq (sPar3 3 4 5 (mCons (owM (oLst aNil)) (mCons (vaM (eC (.int 0))) (mCons (vaM (eV 0)) mNil))))
  (sSeq (sWhile (tBor 3 (tOf (eBin pLt (eF (f1 pLen) (aCons (eV 3) aNil)) (eV 2)))) (sSeq (sAugL 3 (eBin pMul (eOfO (oLst (aCons (eV 5) aNil))) (eIfX (tBor 3 (tOf (eBin pLt (eV 4) (eF (f1 pLen) (aCons (eV 3) aNil))))) (eBor 3 (eBin pIx (eV 3) (eV 4))) (eV 5))))
  (sPar 4 5 (mCons (vaM (eBin pAdd (eV 4) (eC (.int 1)))) (mCons (vaM (eIfX (tOf (eBin pEq (eV 5) (eV 0))) (eV 1) (eV 0))) mNil)))))
  (sFrz 3 (sRet (eSl (eV 3) noP (soP (eV 2)))))))
def g_kolakoski_in : List PV → M PV := runFn 6 m_kolakoski_in
abbrev N_need_whole : List Str := ["value", "low", "high"]
def m_need_whole : SX :=
  (sIf (tNotX (tOf (eCall g_fits_whole 3 (aCons (eV 0) (aCons (eV 1) (aCons (eV 2) aNil)))))) (fun _ => M.stuck) sNop)
def g_need_whole : List PV → M PV := runFn 3 m_need_whole
abbrev N_need_letters : List Str := ["one", "other"]
def m_need_letters : SX :=
  (sSeq (sDrop (eCall g_need_whole 3 (aCons (eV 0) (aCons (eC (.int 1)) (aCons (eC (.int 9)) aNil)))))
  (sSeq (sDrop (eCall g_need_whole 3 (aCons (eV 1) (aCons (eC (.int 1)) (aCons (eC (.int 9)) aNil)))))
  (sIf (tOf (eBin pEq (eV 0) (eV 1))) (fun _ => M.stuck) sNop)))
def g_need_letters : List PV → M PV := runFn 2 m_need_letters
abbrev N_is_kolakoski : List Str := ["one", "other", "value", "item"]
def m_is_kolakoski : SX :=
  (sSeq (sDrop (eCall g_need_letters 2 (aCons (eV 0) (aCons (eV 1) aNil))))
  (sSeq (sIf (tOrX (tNotX (tOf (eCall g_is_tuple_of 3 (aCons (eV 2) (aCons (eC (.int 0)) (aCons (eC (.int c_LISTED)) aNil)))))) (tNotX (tOf (eF (f1 pAll) (aCons (eOfO (oComp [3] (iSeq (eV 2)) (gN 3) tTrue (eCall g_fits_whole 3 (aCons (eV 3) (aCons (eC (.int 1)) (aCons (eC (.int 9)) aNil)))))) aNil))))) (sRet (eC (.bl false))) sNop)
  (sRet (eBin pEq (eOfO (oList (eV 2))) (eCall g_kolakoski_in 3 (aCons (eV 0) (aCons (eV 1) (aCons (eF (f1 pLen) (aCons (eV 2) aNil)) aNil))))))))
def g_is_kolakoski : List PV → M PV := runFn 4 m_is_kolakoski
abbrev N_kolakoski : List Str := ["one", "other", "many"]
def m_kolakoski : SX :=
  (sSeq (sDrop (eCall g_need_letters 2 (aCons (eV 0) (aCons (eV 1) aNil))))
  (sSeq (sDrop (eCall g_need_whole 3 (aCons (eV 2) (aCons (eC (.int 1)) (aCons (eC (.int c_LISTED)) aNil)))))
  (sRet (eF (f1 pTuple) (aCons (eCall g_kolakoski_in 3 (aCons (eV 0) (aCons (eV 1) (aCons (eV 2) aNil)))) aNil)))))
def g_kolakoski : List PV → M PV := runFn 3 m_kolakoski
abbrev N_fits_row : List Str := ["value", "item"]
def m_fits_row : SX :=
  (sRet (eAndX (eCall g_is_tuple_of 3 (aCons (eV 0) (aCons (eC (.int 1)) (aCons (eC (.int c_ITEMS)) aNil)))) (eF (f1 pAll) (aCons (eOfO (oComp [1] (iSeq (eV 0)) (gN 1) tTrue (eCall g_fits_whole 3 (aCons (eV 1) (aCons (eC (.int 0)) (aCons (eC (.int c_GREAT)) aNil)))))) aNil))))
def g_fits_row : List PV → M PV := runFn 2 m_fits_row
abbrev N_need_row : List Str := ["row"]
def m_need_row : SX :=
  (sIf (tNotX (tOf (eCall g_fits_row 1 (aCons (eV 0) aNil)))) (fun _ => M.stuck) sNop)
def g_need_row : List PV → M PV := runFn 1 m_need_row
abbrev N_runs_in : List Str := ["row", "found", "item"]
def m_runs_in : SX :=
  (sSeq (sOwn 1 (oLst aNil))
  (sSeq (sFor (iSeq (eV 0)) (gN 2) (sIf (tBor 1 (tAndX (tOf (eBin pNe (eV 1) (eOfO (oLst aNil)))) (tOf (eBin pEq (eBin pIx (eBin pIx (eV 1) (eUn pNeg (eC (.int 1)))) (eC (.int 1))) (eV 2))))) (sSetI 1 (eUn pNeg (eC (.int 1))) (eBor 1 (eTup (aCons (eBin pAdd (eBin pIx (eBin pIx (eV 1) (eUn pNeg (eC (.int 1)))) (eC (.int 0))) (eC (.int 1))) (aCons (eV 2) aNil))))) (sMeth 1 apF (aCons (eTup (aCons (eC (.int 1)) (aCons (eV 2) aNil))) aNil))))
  (sFrz 1 (sRet (eV 1)))))
def g_runs_in : List PV → M PV := runFn 3 m_runs_in
abbrev N_run_lengths : List Str := ["row", "many", "item"]
def m_run_lengths : SX :=
  (sSeq (sDrop (eCall g_need_row 1 (aCons (eV 0) aNil)))
  (sRet (eF (f1 pTuple) (aCons (eOfO (oComp [1, 2] (iSeq (eCall g_runs_in 1 (aCons (eV 0) aNil))) (gT (gConsX (gN 1) (gConsX (gN 2) gNilX))) tTrue (eV 1))) aNil))))
def g_run_lengths : List PV → M PV := runFn 3 m_run_lengths
abbrev N_law : List Str := ["script", "cup", "turn", "one", "other", "many", "row", "item", "lengths", "at", "values", "longer", "value", "odd", "good", "told"]
def m_law : SX :=
  (sSeq (sSet 1 (eCall g_u_law_cup 1 (aCons (eV 0) aNil)))
  (sSeq (sFor (iR1 (aCons (eC (.int 6)) aNil)) (gN 2) (sSeq (sParT [3, 4] (mCons (vaM (eBin pAdd (eC (.int 1)) (eCall g_u_law_roll 2 (aCons (eV 1) (aCons (eC (.int 9)) aNil))))) (mCons (vaM (eBin pAdd (eC (.int 1)) (eCall g_u_law_roll 2 (aCons (eV 1) (aCons (eC (.int 8)) aNil))))) mNil)))
  (sSeq (sSet 4 (eBin pAdd (eV 4) (eIfX (tOf (eBin pGe (eV 4) (eV 3))) (eC (.int 1)) (eC (.int 0)))))
  (sSeq (sSet 5 (eBin pAdd (eC (.int 1)) (eCall g_u_law_roll 2 (aCons (eV 1) (aCons (eCall g_u_law_some 2 (aCons (eV 1) (aCons (eOfO (oLst (aCons (eC (.int 6)) (aCons (eC (.int 60)) (aCons (eC (.int 390)) aNil))))) aNil))) aNil)))))
  (sSeq (sSet 6 (eCall g_kolakoski 3 (aCons (eV 3) (aCons (eV 4) (aCons (eV 5) aNil)))))
  (sSeq (sIf (tOrX (tNotX (tOf (eIsa .tuple (eV 6)))) (tOrX (tOf (eBin pNe (eF (f1 pLen) (aCons (eV 6) aNil)) (eV 5))) (tOrX (tOf (eBin pNe (eBin pIx (eV 6) (eC (.int 0))) (eV 3))) (tOf (eBin pNe (eOfO (oComp [7] (iSeq (eV 6)) (gN 7) (tOf (eBin pNotIn (eV 7) (eTup (aCons (eV 3) (aCons (eV 4) aNil))))) (eV 7))) (eOfO (oLst aNil))))))) (sRet (eC (.bl false))) sNop)
  (sSeq (sIf (tOf (eBin pNe (eOfO (oComp [7] (iSeq (eV 6)) (gN 7) (tOrX (tOf (eIsa .bool (eV 7))) (tNotX (tOf (eIsa .int (eV 7))))) (eV 7))) (eOfO (oLst aNil)))) (sRet (eC (.bl false))) sNop)
  (sSeq (sSet 8 (eCall g_run_lengths 1 (aCons (eV 6) aNil)))
  (sSeq (sIf (tOrX (tOf (eBin pNe (eSl (eV 8) noP (soP (eUn pNeg (eC (.int 1))))) (eSl (eV 6) noP (soP (eBin pSub (eF (f1 pLen) (aCons (eV 8) aNil)) (eC (.int 1))))))) (tAndX (tOf (eBin pLe (eF (f1 pLen) (aCons (eV 8) aNil)) (eV 5))) (tOf (eBin pGt (eBin pIx (eV 8) (eUn pNeg (eC (.int 1)))) (eBin pIx (eV 6) (eBin pSub (eF (f1 pLen) (aCons (eV 8) aNil)) (eC (.int 1)))))))) (sRet (eC (.bl false))) sNop)
  (sSeq (sIf (tOf (eBin pNe (eSl (eCall g_kolakoski 3 (aCons (eV 3) (aCons (eV 4) (aCons (eF (f2 pMin2) (aCons (eC (.int 2000)) (aCons (eBin pAdd (eV 5) (eC (.int 5))) aNil))) aNil)))) noP (soP (eV 5))) (eV 6))) (sRet (eC (.bl false))) sNop)
  (sSeq (sSet 9 (eCall g_u_law_roll 2 (aCons (eV 1) (aCons (eV 5) aNil))))
  (sSeq (sSet 10 (eOfO (oLst (aCons (eV 6) (aCons (eTup aNil) (aCons (eOfO (oList (eV 6))) (aCons (eSl (eV 6) (soP (eC (.int 1))) noP) (aCons (eBin pAdd (eV 6) (eTup (aCons (eV 3) aNil))) (aCons (eBin pAdd (eV 6) (eTup (aCons (eV 4) aNil))) (aCons (eC .non) (aCons (eC (.int 5)) (aCons (eC (.str "122")) aNil))))))))))))
  (sSeq (sSet 11 (eCall g_kolakoski 3 (aCons (eV 3) (aCons (eV 4) (aCons (eBin pAdd (eV 5) (eC (.int 1))) aNil)))))
  (sFor (iSeq (eBin pAdd (eV 10) (eOfO (oComp [13] (iSeq (eTup (aCons (eC (.int 0)) (aCons (eV 3) (aCons (eV 4) (aCons (eC (.int 10)) (aCons (eC (.bl true)) (aCons (eC .non) (aCons (eC (.str "1")) (aCons (eTup (aCons (eC (.int 1)) aNil)) aNil)))))))))) (gN 13) tTrue (eBin pAdd (eBin pAdd (eSl (eV 6) noP (soP (eV 9))) (eTup (aCons (eV 13) aNil))) (eSl (eV 6) (soP (eBin pAdd (eV 9) (eC (.int 1)))) noP)))))) (gN 12) (sSeq (sSet 14 (eAndX (eIsa .tuple (eV 12)) (eBin pEq (eOfO (oComp [7] (iSeq (eV 12)) (gN 7) (tOrX (tOf (eIsa .bool (eV 7))) (tNotX (tOf (eIsa .int (eV 7))))) (eV 7))) (eOfO (oLst aNil)))))
  (sIf (tNotX (tOf (eCall (g_u_law_same 8) 2 (aCons (eCall g_is_kolakoski 3 (aCons (eV 3) (aCons (eV 4) (aCons (eV 12) aNil)))) (aCons (eAndX (eV 14) (eBin pEq (eV 12) (eSl (eV 11) noP (soP (eF (f1 pLen) (aCons (eV 12) aNil)))))) aNil))))) (sRet (eC (.bl false))) sNop))))))))))))))))
  (sSeq (sSet 6 (eCall g_kolakoski 3 (aCons (eC (.int 1)) (aCons (eC (.int 2)) (aCons (eC (.int 2000)) aNil)))))
  (sSeq (sSet 15 (eTup (aCons (eSl (eV 6) noP (soP (eC (.int 20)))) (aCons (eCall g_is_kolakoski 3 (aCons (eC (.int 1)) (aCons (eC (.int 2)) (aCons (eV 6) aNil)))) (aCons (eCall g_is_kolakoski 3 (aCons (eC (.int 2)) (aCons (eC (.int 1)) (aCons (eSl (eV 6) (soP (eC (.int 1))) noP) aNil)))) (aCons (eSlC (eV 6) noP (soP (eC (.int 100))) (aCons (eC (.int 1)) aNil)) (aCons (eSlC (eV 6) noP (soP (eC (.int 1000))) (aCons (eC (.int 1)) aNil)) aNil)))))))
  (sRet (eCall (g_u_law_same 8) 2 (aCons (eV 15) (aCons (eTup (aCons (eTup (aCons (eC (.int 1)) (aCons (eC (.int 2)) (aCons (eC (.int 2)) (aCons (eC (.int 1)) (aCons (eC (.int 1)) (aCons (eC (.int 2)) (aCons (eC (.int 1)) (aCons (eC (.int 2)) (aCons (eC (.int 2)) (aCons (eC (.int 1)) (aCons (eC (.int 2)) (aCons (eC (.int 2)) (aCons (eC (.int 1)) (aCons (eC (.int 1)) (aCons (eC (.int 2)) (aCons (eC (.int 1)) (aCons (eC (.int 1)) (aCons (eC (.int 2)) (aCons (eC (.int 2)) (aCons (eC (.int 1)) aNil))))))))))))))))))))) (aCons (eC (.bl true)) (aCons (eC (.bl true)) (aCons (eC (.int 49)) (aCons (eC (.int 502)) aNil)))))) aNil))))))))
def g_law : List PV → M PV := runFn 16 m_law
end
/-! ### .. and that it does so -/
def topS (i : Nat) : Stmt := PySem.Challenge.pw_wholeyard_k38_whole_rows_that_tell_their.main.body.getD i (.Pass ⟨0, 0, 0, 0⟩)
abbrev s_u_law_cup : Stmt := topS 21
theorem sc_u_law_cup : FnScope N_u_law_cup ["script"] (defScope s_u_law_cup) := ⟨rfl, rfl, rfl, by decide +kernel, rfl, by decide +kernel, by decide +kernel⟩
abbrev s_u_law_roll : Stmt := topS 22
theorem sc_u_law_roll : FnScope N_u_law_roll ["cup", "many"] (defScope s_u_law_roll) := ⟨rfl, rfl, rfl, by decide +kernel, rfl, by decide +kernel, by decide +kernel⟩
abbrev s_u_law_same : Stmt := topS 24
theorem sc_u_law_same : FnScope N_u_law_same ["told", "due"] (defScope s_u_law_same) := ⟨rfl, rfl, rfl, by decide +kernel, rfl, by decide +kernel, by decide +kernel⟩
abbrev s_u_law_some : Stmt := topS 23
theorem sc_u_law_some : FnScope N_u_law_some ["cup", "things"] (defScope s_u_law_some) := ⟨rfl, rfl, rfl, by decide +kernel, rfl, by decide +kernel, by decide +kernel⟩
abbrev s_fits_whole : Stmt := topS 5
theorem sc_fits_whole : FnScope N_fits_whole ["value", "low", "high"] (defScope s_fits_whole) := ⟨rfl, rfl, rfl, by decide +kernel, rfl, by decide +kernel, by decide +kernel⟩
abbrev s_is_tuple_of : Stmt := topS 6
theorem sc_is_tuple_of : FnScope N_is_tuple_of ["value", "least", "most"] (defScope s_is_tuple_of) := ⟨rfl, rfl, rfl, by decide +kernel, rfl, by decide +kernel, by decide +kernel⟩
abbrev s_kolakoski_in : Stmt := topS 15
theorem sc_kolakoski_in : FnScope N_kolakoski_in ["one", "other", "many"] (defScope s_kolakoski_in) := ⟨rfl, rfl, rfl, by decide +kernel, rfl, by decide +kernel, by decide +kernel⟩
abbrev s_need_whole : Stmt := topS 7
theorem sc_need_whole : FnScope N_need_whole ["value", "low", "high"] (defScope s_need_whole) := ⟨rfl, rfl, rfl, by decide +kernel, rfl, by decide +kernel, by decide +kernel⟩
abbrev s_need_letters : Stmt := topS 16
theorem sc_need_letters : FnScope N_need_letters ["one", "other"] (defScope s_need_letters) := ⟨rfl, rfl, rfl, by decide +kernel, rfl, by decide +kernel, by decide +kernel⟩
abbrev s_is_kolakoski : Stmt := topS 18
theorem sc_is_kolakoski : FnScope N_is_kolakoski ["one", "other", "value"] (defScope s_is_kolakoski) := ⟨rfl, rfl, rfl, by decide +kernel, rfl, by decide +kernel, by decide +kernel⟩
abbrev s_kolakoski : Stmt := topS 17
theorem sc_kolakoski : FnScope N_kolakoski ["one", "other", "many"] (defScope s_kolakoski) := ⟨rfl, rfl, rfl, by decide +kernel, rfl, by decide +kernel, by decide +kernel⟩
abbrev s_fits_row : Stmt := topS 12
theorem sc_fits_row : FnScope N_fits_row ["value"] (defScope s_fits_row) := ⟨rfl, rfl, rfl, by decide +kernel, rfl, by decide +kernel, by decide +kernel⟩
abbrev s_need_row : Stmt := topS 13
theorem sc_need_row : FnScope N_need_row ["row"] (defScope s_need_row) := ⟨rfl, rfl, rfl, by decide +kernel, rfl, by decide +kernel, by decide +kernel⟩
abbrev s_runs_in : Stmt := topS 14
theorem sc_runs_in : FnScope N_runs_in ["row"] (defScope s_runs_in) := ⟨rfl, rfl, rfl, by decide +kernel, rfl, by decide +kernel, by decide +kernel⟩
abbrev s_run_lengths : Stmt := topS 19
theorem sc_run_lengths : FnScope N_run_lengths ["row"] (defScope s_run_lengths) := ⟨rfl, rfl, rfl, by decide +kernel, rfl, by decide +kernel, by decide +kernel⟩
abbrev s_law : Stmt := topS 29
theorem sc_law : FnScope N_law ["script"] (defScope s_law) := ⟨rfl, rfl, rfl, by decide +kernel, rfl, by decide +kernel, by decide +kernel⟩
structure Facts (K : PySem.W.Frag) (mg : Str → Option Value) : Prop where
  z_abs : mg "abs" = none
  z_all : mg "all" = none
  z_bool : mg "bool" = none
  z_int : mg "int" = none
  z_isinstance : mg "isinstance" = none
  z_len : mg "len" = none
  z_list : mg "list" = none
  z_min : mg "min" = none
  z_range : mg "range" = none
  z_str : mg "str" = none
  z_tuple : mg "tuple" = none
  c_LISTED : ∃ t, mg "LISTED" = some (.int c_LISTED t)
  c_ITEMS : ∃ t, mg "ITEMS" = some (.int c_ITEMS t)
  c_GREAT : ∃ t, mg "GREAT" = some (.int c_GREAT t)
  a_u_law_cup : DA K mg "_law_cup" s_u_law_cup ["script"]
  a_u_law_roll : DA K mg "_law_roll" s_u_law_roll ["cup", "many"]
  a_u_law_same : DA K mg "_law_same" s_u_law_same ["told", "due"]
  a_u_law_some : DA K mg "_law_some" s_u_law_some ["cup", "things"]
  a_fits_whole : DA K mg "fits_whole" s_fits_whole ["value", "low", "high"]
  a_is_tuple_of : DA K mg "is_tuple_of" s_is_tuple_of ["value", "least", "most"]
  a_kolakoski_in : DA K mg "kolakoski_in" s_kolakoski_in ["one", "other", "many"]
  a_need_whole : DA K mg "need_whole" s_need_whole ["value", "low", "high"]
  a_need_letters : DA K mg "need_letters" s_need_letters ["one", "other"]
  a_is_kolakoski : DA K mg "is_kolakoski" s_is_kolakoski ["one", "other", "value"]
  a_kolakoski : DA K mg "kolakoski" s_kolakoski ["one", "other", "many"]
  a_fits_row : DA K mg "fits_row" s_fits_row ["value"]
  a_need_row : DA K mg "need_row" s_need_row ["row"]
  a_runs_in : DA K mg "runs_in" s_runs_in ["row"]
  a_run_lengths : DA K mg "run_lengths" s_run_lengths ["row"]
  a_law : DA K mg "law" s_law ["script"]
section
variable {P : Program} {w : World} {K : PySem.W.Frag} {mg : Str → Option Value} {base : Heap}
theorem D_u_law_cup (T : Facts K mg) : Def1 P w K mg base 1 "_law_cup" 1 g_u_law_cup := def_of T.a_u_law_cup sc_u_law_cup rfl fun f cdv A outer s H E hr =>
  (sss_cons (ss_set 1 sc_u_law_cup.nd (se_callB call_abs c_abs (nox_f1 nox_abs) (by rfl) T.z_abs (by rfl) (sa_cons (se_ix (se_op op_addP s_add nox_add (so_list (by rfl) T.z_list (by rfl) (se_var 0)).val (so_lst (sa_cons se_int sa_nil)).val) se_int) sa_nil)))
  (sss_one (ss_ret (so_lst (sa_cons (se_if (st_cmp op_ge s_cmpI nox_cmpI (se_var 1) (se_op op_pow s_pow nox_pow se_int se_int)) (se_op op_divP s_div nox_div (se_var 1) se_int) se_int) (sa_cons (se_op op_addP s_add nox_add (se_op op_modN s_mod nox_mod (se_callTy call_int1 c_int (nox_f1 nox_int) (by rfl) T.z_int (by rfl) (sa_cons (se_op op_addP s_add nox_add (se_op op_mulP s_mul nox_mul (se_var 1) se_int) se_int) sa_nil)) se_int) se_int) sa_nil))).cell)))
theorem D_u_law_roll (T : Facts K mg) : Def1 P w K mg base 1 "_law_roll" 2 g_u_law_roll := def_of T.a_u_law_roll sc_u_law_roll rfl fun f cdv A outer s H E hr =>
  (sss_cons (ss_if (st_cmp op_gt s_cmpI nox_cmpI (se_ix (se_var 0) se_int) se_int) (sss_cons (ss_set 2 sc_u_law_roll.nd (se_op op_modN s_mod nox_mod (se_callTy call_int1 c_int (nox_f1 nox_int) (by rfl) T.z_int (by rfl) (sa_cons (se_ix (se_var 0) se_int) sa_nil)) (se_var 1)))
  (sss_cons (ss_setC 0 (se_op op_divP s_div nox_div (se_ix (se_var 0) se_int) (se_var 1)) se_int)
  (sss_one (ss_ret (se_var 2))))) sss_nil)
  (sss_cons (ss_setC 0 (se_op op_modN s_mod nox_mod (se_callTy call_int1 c_int (nox_f1 nox_int) (by rfl) T.z_int (by rfl) (sa_cons (se_op op_addP s_add nox_add (se_op op_mulP s_mul nox_mul (se_ix (se_var 0) se_int) se_int) se_int) sa_nil)) se_int) se_int)
  (sss_cons (ss_set 3 sc_u_law_roll.nd (se_op op_modN s_mod nox_mod (se_callTy call_int1 c_int (nox_f1 nox_int) (by rfl) T.z_int (by rfl) (sa_cons (se_op op_mulP s_mul nox_mul (se_ix (se_var 0) se_int) (se_op op_addP s_add nox_add (se_ix (se_var 0) se_int) se_int)) sa_nil)) se_int))
  (sss_one (ss_ret (se_op op_modN s_mod nox_mod (se_callTy call_int1 c_int (nox_f1 nox_int) (by rfl) T.z_int (by rfl) (sa_cons (se_op op_divP s_div nox_div (se_var 3) se_int) sa_nil)) (se_var 1)))))))
theorem D_u_law_same (T : Facts K mg) : ∀ n : Nat, Def1 P w K mg base (0 + n) "_law_same" 2 (g_u_law_same n)
  | 0 => def_stuck T.a_u_law_same
  | n + 1 => by
    have D := D_u_law_same T n
    exact def_of T.a_u_law_same sc_u_law_same rfl fun f cdv A outer s H E hr => (sss_cons (ss_if (sw_or (SE.st (se_isa .tuple (by rfl) T.z_isinstance (by rfl) T.z_tuple (by rfl) (se_var 1) (by rfl))) (sw_or1 (SE.st (se_isa .list (by rfl) T.z_isinstance (by rfl) T.z_list (by rfl) (se_var 1) (by rfl))))).st (sss_cons (ss_if (sw_or (st_cmp (op_neD hr.units) s_ne nox_ne (se_isa .tuple (by rfl) T.z_isinstance (by rfl) T.z_tuple (by rfl) (se_var 0) (by rfl)) (se_isa .tuple (by rfl) T.z_isinstance (by rfl) T.z_tuple (by rfl) (se_var 1) (by rfl))) (sw_or (st_cmp (op_neD hr.units) s_ne nox_ne (se_isa .list (by rfl) T.z_isinstance (by rfl) T.z_list (by rfl) (se_var 0) (by rfl)) (se_isa .list (by rfl) T.z_isinstance (by rfl) T.z_list (by rfl) (se_var 1) (by rfl))) (sw_or1 (st_cmp (op_neD hr.units) s_ne nox_ne (se_callB call_lenP c_len (nox_f1 nox_len) (by rfl) T.z_len (by rfl) (sa_cons (se_var 0) sa_nil)) (se_callB call_lenP c_len (nox_f1 nox_len) (by rfl) T.z_len (by rfl) (sa_cons (se_var 1) sa_nil)))))).st (sss_one (ss_ret se_bl)) sss_nil)
  (sss_one (ss_ret (se_cmp (op_eqD hr.units) s_eq nox_eq (so_comp (own := [("at", 2)]) rfl sc_u_law_same.nd (si_range1 (by rfl) T.z_range (sa_cons (se_callB call_lenP c_len (nox_f1 nox_len) (by rfl) T.z_len (by rfl) (sa_cons (se_var 1) sa_nil)) sa_nil)) (blkOk_by (N := N_u_law_same) (sc := defScope s_u_law_same) (by decide +kernel)) (by decide) (fun _ _ _ _ _ => (sg_name 2 sc_u_law_same.nd)) (fun _ _ _ _ _ => (sc_one (st_not (SE.st (se_callD D hr (Nat.le_refl _) takes0 (sa_cons (se_ix (se_var 0) (se_var 2)) (sa_cons (se_ix (se_var 1) (se_var 2)) sa_nil))))))) (fun _ _ _ _ _ => se_int)).val (so_lst sa_nil).val)))) sss_nil)
  (sss_cons (ss_if (st_cmp op_isP s_is nox_is (se_var 1) se_non) (sss_one (ss_ret (se_cmp op_isP s_is nox_is (se_var 0) se_non))) sss_nil)
  (sss_cons (ss_if (SE.st (se_isa .bool (by rfl) T.z_isinstance (by rfl) T.z_bool (by rfl) (se_var 1) (by rfl))) (sss_one (ss_ret (se_if (SE.st (se_var 1)) (se_cmp op_isP s_is nox_is (se_var 0) se_bl) (se_cmp op_isP s_is nox_is (se_var 0) se_bl)))) sss_nil)
  (sss_cons (ss_if (SE.st (se_isa .int (by rfl) T.z_isinstance (by rfl) T.z_int (by rfl) (se_var 1) (by rfl))) (sss_one (ss_ret (se_and (se_isa .int (by rfl) T.z_isinstance (by rfl) T.z_int (by rfl) (se_var 0) (by rfl)) (se_and (se_not (se_isa .bool (by rfl) T.z_isinstance (by rfl) T.z_bool (by rfl) (se_var 0) (by rfl))) (se_one (se_cmp (op_eqD hr.units) s_eq nox_eq (se_callTy call_int1 c_int (nox_f1 nox_int) (by rfl) T.z_int (by rfl) (sa_cons (se_var 0) sa_nil)) (se_var 1))))))) sss_nil)
  (sss_one (ss_ret (se_and (se_isa .str (by rfl) T.z_isinstance (by rfl) T.z_str (by rfl) (se_var 0) (by rfl)) (se_one (se_cmp (op_eqD hr.units) s_eq nox_eq (se_callTy call_strX c_str (nox_f1 nox_str) (by rfl) T.z_str (by rfl) (sa_cons (se_var 0) sa_nil)) (se_var 1))))))))))
theorem D_u_law_some (T : Facts K mg) : Def1 P w K mg base 2 "_law_some" 2 g_u_law_some := def_of T.a_u_law_some sc_u_law_some rfl fun f cdv A outer s H E hr =>
  (sss_one (ss_ret (se_ix (se_var 1) (se_callD (D_u_law_roll T) hr (by decide) (takes_of rfl rfl rfl rfl) (sa_cons (se_var 0) (sa_cons (se_callB call_lenP c_len (nox_f1 nox_len) (by rfl) T.z_len (by rfl) (sa_cons (se_var 1) sa_nil)) sa_nil))))))
theorem D_fits_whole (T : Facts K mg) : Def1 P w K mg base 1 "fits_whole" 3 g_fits_whole := def_of T.a_fits_whole sc_fits_whole rfl fun f cdv A outer s H E hr =>
  (sss_one (ss_ret (se_and (se_isa .int (by rfl) T.z_isinstance (by rfl) T.z_int (by rfl) (se_var 0) (by rfl)) (se_and (se_not (se_isa .bool (by rfl) T.z_isinstance (by rfl) T.z_bool (by rfl) (se_var 0) (by rfl))) (se_one (se_chain op_le op_le s_cmpI s_cmpI nox_cmpI nox_cmpI (se_var 1) (se_var 0) (se_var 2)))))))
theorem D_is_tuple_of (T : Facts K mg) : Def1 P w K mg base 1 "is_tuple_of" 3 g_is_tuple_of := def_of T.a_is_tuple_of sc_is_tuple_of rfl fun f cdv A outer s H E hr =>
  (sss_one (ss_ret (se_and (se_isa .tuple (by rfl) T.z_isinstance (by rfl) T.z_tuple (by rfl) (se_var 0) (by rfl)) (se_one (se_chain op_le op_le s_cmpI s_cmpI nox_cmpI nox_cmpI (se_var 1) (se_callB call_lenP c_len (nox_f1 nox_len) (by rfl) T.z_len (by rfl) (sa_cons (se_var 0) sa_nil)) (se_var 2))))))
theorem D_kolakoski_in (T : Facts K mg) : Def1 P w K mg base 1 "kolakoski_in" 3 g_kolakoski_in := def_of T.a_kolakoski_in sc_kolakoski_in rfl fun f cdv A outer s H E hr =>
  (sss_cons (ss_par3 3 4 5 rfl sc_kolakoski_in.nd (sm_cons (so_lst sa_nil).sv (sm_cons (SE.sv se_int) (sm_cons (SE.sv (se_var 0)) sm_nil))))
  (sss_cons (ss_while (passes_of rfl) (ST.bor 3 (st_cmp op_lt s_cmpI nox_cmpI (se_callB call_lenP c_len (nox_f1 nox_len) (by rfl) T.z_len (by rfl) (sa_cons (se_var 3) sa_nil)) (se_var 2))) (sss_cons (ss_augL 3 sc_kolakoski_in.nd (se_op op_mulP s_mul nox_mul (so_lst (sa_cons (se_var 5) sa_nil)).val (se_if (ST.bor 3 (st_cmp op_lt s_cmpI nox_cmpI (se_var 4) (se_callB call_lenP c_len (nox_f1 nox_len) (by rfl) T.z_len (by rfl) (sa_cons (se_var 3) sa_nil)))) (SE.bor 3 (se_ix (se_var 3) (se_var 4))) (se_var 5))))
  (sss_one (ss_par 4 5 rfl sc_kolakoski_in.nd (sm_cons (SE.sv (se_op op_addP s_add nox_add (se_var 4) se_int)) (sm_cons (SE.sv (se_if (st_cmp (op_eqD hr.units) s_eq nox_eq (se_var 5) (se_var 0)) (se_var 1) (se_var 0))) sm_nil))))))
  (sss_one (SS.frz 3 (ss_ret (se_slice (se_var 3) sp_none (sp_some (se_var 2))))))))
theorem D_need_whole (T : Facts K mg) : Def1 P w K mg base 2 "need_whole" 3 g_need_whole := def_of T.a_need_whole sc_need_whole rfl fun f cdv A outer s H E hr =>
  (sss_one (ss_if (st_not (SE.st (se_callD (D_fits_whole T) hr (by decide) (takes_of rfl rfl rfl rfl) (sa_cons (se_var 0) (sa_cons (se_var 1) (sa_cons (se_var 2) sa_nil)))))) sss_never sss_nil))
theorem D_need_letters (T : Facts K mg) : Def1 P w K mg base 3 "need_letters" 2 g_need_letters := def_of T.a_need_letters sc_need_letters rfl fun f cdv A outer s H E hr =>
  (sss_cons (ss_drop (se_callD (D_need_whole T) hr (by decide) (takes_of rfl rfl rfl rfl) (sa_cons (se_var 0) (sa_cons se_int (sa_cons se_int sa_nil)))))
  (sss_cons (ss_drop (se_callD (D_need_whole T) hr (by decide) (takes_of rfl rfl rfl rfl) (sa_cons (se_var 1) (sa_cons se_int (sa_cons se_int sa_nil)))))
  (sss_one (ss_if (st_cmp (op_eqD hr.units) s_eq nox_eq (se_var 0) (se_var 1)) sss_never sss_nil))))
theorem D_is_kolakoski (T : Facts K mg) : Def1 P w K mg base 4 "is_kolakoski" 3 g_is_kolakoski := def_of T.a_is_kolakoski sc_is_kolakoski rfl fun f cdv A outer s H E hr =>
  (sss_cons (ss_drop (se_callD (D_need_letters T) hr (by decide) (takes_of rfl rfl rfl rfl) (sa_cons (se_var 0) (sa_cons (se_var 1) sa_nil))))
  (sss_cons (ss_if (sw_or (st_not (SE.st (se_callD (D_is_tuple_of T) hr (by decide) (takes_of rfl rfl rfl rfl) (sa_cons (se_var 2) (sa_cons se_int (sa_cons (se_gintE T.c_LISTED) sa_nil)))))) (sw_or1 (st_not (SE.st (se_callB (cr_all rfl) c_all (nox_f1 nox_all) (by rfl) T.z_all (by rfl) (sa_cons (so_comp (own := [("item", 3)]) rfl sc_is_kolakoski.nd (si_seq (se_var 2)) (blkOk_by (N := N_is_kolakoski) (sc := defScope s_is_kolakoski) (by decide +kernel)) (by decide) (fun _ _ _ _ _ => (sg_name 3 sc_is_kolakoski.nd)) (fun _ _ _ _ _ => sc_nil) (fun _ _ _ _ _ => (se_callD (D_fits_whole T) hr (by decide) takes0 (sa_cons (se_var 3) (sa_cons se_int (sa_cons se_int sa_nil)))))).val sa_nil)))))).st (sss_one (ss_ret se_bl)) sss_nil)
  (sss_one (ss_ret (se_cmp (op_eqD hr.units) s_eq nox_eq (so_list (by rfl) T.z_list (by rfl) (se_var 2)).val (se_callD (D_kolakoski_in T) hr (by decide) (takes_of rfl rfl rfl rfl) (sa_cons (se_var 0) (sa_cons (se_var 1) (sa_cons (se_callB call_lenP c_len (nox_f1 nox_len) (by rfl) T.z_len (by rfl) (sa_cons (se_var 2) sa_nil)) sa_nil)))))))))
theorem D_kolakoski (T : Facts K mg) : Def1 P w K mg base 4 "kolakoski" 3 g_kolakoski := def_of T.a_kolakoski sc_kolakoski rfl fun f cdv A outer s H E hr =>
  (sss_cons (ss_drop (se_callD (D_need_letters T) hr (by decide) (takes_of rfl rfl rfl rfl) (sa_cons (se_var 0) (sa_cons (se_var 1) sa_nil))))
  (sss_cons (ss_drop (se_callD (D_need_whole T) hr (by decide) (takes_of rfl rfl rfl rfl) (sa_cons (se_var 2) (sa_cons se_int (sa_cons (se_gintE T.c_LISTED) sa_nil)))))
  (sss_one (ss_ret (se_callTy call_tuple_of c_tuple (nox_f1 nox_tuple) (by rfl) T.z_tuple (by rfl) (sa_cons (se_callD (D_kolakoski_in T) hr (by decide) (takes_of rfl rfl rfl rfl) (sa_cons (se_var 0) (sa_cons (se_var 1) (sa_cons (se_var 2) sa_nil)))) sa_nil))))))
theorem D_fits_row (T : Facts K mg) : Def1 P w K mg base 2 "fits_row" 1 g_fits_row := def_of T.a_fits_row sc_fits_row rfl fun f cdv A outer s H E hr =>
  (sss_one (ss_ret (se_and (se_callD (D_is_tuple_of T) hr (by decide) (takes_of rfl rfl rfl rfl) (sa_cons (se_var 0) (sa_cons se_int (sa_cons (se_gintE T.c_ITEMS) sa_nil)))) (se_one (se_callB (cr_all rfl) c_all (nox_f1 nox_all) (by rfl) T.z_all (by rfl) (sa_cons (so_comp (own := [("item", 1)]) rfl sc_fits_row.nd (si_seq (se_var 0)) (blkOk_by (N := N_fits_row) (sc := defScope s_fits_row) (by decide +kernel)) (by decide) (fun _ _ _ _ _ => (sg_name 1 sc_fits_row.nd)) (fun _ _ _ _ _ => sc_nil) (fun _ _ _ _ _ => (se_callD (D_fits_whole T) hr (by decide) takes0 (sa_cons (se_var 1) (sa_cons se_int (sa_cons (se_gintE T.c_GREAT) sa_nil)))))).val sa_nil))))))
theorem D_need_row (T : Facts K mg) : Def1 P w K mg base 3 "need_row" 1 g_need_row := def_of T.a_need_row sc_need_row rfl fun f cdv A outer s H E hr =>
  (sss_one (ss_if (st_not (SE.st (se_callD (D_fits_row T) hr (by decide) (takes_of rfl rfl rfl rfl) (sa_cons (se_var 0) sa_nil)))) sss_never sss_nil))
theorem D_runs_in (T : Facts K mg) : Def1 P w K mg base 1 "runs_in" 1 g_runs_in := def_of T.a_runs_in sc_runs_in rfl fun f cdv A outer s H E hr =>
  (sss_cons (ss_own 1 sc_runs_in.nd (so_lst sa_nil))
  (sss_cons (ss_for (passes_of rfl) rfl (si_seq (se_var 0)) (sg_name 2 sc_runs_in.nd) (sss_one (ss_if (ST.bor 1 (sw_and (st_cmp (op_neD hr.units) s_ne nox_ne (se_var 1) (so_lst sa_nil).val) (sw_and1 (st_cmp (op_eqD hr.units) s_eq nox_eq (se_ix (se_ix (se_var 1) (se_un un_neg s_neg nox_neg se_int)) se_int) (se_var 2)))).st) (sss_one (ss_setI 1 (SE.bor 1 (se_tup (sa_cons (se_op op_addP s_add nox_add (se_ix (se_ix (se_var 1) (se_un un_neg s_neg nox_neg se_int)) se_int) se_int) (sa_cons (se_var 2) sa_nil)))) (se_un un_neg s_neg nox_neg se_int))) (sss_one (ss_meth 1 PySem.F.plainAttrs_list PySem.F.slot_list_append PySem.F.type_list_append mt_append o_append (sa_cons (se_tup (sa_cons se_int (sa_cons (se_var 2) sa_nil))) sa_nil))))) nx_n)
  (sss_one (SS.frz 1 (ss_ret (se_var 1))))))
theorem D_run_lengths (T : Facts K mg) : Def1 P w K mg base 4 "run_lengths" 1 g_run_lengths := def_of T.a_run_lengths sc_run_lengths rfl fun f cdv A outer s H E hr =>
  (sss_cons (ss_drop (se_callD (D_need_row T) hr (by decide) (takes_of rfl rfl rfl rfl) (sa_cons (se_var 0) sa_nil)))
  (sss_one (ss_ret (se_callTy call_tuple_of c_tuple (nox_f1 nox_tuple) (by rfl) T.z_tuple (by rfl) (sa_cons (so_comp (own := [("many", 1), ("item", 2)]) rfl sc_run_lengths.nd (si_seq (se_callD (D_runs_in T) hr (by decide) (takes_of rfl rfl rfl rfl) (sa_cons (se_var 0) sa_nil))) (blkOk_by (N := N_run_lengths) (sc := defScope s_run_lengths) (by decide +kernel)) (by decide) (fun _ _ _ _ _ => (sg_tup rfl (sgs_cons (sg_name 1 sc_run_lengths.nd) (sgs_cons (sg_name 2 sc_run_lengths.nd) sgs_nil)) rfl rfl (len_cons (len_cons len_nil)))) (fun _ _ _ _ _ => sc_nil) (fun _ _ _ _ _ => (se_var 1))).val sa_nil)))))
theorem D_law (T : Facts K mg) : ∀ (f : Addr) (cdv : Value) (A : Around) (outer : List Env) (s : Shared) (H : Hp) (E : XK), Room 8 (A.deeper (envOfC "law" (defScope s_law) s.heap.objs.size f cdv)) →
      SSs (cxOf (L2.CX P w) P w K mg base N_law "law" (defScope s_law) f cdv A outer s H E) (fun cls d _ H => E cls d H) (defBody s_law) m_law := fun f cdv A outer s H E hr =>
  (sss_cons (ss_set 1 sc_law.nd (se_callD (D_u_law_cup T) hr (by decide) (takes_of rfl rfl rfl rfl) (sa_cons (se_var 0) sa_nil)))
  (sss_cons (ss_for (passes_of rfl) rfl (si_range1 (by rfl) T.z_range (sa_cons se_int sa_nil)) (sg_name 2 sc_law.nd) (sss_cons (ss_parT rfl (sm_cons (SE.sv (se_op op_addP s_add nox_add se_int (se_callD (D_u_law_roll T) hr (by decide) (takes_of rfl rfl rfl rfl) (sa_cons (se_var 1) (sa_cons se_int sa_nil))))) (sm_cons (SE.sv (se_op op_addP s_add nox_add se_int (se_callD (D_u_law_roll T) hr (by decide) (takes_of rfl rfl rfl rfl) (sa_cons (se_var 1) (sa_cons se_int sa_nil))))) sm_nil)) (sns_cons 3 sc_law.nd (sns_cons 4 sc_law.nd sns_nil)))
  (sss_cons (ss_set 4 sc_law.nd (se_op op_addP s_add nox_add (se_var 4) (se_if (st_cmp op_ge s_cmpI nox_cmpI (se_var 4) (se_var 3)) se_int se_int)))
  (sss_cons (ss_set 5 sc_law.nd (se_op op_addP s_add nox_add se_int (se_callD (D_u_law_roll T) hr (by decide) (takes_of rfl rfl rfl rfl) (sa_cons (se_var 1) (sa_cons (se_callD (D_u_law_some T) hr (by decide) (takes_of rfl rfl rfl rfl) (sa_cons (se_var 1) (sa_cons (so_lst (sa_cons se_int (sa_cons se_int (sa_cons se_int sa_nil)))).val sa_nil))) sa_nil)))))
  (sss_cons (ss_set 6 sc_law.nd (se_callD (D_kolakoski T) hr (by decide) (takes_of rfl rfl rfl rfl) (sa_cons (se_var 3) (sa_cons (se_var 4) (sa_cons (se_var 5) sa_nil)))))
  (sss_cons (ss_if (sw_or (st_not (SE.st (se_isa .tuple (by rfl) T.z_isinstance (by rfl) T.z_tuple (by rfl) (se_var 6) (by rfl)))) (sw_or (st_cmp (op_neD hr.units) s_ne nox_ne (se_callB call_lenP c_len (nox_f1 nox_len) (by rfl) T.z_len (by rfl) (sa_cons (se_var 6) sa_nil)) (se_var 5)) (sw_or (st_cmp (op_neD hr.units) s_ne nox_ne (se_ix (se_var 6) se_int) (se_var 3)) (sw_or1 (st_cmp (op_neD hr.units) s_ne nox_ne (so_comp (own := [("item", 7)]) rfl sc_law.nd (si_seq (se_var 6)) (blkOk_by (N := N_law) (sc := defScope s_law) (by decide +kernel)) (by decide) (fun _ _ _ _ _ => (sg_name 7 sc_law.nd)) (fun _ _ _ _ _ => (sc_one (st_cmp (op_notInX (room65 hr)) s_notIn nox_in (se_var 7) (se_tup (sa_cons (se_var 3) (sa_cons (se_var 4) sa_nil)))))) (fun _ _ _ _ _ => (se_var 7))).val (so_lst sa_nil).val))))).st (sss_one (ss_ret se_bl)) sss_nil)
  (sss_cons (ss_if (st_cmp (op_neD hr.units) s_ne nox_ne (so_comp (own := [("item", 7)]) rfl sc_law.nd (si_seq (se_var 6)) (blkOk_by (N := N_law) (sc := defScope s_law) (by decide +kernel)) (by decide) (fun _ _ _ _ _ => (sg_name 7 sc_law.nd)) (fun _ _ _ _ _ => (sc_one (sw_or (SE.st (se_isa .bool (by rfl) T.z_isinstance (by rfl) T.z_bool (by rfl) (se_var 7) (by rfl))) (sw_or1 (st_not (SE.st (se_isa .int (by rfl) T.z_isinstance (by rfl) T.z_int (by rfl) (se_var 7) (by rfl)))))).st)) (fun _ _ _ _ _ => (se_var 7))).val (so_lst sa_nil).val) (sss_one (ss_ret se_bl)) sss_nil)
  (sss_cons (ss_set 8 sc_law.nd (se_callD (D_run_lengths T) hr (by decide) (takes_of rfl rfl rfl rfl) (sa_cons (se_var 6) sa_nil)))
  (sss_cons (ss_if (sw_or (st_cmp (op_neD hr.units) s_ne nox_ne (se_slice (se_var 8) sp_none (sp_some (se_un un_neg s_neg nox_neg se_int))) (se_slice (se_var 6) sp_none (sp_some (se_op op_sub s_sub nox_sub (se_callB call_lenP c_len (nox_f1 nox_len) (by rfl) T.z_len (by rfl) (sa_cons (se_var 8) sa_nil)) se_int)))) (sw_or1 (sw_and (st_cmp op_le s_cmpI nox_cmpI (se_callB call_lenP c_len (nox_f1 nox_len) (by rfl) T.z_len (by rfl) (sa_cons (se_var 8) sa_nil)) (se_var 5)) (sw_and1 (st_cmp op_gt s_cmpI nox_cmpI (se_ix (se_var 8) (se_un un_neg s_neg nox_neg se_int)) (se_ix (se_var 6) (se_op op_sub s_sub nox_sub (se_callB call_lenP c_len (nox_f1 nox_len) (by rfl) T.z_len (by rfl) (sa_cons (se_var 8) sa_nil)) se_int))))).st)).st (sss_one (ss_ret se_bl)) sss_nil)
  (sss_cons (ss_if (st_cmp (op_neD hr.units) s_ne nox_ne (se_slice (se_callD (D_kolakoski T) hr (by decide) (takes_of rfl rfl rfl rfl) (sa_cons (se_var 3) (sa_cons (se_var 4) (sa_cons (se_callB (call_min2 rfl) c_min2 (nox_f2 nox_min2) (by rfl) T.z_min (by rfl) (sa_cons se_int (sa_cons (se_op op_addP s_add nox_add (se_var 5) se_int) sa_nil))) sa_nil)))) sp_none (sp_some (se_var 5))) (se_var 6)) (sss_one (ss_ret se_bl)) sss_nil)
  (sss_cons (ss_set 9 sc_law.nd (se_callD (D_u_law_roll T) hr (by decide) (takes_of rfl rfl rfl rfl) (sa_cons (se_var 1) (sa_cons (se_var 5) sa_nil))))
  (sss_cons (ss_set 10 sc_law.nd (so_lst (sa_cons (se_var 6) (sa_cons (se_tup sa_nil) (sa_cons (so_list (by rfl) T.z_list (by rfl) (se_var 6)).val (sa_cons (se_slice (se_var 6) (sp_some se_int) sp_none) (sa_cons (se_op op_addP s_add nox_add (se_var 6) (se_tup (sa_cons (se_var 3) sa_nil))) (sa_cons (se_op op_addP s_add nox_add (se_var 6) (se_tup (sa_cons (se_var 4) sa_nil))) (sa_cons se_non (sa_cons se_int (sa_cons se_str sa_nil)))))))))).val)
  (sss_cons (ss_set 11 sc_law.nd (se_callD (D_kolakoski T) hr (by decide) (takes_of rfl rfl rfl rfl) (sa_cons (se_var 3) (sa_cons (se_var 4) (sa_cons (se_op op_addP s_add nox_add (se_var 5) se_int) sa_nil)))))
  (sss_one (ss_for (passes_of rfl) rfl (si_seq (se_op op_addP s_add nox_add (se_var 10) (so_comp (own := [("odd", 13)]) rfl sc_law.nd (si_seq (se_tup (sa_cons se_int (sa_cons (se_var 3) (sa_cons (se_var 4) (sa_cons se_int (sa_cons se_bl (sa_cons se_non (sa_cons se_str (sa_cons (se_tup (sa_cons se_int sa_nil)) sa_nil)))))))))) (blkOk_by (N := N_law) (sc := defScope s_law) (by decide +kernel)) (by decide) (fun _ _ _ _ _ => (sg_name 13 sc_law.nd)) (fun _ _ _ _ _ => sc_nil) (fun _ _ _ _ _ => (se_op op_addP s_add nox_add (se_op op_addP s_add nox_add (se_slice (se_var 6) sp_none (sp_some (se_var 9))) (se_tup (sa_cons (se_var 13) sa_nil))) (se_slice (se_var 6) (sp_some (se_op op_addP s_add nox_add (se_var 9) se_int)) sp_none)))).val)) (sg_name 12 sc_law.nd) (sss_cons (ss_set 14 sc_law.nd (se_and (se_isa .tuple (by rfl) T.z_isinstance (by rfl) T.z_tuple (by rfl) (se_var 12) (by rfl)) (se_one (se_cmp (op_eqD hr.units) s_eq nox_eq (so_comp (own := [("item", 7)]) rfl sc_law.nd (si_seq (se_var 12)) (blkOk_by (N := N_law) (sc := defScope s_law) (by decide +kernel)) (by decide) (fun _ _ _ _ _ => (sg_name 7 sc_law.nd)) (fun _ _ _ _ _ => (sc_one (sw_or (SE.st (se_isa .bool (by rfl) T.z_isinstance (by rfl) T.z_bool (by rfl) (se_var 7) (by rfl))) (sw_or1 (st_not (SE.st (se_isa .int (by rfl) T.z_isinstance (by rfl) T.z_int (by rfl) (se_var 7) (by rfl)))))).st)) (fun _ _ _ _ _ => (se_var 7))).val (so_lst sa_nil).val))))
  (sss_one (ss_if (st_not (SE.st (se_callD (D_u_law_same T 8) hr (by decide) (takes_of rfl rfl rfl rfl) (sa_cons (se_callD (D_is_kolakoski T) hr (by decide) (takes_of rfl rfl rfl rfl) (sa_cons (se_var 3) (sa_cons (se_var 4) (sa_cons (se_var 12) sa_nil)))) (sa_cons (se_and (se_var 14) (se_one (se_cmp (op_eqD hr.units) s_eq nox_eq (se_var 12) (se_slice (se_var 11) sp_none (sp_some (se_callB call_lenP c_len (nox_f1 nox_len) (by rfl) T.z_len (by rfl) (sa_cons (se_var 12) sa_nil))))))) sa_nil))))) (sss_one (ss_ret se_bl)) sss_nil))) nx_n)))))))))))))) nx_n)
  (sss_cons (ss_set 6 sc_law.nd (se_callD (D_kolakoski T) hr (by decide) (takes_of rfl rfl rfl rfl) (sa_cons se_int (sa_cons se_int (sa_cons se_int sa_nil)))))
  (sss_cons (ss_set 15 sc_law.nd (se_tup (sa_cons (se_slice (se_var 6) sp_none (sp_some se_int)) (sa_cons (se_callD (D_is_kolakoski T) hr (by decide) (takes_of rfl rfl rfl rfl) (sa_cons se_int (sa_cons se_int (sa_cons (se_var 6) sa_nil)))) (sa_cons (se_callD (D_is_kolakoski T) hr (by decide) (takes_of rfl rfl rfl rfl) (sa_cons se_int (sa_cons se_int (sa_cons (se_slice (se_var 6) (sp_some se_int) sp_none) sa_nil)))) (sa_cons (se_slCount hr.units (se_var 6) sp_none (sp_some se_int) (sa_cons se_int sa_nil)) (sa_cons (se_slCount hr.units (se_var 6) sp_none (sp_some se_int) (sa_cons se_int sa_nil)) sa_nil)))))))
  (sss_one (ss_ret (se_callD (D_u_law_same T 8) hr (by decide) (takes_of rfl rfl rfl rfl) (sa_cons (se_var 15) (sa_cons (se_tup (sa_cons (se_tup (sa_cons se_int (sa_cons se_int (sa_cons se_int (sa_cons se_int (sa_cons se_int (sa_cons se_int (sa_cons se_int (sa_cons se_int (sa_cons se_int (sa_cons se_int (sa_cons se_int (sa_cons se_int (sa_cons se_int (sa_cons se_int (sa_cons se_int (sa_cons se_int (sa_cons se_int (sa_cons se_int (sa_cons se_int (sa_cons se_int sa_nil))))))))))))))))))))) (sa_cons se_bl (sa_cons se_bl (sa_cons se_int (sa_cons se_int sa_nil)))))) sa_nil)))))))))
theorem law_F (T : Facts K mg) {fa : Addr} (hmg : mg "law" = some (.ref fa)) : ∃ fd : FuncData, (∀ (s : Shared) (u : Value), BindsTo s fd ⟨[u], []⟩ [("script", u)]) ∧
      ∀ base : Heap, K.In base → base.Ns mainGlobals mg → FnOk P w K mg base (L2.CX P w) 9 fa fd ["script"] (spF P K mg 1 g_law) := law_end T.a_law sc_law hmg fun base => D_law T
end
/-- one simp over all steps -/
local macro_rules | `(tactic| bv_omega) => `(tactic| try simp (config := { maxSteps := 1000000, decide := false }) only [w_eV0, w_eVs, w_eC, w_bin, w_KB, w_KB2, w_un, w_KU, w_aNil, w_aCons, w_KA, w_KA2, w_eF, w_KL, w_tOf, w_KT, w_and, w_or, w_not, w_KAnd, w_KOr, w_KNot, w_eAnd, w_eOr, w_eNot, w_eIf, w_KeAnd, w_KeOr, w_KeNot, w_KeIf, w_chain, w_KCh, w_KCh2, w_KCh3, w_tup, w_lst, w_KTup, w_KLst, w_ofO, w_KO, w_isa, w_KIs, w_list, w_iSeq, w_KSql, w_KSqt, w_KSqs, w_r1, w_r2, w_r3, w_KR1, w_KR2, w_slice, w_KSl, w_KSl2, w_KSl3, w_noP, w_soP, w_KPo, w_slt, w_sll, w_sls, w_call, w_KC1, w_KC2, w_KC3, w_KC4, w_KC5, w_cell, w_KCell, w_nop, w_seq, w_KSn, w_KSr, w_KSb, w_KSc, w_if, w_KIf, w_ret, w_KRet, w_retN, w_break, w_cont, w_drop, w_KDrop, w_set, w_KSet, w_setL, w_own, w_KOwn, w_asg, w_KAsg, w_KN, w_gN, w_gT, w_gnil, w_gcons, w_KG, w_for, w_KFor, w_fgbN, w_comp, w_KCo, w_frz, w_par, w_KPar, w_par3, w_KPar3, w_parT, w_KParT, w_saA, w_sa0, w_slv, w_slo, w_mNil, w_mCons, w_KM, w_KM2, w_vaM, w_owM, w_KVa, w_KOw, isOw0, isOws, w_onOw, w_meth, w_KMt, w_KMt2, w_apF, w_setI, w_KSI, w_KSI2, isCe0, isCes, w_setC', w_KSC, w_KSC2, w_augL, w_KAugL, w_KBor, w_KBorO, w_run, w_KEr, w_KEn, w_start, w_addI, w_addL, w_addT, w_subI, w_mulI, w_mulL, w_divI, w_modI, w_powI, w_negI, w_cmpI, w_eq, w_ne, w_ix, w_ixL, w_ixT, w_ixS, w_oM, w_len1, w_lenL, w_lenT, w_lenS, w_absI, w_max2, w_min2, w_intI, w_intB, w_sumT, w_sum, w_tupL, w_tupT, w_tupS, w_strS, w_strI, w_lenZ, w_isB, w_isN, w_notN, eqb_int, eqb_bl, w_LQn, w_LQc, w_LQb, w_LQr, w_KW, w_one, w_KGc, w_KTc, w_KSo, w_tTrue, w_isa_int_non, w_isa_bool_non, w_isa_str_non, w_isa_tuple_non, w_isa_list_non, w_isa_dict_non, w_isa_int_bl, w_isa_bool_bl, w_isa_str_bl, w_isa_tuple_bl, w_isa_list_bl, w_isa_dict_bl, w_isa_int_int, w_isa_bool_int, w_isa_str_int, w_isa_tuple_int, w_isa_list_int, w_isa_dict_int, w_isa_int_str, w_isa_bool_str, w_isa_str_str, w_isa_tuple_str, w_isa_list_str, w_isa_dict_str, w_isa_int_tup, w_isa_bool_tup, w_isa_str_tup, w_isa_tuple_tup, w_isa_list_tup, w_isa_dict_tup, w_isa_int_lst, w_isa_bool_lst, w_isa_str_lst, w_isa_tuple_lst, w_isa_list_lst, w_isa_dict_lst, w_isa_int_scr, w_isa_bool_scr, w_isa_str_scr, w_isa_tuple_scr, w_isa_list_scr, w_isa_dict_scr, w_isa_int_cell, w_isa_bool_cell, w_isa_str_cell, w_isa_tuple_cell, w_isa_list_cell, w_isa_dict_cell, w_size, w_eqb_nil, w_cmpok_int, w_cmpok_bl, w_cmpok_non, w_cmpok_nil, w_ixC0, w_ixC1, w_put0, w_put1, eqb_lst_nil, eqb_tup_nil, eqb_lst_cons, eqb_tup_cons, eqb_self_int, eqb_self_intT, w_allL, w_anyL, w_at0, w_at1, w_at2, w_at3, w_compN, w_compC, w_KCc, w_KCdS, w_KCdN, w_cut3a, w_cut3b, w_cmpok_nilT, w_ib0, w_ib1, w_ibS, w_KBq, w_KBqO, w_tBorF, w_eBorF, w_oBorF, w_flatI, w_flatB, w_flatN, w_frz0, w_frz1, w_frzS, w_zip, w_enum, w_zTT, w_zLL, w_enL, w_enT, w_enS, w_rev, w_revL, w_revS, w_inL, w_inT, w_oRep, w_KRpA, w_KRpB, w_oR2, w_KRA, w_KRBx, w_sort, w_KSort, w_back, w_KBkL, w_KBkS, w_KBkT, w_tIf, w_KTf, w_pop, w_lenSet, w_KLSet, w_notB, w_minP, w_idx, w_KIxA, w_KIxB, w_mulEI, w_mulEL, w_eTR2, w_KTRA, w_KTRB, wipeP, length_rangeP, List.set_cons_zero, List.set_cons_succ, List.map_cons, List.map_nil, List.replicate_succ, List.replicate_zero, List.length_cons, List.length_nil, List.length_map, List.length_append, List.length_replicate, List.cons_append, List.nil_append, Nat.reduceSub, Nat.reduceAdd, decide_eq_true_eq, Bool.false_eq_true, if_true, if_false, Bool.not_true, Bool.not_false, Bool.not_eq_true', decide_eq_false_iff_not, reduceIte, ne_eq, not_false_eq_true, List.all_cons, List.all_nil, Bool.and_self, Bool.and_true, Bool.true_and, and_self, Nat.reduceLT, Nat.reduceLeDiff, Nat.reduceEqDiff, Int.reduceLT, Int.reduceLE, Int.reduceEq, Int.reduceNe, Int.reduceToNat, Int.reduceAdd, Int.reduceSub, Int.reduceMul, and_true, true_and, Bool.true_eq_false, Int.reduceNeg, reduceCtorEq, Bool.or_false, Bool.or_true, Bool.false_or, Bool.true_or, beq_iff_eq, decide_true, decide_false, eq_self])
/-- side goals -/
local macro_rules | `(tactic| subst_eqs) => `(tactic| ((repeat' with_reducible apply And.intro) <;> try (first | assumption | omega | decide | exact ⟨(by omega), (by omega), (by omega)⟩ |  exact mulok_l (by omega) (by omega) | exact mulok_r (by omega) (by omega) | exact mulok_fl (by omega) (by omega) | exact mulok_m (by omega) (by omega) | exact divok_m (by omega) (by omega) | exact divok (by omega) (by omega) (by omega) | exact ⟨(by omega), (by omega)⟩)))
/-! ### the plain law of k38 -/
def ltr (a b j : Nat) : Nat := if j % 2 = 0 then a else b
def kst (a b : Nat) : Nat → List Nat
  | 0 => []
  | j + 1 => kst a b j ++ List.replicate ((kst a b j).getD j (ltr a b j)) (ltr a b j)
def krn (a b j : Nat) : Nat := (kst a b j).getD j (ltr a b j)
theorem kst_succ {a b j : Nat} : kst a b (j + 1) = kst a b j ++ List.replicate (krn a b j) (ltr a b j) := rfl
structure Two (a b : Nat) : Prop where
  a0 : 1 ≤ a
  a1 : a ≤ 9
  b0 : 1 ≤ b
  b1 : b ≤ 9
  ne : a ≠ b
section
variable {a b : Nat}
theorem ltr_or (j : Nat) : ltr a b j = a ∨ ltr a b j = b := by unfold ltr; split <;> simp
theorem kst_mem : ∀ (j x : Nat), x ∈ kst a b j → x = a ∨ x = b
  | 0, x, h => by simp [kst] at h
  | j + 1, x, h => by
    rw [kst_succ] at h
    rcases List.mem_append.mp h with h | h
    · exact kst_mem j x h
    · rw [(List.mem_replicate.mp h).2]; exact ltr_or j
theorem krn_or (j : Nat) : krn a b j = a ∨ krn a b j = b := by
  unfold krn
  rw [List.getD_eq_getElem?_getD]
  by_cases h : j < (kst a b j).length
  · rw [List.getElem?_eq_getElem h]
    exact kst_mem j _ (List.getElem_mem h)
  · rw [List.getElem?_eq_none (by omega)]
    exact ltr_or j
theorem krn_pos (t : Two a b) (j : Nat) : 1 ≤ krn a b j ∧ krn a b j ≤ 9 := by
  have := t.a0; have := t.a1; have := t.b0; have := t.b1
  rcases krn_or (a := a) (b := b) j with h | h <;> rw [h] <;> omega
theorem kst_len {j : Nat} : (kst a b (j + 1)).length = (kst a b j).length + krn a b j := by
  rw [kst_succ, List.length_append, List.length_replicate]
theorem kst_ge (t : Two a b) : ∀ j, j ≤ (kst a b j).length
  | 0 => Nat.zero_le _
  | j + 1 => by
    rw [kst_len]
    have := kst_ge t j
    have := (krn_pos t j).1
    omega
theorem kst_pre (j : Nat) : ∀ k, (kst a b (j + k)).take (kst a b j).length = kst a b j
  | 0 => List.take_length
  | k + 1 => by
    rw [← Nat.add_assoc, kst_succ]
    have ih := kst_pre j k
    have hl : (kst a b j).length ≤ (kst a b (j + k)).length := by
      have := congrArg List.length ih
      rw [List.length_take] at this
      omega
    rw [List.take_append_of_le_length hl, ih]
theorem kst_take {j k m : Nat} (h : m ≤ (kst a b j).length) (hk : j ≤ k) : (kst a b k).take m = (kst a b j).take m := by
  obtain ⟨d, rfl⟩ : ∃ d, k = j + d := ⟨k - j, by omega⟩
  rw [← kst_pre j d, List.take_take, Nat.min_eq_left h]
def krow (a b m : Nat) : List Nat := (kst a b m).take m
theorem krow_eq (t : Two a b) {j m : Nat} (h : m ≤ (kst a b j).length) : (kst a b j).take m = krow a b m := by
  have hm := kst_ge t m
  unfold krow
  rcases Nat.le_total j m with c | c
  · exact (kst_take h c).symm
  · exact kst_take hm c
theorem krow_len (t : Two a b) {m : Nat} : (krow a b m).length = m := by
  unfold krow
  rw [List.length_take]
  have := kst_ge t m
  omega
theorem krow_take (t : Two a b) {m m' : Nat} (h : m ≤ m') : (krow a b m').take m = krow a b m := by
  unfold krow
  rw [List.take_take, Nat.min_eq_left h]
  exact krow_eq t (by have := kst_ge t m'; omega)
theorem krow_mem {m x : Nat} (h : x ∈ krow a b m) : x = a ∨ x = b := kst_mem m x (List.mem_of_mem_take h)
theorem kst_get (t : Two a b) {j k : Nat} (h : j < k) : (kst a b k)[j]? = some (krn a b j) := by
  have h1 : (kst a b (j + 1))[j]? = some (krn a b j) := by
    rw [kst_succ]
    have hl := kst_ge t j
    by_cases c : j < (kst a b j).length
    · rw [List.getElem?_append_left c]
      unfold krn
      rw [List.getD_eq_getElem?_getD, List.getElem?_eq_getElem c]; rfl
    · have e : (kst a b j).length = j := by omega
      have er : krn a b j = ltr a b j := by
        unfold krn
        rw [List.getD_eq_getElem?_getD, List.getElem?_eq_none (by omega)]; rfl
      rw [List.getElem?_append_right (by omega), e, Nat.sub_self, List.getElem?_replicate, if_pos (show 0 < krn a b j from (krn_pos t j).1), er]
  have hl := kst_ge t (j + 1)
  have := kst_take (a := a) (b := b) (j := j + 1) (k := k) (m := j + 1) hl h
  have e1 : ((kst a b k).take (j + 1))[j]? = (kst a b k)[j]? := List.getElem?_take_of_lt (by omega)
  have e2 : ((kst a b (j + 1)).take (j + 1))[j]? = (kst a b (j + 1))[j]? := List.getElem?_take_of_lt (by omega)
  rw [← e1, this, e2, h1]
/-- the last run of a beginning -/
theorem krow_cut (t : Two a b) {m : Nat} (h : 1 ≤ m) : ∃ j n, krow a b m = kst a b j ++ List.replicate n (ltr a b j) ∧ 1 ≤ n ∧ n ≤ krn a b j ∧ j < m ∧ (kst a b j).length + n = m := by
  have ex : ∀ k, m ≤ (kst a b k).length → ∃ j, (kst a b j).length < m ∧ m ≤ (kst a b (j + 1)).length := by
    intro k
    induction k with
    | zero => intro hk; simp [kst] at hk; omega
    | succ k ih =>
      intro hk
      by_cases c : m ≤ (kst a b k).length
      · exact ih c
      · exact ⟨k, by omega, hk⟩
  obtain ⟨j, h1, h2⟩ := ex m (kst_ge t m)
  have hl := kst_len (a := a) (b := b) (j := j)
  have hj := kst_ge t j
  refine ⟨j, m - (kst a b j).length, ?_, by omega, by omega, by omega, by omega⟩
  rw [← krow_eq t h2, kst_succ, List.take_append, List.take_of_length_le (by omega), List.take_replicate, Nat.min_eq_left (by omega)]
end
/-- runs -/
def rnS (l : List (Nat × Nat)) (x : Nat) : List (Nat × Nat) := match l.getLast? with
  | some p => if p.2 = x then l.dropLast ++ [(p.1 + 1, x)] else l ++ [(1, x)]
  | none => [(1, x)]
def runsL (l : List Nat) : List (Nat × Nat) := l.foldl rnS []
theorem rnS_new {l : List (Nat × Nat)} {x : Nat} (h : ∀ p, l.getLast? = some p → p.2 ≠ x) : rnS l x = l ++ [(1, x)] := by
  unfold rnS
  cases e : l.getLast? with
  | none =>
    rw [List.getLast?_eq_none_iff] at e
    rw [e]; rfl
  | some p => show (if p.2 = x then _ else _) = _; rw [if_neg (h p e)]
theorem rnS_more {l : List (Nat × Nat)} {c x : Nat} : rnS (l ++ [(c, x)]) x = l ++ [(c + 1, x)] := by
  unfold rnS
  rw [List.getLast?_append]
  show (if x = x then _ else _) = _
  rw [if_pos rfl, List.dropLast_concat]; rfl
theorem rn_rep {l : List (Nat × Nat)} {x : Nat} (h : ∀ p, l.getLast? = some p → p.2 ≠ x) : ∀ n, (List.replicate (n + 1) x).foldl rnS l = l ++ [(n + 1, x)]
  | 0 => rnS_new h
  | n + 1 => by
    rw [List.replicate_succ', List.foldl_append, rn_rep h n]
    exact rnS_more
section
variable {a b : Nat}
theorem runs_kst (t : Two a b) : ∀ j, runsL (kst a b j) = (List.range j).map fun i => (krn a b i, ltr a b i)
  | 0 => rfl
  | j + 1 => by
    have ih := runs_kst t j
    unfold runsL at ih ⊢
    rw [kst_succ, List.foldl_append, ih]
    obtain ⟨n, hn⟩ : ∃ n, krn a b j = n + 1 := ⟨krn a b j - 1, by have := (krn_pos t j).1; omega⟩
    rw [hn, rn_rep ?_ n, List.range_succ, List.map_append]
    · show _ = _ ++ [(krn a b j, ltr a b j)]
      rw [hn]
    · intro p hp
      cases j with
      | zero => simp at hp
      | succ i =>
        rw [List.range_succ, List.map_append, List.getLast?_append] at hp
        have : p = (krn a b i, ltr a b i) := by simpa using hp.symm
        rw [this]
        show ltr a b i ≠ ltr a b (i + 1)
        have := t.ne
        unfold ltr
        by_cases c : i % 2 = 0
        · rw [if_pos c, if_neg (by omega)]; omega
        · rw [if_neg c, if_pos (by omega)]; omega
theorem runs_cut (t : Two a b) {j n : Nat} (h : 1 ≤ n) : runsL (kst a b j ++ List.replicate n (ltr a b j)) = ((List.range j).map fun i => (krn a b i, ltr a b i)) ++ [(n, ltr a b j)] := by
  have ih := runs_kst t j
  unfold runsL at ih ⊢
  rw [List.foldl_append, ih]
  obtain ⟨n, rfl⟩ : ∃ k, n = k + 1 := ⟨n - 1, by omega⟩
  refine rn_rep ?_ n
  intro p hp
  cases j with
  | zero => simp at hp
  | succ i =>
    rw [List.range_succ, List.map_append, List.getLast?_append] at hp
    have : p = (krn a b i, ltr a b i) := by simpa using hp.symm
    rw [this]
    show ltr a b i ≠ ltr a b (i + 1)
    have := t.ne
    unfold ltr
    by_cases c : i % 2 = 0
    · rw [if_pos c, if_neg (by omega)]; omega
    · rw [if_neg c, if_pos (by omega)]; omega
end
theorem kst_tail : ∀ j, kst 1 2 (j + 1) = 1 :: kst 2 1 j
  | 0 => rfl
  | j + 1 => by
    rw [kst_succ]
    have ih := kst_tail j
    have e1 : ltr 1 2 (j + 1) = ltr 2 1 j := by
      unfold ltr
      by_cases c : j % 2 = 0
      · rw [if_pos c, if_neg (by omega)]
      · rw [if_neg c, if_pos (by omega)]
    have e2 : krn 1 2 (j + 1) = krn 2 1 j := by
      unfold krn
      rw [ih, e1]; rfl
    rw [e1, e2, ih]; rfl
theorem two12 : Two 1 2 := ⟨by decide, by decide, by decide, by decide, by decide⟩
theorem two21 : Two 2 1 := ⟨by decide, by decide, by decide, by decide, by decide⟩
theorem krow_tail (m : Nat) : krow 1 2 (m + 1) = 1 :: krow 2 1 m := by
  have h := kst_ge two21 m
  rw [← krow_eq two12 (j := m + 1) (kst_ge two12 _), kst_tail]; rfl
/-- counting, with what is not read yet -/
def kq : Nat → List Nat → Nat → Nat → Nat → Nat × Nat
  | 0, _, _, len, ones => (len, ones)
  | n + 1, q, l, len, ones => match q with
    | [] => (0, 0)
    | h :: t => kq n (t ++ List.replicate h l) (3 - l) (len + h) (ones + (if l = 1 then h else 0))
theorem kq_eq : ∀ (n j : Nat) (P q : List Nat), kst 1 2 j = P ++ q → P.length = j → q ≠ [] → 2 ≤ j → kq n q (ltr 1 2 j) (kst 1 2 j).length ((kst 1 2 j).countP fun y => decide (y = 1)) = ((kst 1 2 (j + n)).length, (kst 1 2 (j + n)).countP fun y => decide (y = 1))
  | 0, j, P, q, h, hp, hq, hj => rfl
  | n + 1, j, P, q, h, hp, hq, hj => by
    match q, hq with
    | c :: t, _ =>
      have hr : krn 1 2 j = c := by
        unfold krn
        rw [h, List.getD_eq_getElem?_getD, List.getElem?_append_right (by omega), hp, Nat.sub_self]; rfl
      have hs : kst 1 2 (j + 1) = (P ++ [c]) ++ (t ++ List.replicate c (ltr 1 2 j)) := by
        rw [kst_succ, h, hr]; simp
      have e1 : 3 - ltr 1 2 j = ltr 1 2 (j + 1) := by
        unfold ltr
        by_cases c : j % 2 = 0
        · rw [if_pos c, if_neg (by omega)]
        · rw [if_neg c, if_pos (by omega)]
      have e2 : (kst 1 2 (j + 1)).length = (kst 1 2 j).length + c := by rw [kst_len, hr]
      have e3 : ((kst 1 2 (j + 1)).countP fun y => decide (y = 1)) = ((kst 1 2 j).countP fun y => decide (y = 1)) + (if ltr 1 2 j = 1 then c else 0) := by
        rw [kst_succ, List.countP_append, hr, List.countP_replicate]
        congr 1
        by_cases d : ltr 1 2 j = 1
        · simp [d]
        · simp [d]
      show kq n (t ++ List.replicate c (ltr 1 2 j)) (3 - ltr 1 2 j) ((kst 1 2 j).length + c) (((kst 1 2 j).countP fun y => decide (y = 1)) + (if ltr 1 2 j = 1 then c else 0)) = _
      rw [e1, ← e2, ← e3, show j + (n + 1) = j + 1 + n by omega]
      refine kq_eq n (j + 1) (P ++ [c]) (t ++ List.replicate c (ltr 1 2 j)) hs (by rw [List.length_append, hp]; rfl) ?_ (by omega)
      have hc := (krn_pos two12 j).1
      rw [hr] at hc
      obtain ⟨c', rfl⟩ : ∃ k, c = k + 1 := ⟨c - 1, by omega⟩
      simp [List.replicate_succ]
theorem k100 : kq 64 [2] 1 3 1 = (100, 49) := by decide +kernel
theorem k1000 : kq 665 [2] 1 3 1 = (1001, 503) := by decide +kernel
theorem k999 : kq 664 [2] 1 3 1 = (999, 501) := by decide +kernel
theorem kq2 (n : Nat) : kq n [2] 1 3 1 = ((kst 1 2 (2 + n)).length, (kst 1 2 (2 + n)).countP fun y => decide (y = 1)) := kq_eq n 2 [1, 2] [2] rfl rfl (by simp) (by decide)
theorem cnt100 : ((krow 1 2 100).countP fun y => decide (y = 1)) = 49 := by
  have h := kq2 64
  rw [k100] at h
  have h1 : (kst 1 2 66).length = 100 := (congrArg Prod.fst h).symm
  have h2 : ((kst 1 2 66).countP fun y => decide (y = 1)) = 49 := (congrArg Prod.snd h).symm
  rw [← krow_eq two12 (j := 66) (by omega), List.take_of_length_le (by omega), h2]
theorem cnt1000 : ((krow 1 2 1000).countP fun y => decide (y = 1)) = 502 := by
  have h := kq2 664
  rw [k999] at h
  have h1 : (kst 1 2 666).length = 999 := (congrArg Prod.fst h).symm
  have h2 : ((kst 1 2 666).countP fun y => decide (y = 1)) = 501 := (congrArg Prod.snd h).symm
  have g := kq2 665
  rw [k1000] at g
  have g1 : (kst 1 2 667).length = 1001 := (congrArg Prod.fst g).symm
  have er : krn 1 2 666 = 2 := by
    have hk : (kst 1 2 667).length = (kst 1 2 666).length + krn 1 2 666 := kst_len
    rw [g1, h1] at hk
    omega
  rw [← krow_eq two12 (j := 667) (by omega), kst_succ, er, List.take_append, List.take_of_length_le (by omega), h1, List.countP_append, h2]
  rfl
theorem roll_spec {h : Hc} {n : Int} {Q : PQ PV} (hc : Cup h) (h0 : 0 < n) (h1 : n < 2 ^ 64) (q : ∀ r h', 0 ≤ r → r < n → Cup h' → Q (.int r) h') : wp (g_u_law_roll [.cell 0, .int n]) h Q := by
  obtain ⟨a, b, rfl⟩ := hc
  unfold g_u_law_roll m_u_law_roll
  bv_omega
  split
  all_goals subst_eqs
  all_goals exact q _ _ (fmod_nn h0) (fmod_lt h0) cup_pos
theorem cup_spec {ns : List Int} {Q : PQ PV} (hl : ns.length ≤ 63) (q : ∀ h', Cup h' → Q (.cell 0) h') : wp (g_u_law_cup [.scr (ns.map PV.int)]) [] Q := by
  unfold g_u_law_cup m_u_law_cup
  bv_omega
  refine ⟨by omega, ?_⟩
  have e : ∃ i : Int, atI (ns.map PV.int ++ [.int 0]) 0 = some (.int i) := by
    cases ns with
    | nil => exact ⟨0, rfl⟩
    | cons x r => exact ⟨x, by rw [atI_nn (by decide)]; rfl⟩
  obtain ⟨i, e⟩ := e
  rw [e]
  bv_omega
  generalize (if i < 0 then -i else i) = c
  refine ⟨⟨by decide, by decide, by decide⟩, ?_⟩
  split
  all_goals subst_eqs
  all_goals first | rfl | exact q _ cup_pos
theorem some_spec {h : Hc} {xs : List PV} {Q : PQ PV} (hc : Cup h) (h0 : 0 < xs.length) (h1 : xs.length ≤ 1000000) (q : ∀ x h', x ∈ xs → Cup h' → Q x h') : wp (g_u_law_some [.cell 0, .lst xs]) h Q := by
  unfold g_u_law_some m_u_law_some
  bv_omega
  refine roll_spec hc (by omega) (by omega) fun r h' r0 r1 hc' => ?_
  bv_omega
  rw [atI_nn r0, List.getElem?_eq_getElem (by omega)]
  bv_omega
  exact q _ _ (List.getElem_mem _) hc'
theorem some_ints {h : Hc} (ns : List Int) (P : Int → Prop) {Q : PQ PV} (hc : Cup h) (h0 : 0 < ns.length) (h1 : ns.length ≤ 1000000) (hp : ∀ i ∈ ns, P i) (q : ∀ i h', P i → Cup h' → Q (.int i) h') : wp (g_u_law_some [.cell 0, .lst (ns.map .int)]) h Q := by
  refine some_spec hc (by simpa using h0) (by simpa using h1) fun x h' hx hc' => ?_
  obtain ⟨i, hi, rfl⟩ := List.mem_map.mp hx
  exact q i h' (hp i hi) hc'
inductive SmOk : Nat → PV → Prop
  | int {n : Nat} (i : Int) : SmOk (n + 1) (.int i)
  | bl {n : Nat} (i : Bool) : SmOk (n + 1) (.bl i)
  | non {n : Nat} : SmOk (n + 1) .non
  | lst {n : Nat} {xs : List PV} : xs.length ≤ 1000000 → (∀ x ∈ xs, SmOk n x) → SmOk (n + 1) (.lst xs)
  | tup {n : Nat} {xs : List PV} : xs.length ≤ 1000000 → (∀ x ∈ xs, SmOk n x) → SmOk (n + 1) (.tup xs)
theorem same_spec : ∀ (n : Nat) {x : PV} {h : Hc} {Q : PQ PV}, SmOk n x → Q (.bl true) h → wp (g_u_law_same n [x, x]) h Q
  | 0, x, h, Q, o, q => nomatch o
  | n + 1, x, h, Q, o, q => by
    unfold g_u_law_same m_u_law_same
    cases o with
    | int i =>
      bv_omega
      exact q
    | bl b =>
      bv_omega
      cases b <;> (bv_omega; exact q)
    | non =>
      bv_omega
      exact q
    | lst hl hx =>
      rename_i xs
      bv_omega
      refine ⟨bigI (by omega) (by omega), sl_le (by omega), comp_rng (fun _ => none) (fun i hi => ?_) ?_⟩
      · bv_omega
        have e : atI xs (i : Int) = some (xs[i]'(by omega)) := by rw [atI_nn (by omega)]; exact List.getElem?_eq_getElem (by omega)
        rw [e]
        bv_omega
        rw [e]
        bv_omega
        refine same_spec n (hx _ (List.getElem_mem _)) ?_
        bv_omega
      · rw [show (List.range (xs.length : Int).toNat).filterMap (fun _ => (none : Option PV)) = [] by simp]
        bv_omega
        exact q
    | tup hl hx =>
      rename_i xs
      bv_omega
      refine ⟨bigI (by omega) (by omega), sl_le (by omega), comp_rng (fun _ => none) (fun i hi => ?_) ?_⟩
      · bv_omega
        have e : atI xs (i : Int) = some (xs[i]'(by omega)) := by rw [atI_nn (by omega)]; exact List.getElem?_eq_getElem (by omega)
        rw [e]
        bv_omega
        rw [e]
        bv_omega
        refine same_spec n (hx _ (List.getElem_mem _)) ?_
        bv_omega
      · rw [show (List.range (xs.length : Int).toNat).filterMap (fun _ => (none : Option PV)) = [] by simp]
        bv_omega
        exact q
theorem fits_spec {h : Hc} {v : PV} {lo hi : Int} {Q : PQ PV} (q : Q (.bl (fitsB lo hi v)) h) : wp (g_fits_whole [v, .int lo, .int hi]) h Q := by
  unfold g_fits_whole m_fits_whole
  cases v with
  | int a =>
    bv_omega
    by_cases c : lo ≤ a
    · rw [if_pos c]
      have e : fitsB lo hi (.int a) = decide (a ≤ hi) := by simp [fitsB, c]
      rw [← e]; exact q
    · rw [if_neg c]
      have e : fitsB lo hi (.int a) = false := by simp [fitsB, c]
      rw [← e]; exact q
  | _ =>
    bv_omega
    exact q
theorem fitsB_int {lo hi a : Int} : fitsB lo hi (.int a) = decide (lo ≤ a ∧ a ≤ hi) := rfl
theorem need_spec {h : Hc} {a lo hi : Int} {Q : PQ PV} (h1 : lo ≤ a) (h2 : a ≤ hi) (q : Q .non h) : wp (g_need_whole [.int a, .int lo, .int hi]) h Q := by
  unfold g_need_whole m_need_whole
  bv_omega
  refine fits_spec ?_
  rw [show fitsB lo hi (.int a) = true from decide_eq_true ⟨h1, h2⟩]
  bv_omega
  exact q
theorem istup_spec {h : Hc} {v : PV} {lo hi : Int} {Q : PQ PV} (q : Q (.bl (match v with | .tup xs => decide (lo ≤ xs.length ∧ (xs.length : Int) ≤ hi) | _ => false)) h) : wp (g_is_tuple_of [v, .int lo, .int hi]) h Q := by
  unfold g_is_tuple_of m_is_tuple_of
  cases v with
  | tup xs =>
    bv_omega
    by_cases c : lo ≤ (xs.length : Int)
    · rw [if_pos c]
      have e : decide (lo ≤ (xs.length : Int) ∧ (xs.length : Int) ≤ hi) = decide ((xs.length : Int) ≤ hi) := by simp [c]
      rw [← e]; exact q
    · rw [if_neg c]
      have e : decide (lo ≤ (xs.length : Int) ∧ (xs.length : Int) ≤ hi) = false := by simp [c]
      rw [← e]; exact q
  | _ =>
    bv_omega
    exact q
theorem fits_inv {lo hi : Int} {v : PV} (h : fitsB lo hi v = true) : ∃ i, v = .int i ∧ lo ≤ i ∧ i ≤ hi := by
  cases v with
  | int i => exact ⟨i, rfl, of_decide_eq_true h⟩
  | _ => cases h
def intL (ns : List Nat) : List PV := (ns.map fun d : Nat => (d : Int)).map PV.int
theorem intL_app (a b : List Nat) : intL (a ++ b) = intL a ++ intL b := by unfold intL; rw [List.map_append, List.map_append]
theorem intL_len (a : List Nat) : (intL a).length = a.length := by unfold intL; simp
theorem intL_rev (a : List Nat) : (intL a).reverse = intL a.reverse := by unfold intL; rw [← List.map_reverse, ← List.map_reverse]
theorem intL_emp (a : List Nat) : (intL a).isEmpty = a.isEmpty := by cases a <;> rfl
theorem intL_ints {a : List Nat} : ∀ x ∈ intL a, ∃ i, x = .int i := fun x hx => by
  obtain ⟨i, _, rfl⟩ := List.mem_map.mp hx; exact ⟨i, rfl⟩
theorem intL_sm {a : List Nat} {n : Nat} : ∀ x ∈ intL a, SmOk (n + 1) x := fun x hx => by
  obtain ⟨i, _, rfl⟩ := List.mem_map.mp hx; exact .int _
theorem for_idx {b : PV → SX} {Q : PQ Fl} (xs : List PV) (I : Nat → En → Hc → Prop) {ρ : En} {h : Hc} (h0 : I 0 ρ h)
    (hs : ∀ i x ρ h, i < xs.length → xs[i]? = some x → I i ρ h → wp (b x ρ) h (LQ (I (i + 1)) Q)) (he : ∀ ρ h, I xs.length ρ h → Q (.nx ρ) h) : wp (forL b xs ρ) h Q := by
  refine for_inv xs (fun pre _ ρ h => I pre.length ρ h) h0 (fun pre x post ρ h e i => ?_) he
  refine wp_mono (hs pre.length x ρ h (by rw [e]; simp) (by rw [e]; simp) i) fun f h' q => ?_
  cases f with
  | nx ρ' => show I (pre ++ [x]).length ρ' h'; rw [List.length_append]; exact q
  | ct ρ' => show I (pre ++ [x]).length ρ' h'; rw [List.length_append]; exact q
  | bk ρ' => exact q
  | rt v => exact q
theorem intL_at {l : List Nat} {i : Nat} {x : Nat} (h : l[i]? = some x) : atI (intL l) (i : Int) = some (.int (x : Nat)) := by
  rw [atI_nn (by omega)]
  show (intL l)[i]? = _
  unfold intL
  rw [List.getElem?_map, List.getElem?_map, h]; rfl
theorem intL_cut (l : List Nat) (k : Nat) : cutP (intL l) none (some (k : Int)) = intL (l.take k) := by
  unfold cutP
  rw [show HT.sIx (intL l).length 0 none = 0 from rfl, show HT.sIx (intL l).length (intL l).length (some (k : Int)) = min k (intL l).length from HT.sIx_nat .., Nat.sub_zero, List.drop_zero]
  have e : (intL l).take (min k (intL l).length) = (intL l).take k := by
    rw [List.take_eq_take_iff]; omega
  rw [e]
  unfold intL
  rw [List.map_take, List.map_take]
theorem intL_rep (n x : Nat) : intL (List.replicate n x) = List.replicate n (.int (x : Nat)) := by unfold intL; rw [List.map_replicate, List.map_replicate]
theorem rep1 {x : PV} : ∀ k, (List.replicate k [x]).flatten = List.replicate k x
  | 0 => rfl
  | k + 1 => by rw [List.replicate_succ, List.flatten_cons, rep1 k]; rfl
theorem kolin_spec {h : Hc} {a b m : Nat} {Q : PQ PV} (t : Two a b) (hm : m ≤ 2000) (q : Q (.lst (intL (krow a b m))) h) : wp (g_kolakoski_in [.int a, .int b, .int m]) h Q := by
  unfold g_kolakoski_in m_kolakoski_in
  bv_omega
  refine while_inv (fun n ρ h' => ∃ j : Nat, ρ = [.va (.int a), .va (.int b), .va (.int m), .ow (intL (kst a b j)), .va (.int j), .va (.int (ltr a b j))] ∧ h' = h ∧ (kst a b j).length ≤ m + 9 ∧ n = m + 9 - (kst a b j).length) (m + 9) ⟨0, rfl, rfl, by simp [kst], by simp [kst]⟩ ?_
  rintro n ρ h' ⟨j, rfl, rfl, hl, rfl⟩
  bv_omega
  rw [intL_len]
  by_cases c : (kst a b j).length < m
  · rw [if_pos (by omega)]
    have hk := krn_pos t j
    have hj := kst_ge t j
    have hlen := kst_len (a := a) (b := b) (j := j)
    have kk : ∀ r : Nat, r = krn a b j → ∀ z : Nat, z = ltr a b (j + 1) → ∃ m_1, m_1 < m + 9 - (kst a b j).length ∧ ∃ j_1, [Sl.va (PV.int a), Sl.va (PV.int b), Sl.va (PV.int m), Sl.ow (intL (kst a b j) ++ (List.replicate (r : Int).toNat [PV.int (ltr a b j)]).flatten), Sl.va (PV.int ((j : Int) + 1)), Sl.va (PV.int z)] = [Sl.va (PV.int a), Sl.va (PV.int b), Sl.va (PV.int m), Sl.ow (intL (kst a b j_1)), Sl.va (PV.int j_1), Sl.va (PV.int (ltr a b j_1))] ∧ (kst a b j_1).length ≤ m + 9 ∧ m_1 = m + 9 - (kst a b j_1).length := fun r hr z hz => by
      refine ⟨_, ?_, j + 1, ?_, ?_, rfl⟩
      · omega
      · rw [rep1, Int.toNat_natCast, hr, hz, kst_succ, intL_app, intL_rep]; rfl
      · omega
    have hz : (if (ltr a b j : Int) = (a : Int) then b else a) = ltr a b (j + 1) := by
      have := t.ne
      unfold ltr
      by_cases d : j % 2 = 0
      · rw [if_pos d, if_neg (show ¬ (j + 1) % 2 = 0 by omega), if_pos rfl]
      · rw [if_neg d, if_pos (show (j + 1) % 2 = 0 by omega), if_neg (by omega)]
    have fin : ∀ r : Nat, r = krn a b j → ((-2 ^ 63 ≤ (r : Int) ∧ (r : Int) < 2 ^ 63 ∧ 1 * (r : Int).toNat ≤ 16777216) ∧ (intL (kst a b j)).length + (List.replicate (r : Int).toNat [PV.int (ltr a b j)]).flatten.length ≤ 16777216 ∧ if (ltr a b j : Int) = (a : Int) then ∃ m_1, m_1 < m + 9 - (kst a b j).length ∧ ∃ j_1, [Sl.va (PV.int a), Sl.va (PV.int b), Sl.va (PV.int m), Sl.ow (intL (kst a b j) ++ (List.replicate (r : Int).toNat [PV.int (ltr a b j)]).flatten), Sl.va (PV.int ((j : Int) + 1)), Sl.va (PV.int b)] = [Sl.va (PV.int a), Sl.va (PV.int b), Sl.va (PV.int m), Sl.ow (intL (kst a b j_1)), Sl.va (PV.int j_1), Sl.va (PV.int (ltr a b j_1))] ∧ (kst a b j_1).length ≤ m + 9 ∧ m_1 = m + 9 - (kst a b j_1).length else ∃ m_1, m_1 < m + 9 - (kst a b j).length ∧ ∃ j_1, [Sl.va (PV.int a), Sl.va (PV.int b), Sl.va (PV.int m), Sl.ow (intL (kst a b j) ++ (List.replicate (r : Int).toNat [PV.int (ltr a b j)]).flatten), Sl.va (PV.int ((j : Int) + 1)), Sl.va (PV.int a)] = [Sl.va (PV.int a), Sl.va (PV.int b), Sl.va (PV.int m), Sl.ow (intL (kst a b j_1)), Sl.va (PV.int j_1), Sl.va (PV.int (ltr a b j_1))] ∧ (kst a b j_1).length ≤ m + 9 ∧ m_1 = m + 9 - (kst a b j_1).length) := fun r hr => by
      refine ⟨⟨by omega, by omega, by omega⟩, ?_, ?_⟩
      · rw [rep1, Int.toNat_natCast, List.length_replicate, intL_len]; omega
      · split
        · rename_i d
          rw [if_pos d] at hz
          exact kk r hr b hz
        · rename_i d
          rw [if_neg d] at hz
          exact kk r hr a hz
    by_cases c2 : j < (kst a b j).length
    · have hg : (kst a b j)[j]? = some (krn a b j) := by
        unfold krn
        rw [List.getD_eq_getElem?_getD, List.getElem?_eq_getElem c2]; rfl
      rw [if_pos (by omega)]
      bv_omega
      rw [intL_at hg]
      bv_omega
      exact fin _ rfl
    · rw [if_neg (by omega)]
      bv_omega
      have er : ltr a b j = krn a b j := by
        unfold krn
        rw [List.getD_eq_getElem?_getD, List.getElem?_eq_none (by omega)]; rfl
      rw [← intL_len (kst a b j)]
      have := fin _ er
      rw [intL_len] at this ⊢
      exact this
  · rw [if_neg (by omega)]
    bv_omega
    rw [intL_cut, krow_eq t (by omega)]
    exact q
theorem needlet_spec {h : Hc} {a b : Nat} {Q : PQ PV} (t : Two a b) (q : Q .non h) : wp (g_need_letters [.int a, .int b]) h Q := by
  have := t.a0; have := t.a1; have := t.b0; have := t.b1; have := t.ne
  unfold g_need_letters m_need_letters
  bv_omega
  refine need_spec (by omega) (by omega) ?_
  bv_omega
  refine need_spec (by omega) (by omega) ?_
  bv_omega
  rw [if_neg (by omega)]
  exact q
theorem kola_spec {h : Hc} {a b m : Nat} {Q : PQ PV} (t : Two a b) (m0 : 1 ≤ m) (hm : m ≤ 2000) (q : Q (.tup (intL (krow a b m))) h) : wp (g_kolakoski [.int a, .int b, .int m]) h Q := by
  have hL : c_LISTED = 2000 := rfl
  unfold g_kolakoski m_kolakoski
  bv_omega
  refine needlet_spec t ?_
  bv_omega
  refine need_spec (by omega) (by omega) ?_
  bv_omega
  refine kolin_spec t hm ?_
  bv_omega
  exact q
def KoP (a b : Nat) (v : PV) : Prop := ∃ n, n ≤ 2000 ∧ v = .tup (intL (krow a b n))
theorem intL_inj {a b : List Nat} (h : intL a = intL b) : a = b := by
  have e : ∀ l : List Nat, (intL l).map (fun v => match v with | .int i => i.toNat | _ => 0) = l := fun l => by
    unfold intL
    rw [List.map_map, List.map_map]
    exact List.map_id' l
  rw [← e a, h, e b]
theorem cast_inj {a b : List Nat} : ((a.map fun d : Nat => (d : Int)) = b.map fun d : Nat => (d : Int)) ↔ a = b := by
  constructor
  · intro h
    exact intL_inj (congrArg (List.map PV.int) h)
  · intro h; rw [h]
theorem eqb_intL {a b : List Nat} : eqb (.lst (intL a)) (.lst (intL b)) = decide (a = b) := by
  unfold intL
  rw [eqb_self_int]
  exact decide_eq_decide.mpr cast_inj
theorem eqb_intLT {a b : List Nat} : eqb (.tup (intL a)) (.tup (intL b)) = decide (a = b) := by
  unfold intL
  rw [eqb_self_intT]
  exact decide_eq_decide.mpr cast_inj
theorem fits_all_ints : ∀ {xs : List PV}, (xs.all (fitsB 1 9)) = true → ∃ ns : List Nat, xs = intL ns
  | [], _ => ⟨[], rfl⟩
  | x :: xs, h => by
    rw [List.all_cons, Bool.and_eq_true] at h
    obtain ⟨ns, e⟩ := fits_all_ints h.2
    obtain ⟨i, e2, h1, _⟩ := fits_inv h.1
    refine ⟨i.toNat :: ns, ?_⟩
    show x :: xs = .int (i.toNat : Nat) :: intL ns
    rw [e, e2, Int.toNat_of_nonneg (by omega)]
theorem krow_fits {a b n : Nat} (t : Two a b) : (intL (krow a b n)).all (fitsB 1 9) = true := by
  rw [List.all_eq_true]
  intro x hx
  obtain ⟨i, hi, rfl⟩ := List.mem_map.mp hx
  obtain ⟨k, hk, rfl⟩ := List.mem_map.mp hi
  have := t.a0; have := t.a1; have := t.b0; have := t.b1
  rw [fitsB_int]
  refine decide_eq_true ?_
  rcases krow_mem hk with rfl | rfl <;> omega
theorem iskola_spec {h : Hc} {a b : Nat} {v : PV} {Q : PQ PV} (t : Two a b) (hv : ∀ xs, v = .tup xs → xs.length ≤ 5000) (q : ∀ r : Bool, (r = true ↔ KoP a b v) → Q (.bl r) h) : wp (g_is_kolakoski [.int a, .int b, v]) h Q := by
  have hL : c_LISTED = 2000 := rfl
  unfold g_is_kolakoski m_is_kolakoski
  bv_omega
  refine needlet_spec t ?_
  bv_omega
  refine istup_spec ?_
  rw [hL]
  have no : ¬ KoP a b v → Q (.bl false) h := fun z => q false ⟨fun e => (by cases e), fun e => absurd e z⟩
  cases v with
  | tup xs =>
    bv_omega
    have hl := hv xs rfl
    by_cases c : (0 : Int) ≤ (xs.length : Int) ∧ (xs.length : Int) ≤ 2000
    · rw [if_neg (by simpa using c)]
      bv_omega
      refine ⟨by omega, comp_map (fun x => some (.bl (fitsB 1 9 x))) (fun x hx => ?_) ?_⟩
      · bv_omega
        refine fits_spec ?_
        bv_omega
      · rw [filterMap_some]
        bv_omega
        refine all_map ?_
        cases ha : xs.all (fitsB 1 9) with
        | false =>
          bv_omega
          refine no ?_
          rintro ⟨n, _, e⟩
          cases e
          rw [krow_fits t] at ha
          cases ha
        | true =>
          obtain ⟨ns, rfl⟩ := fits_all_ints ha
          bv_omega
          refine kolin_spec t (by omega) ?_
          bv_omega
          rw [intL_len]
          refine ⟨⟨cmpok_ints intL_ints, cmpok_ints intL_ints⟩, ?_⟩
          rw [eqb_intL]
          rw [intL_len] at c
          refine q _ ⟨fun e => ⟨ns.length, by omega, ?_⟩, ?_⟩
          · rw [← of_decide_eq_true e]
          · rintro ⟨n, hn, e⟩
            have e2 : intL ns = intL (krow a b n) := PV.tup.inj e
            have e3 := intL_inj e2
            refine decide_eq_true ?_
            have : ns.length = n := by rw [e3, krow_len t]
            rw [this, e3]
    · rw [if_pos (by simpa using c)]
      bv_omega
      refine no ?_
      rintro ⟨n, hn, e⟩
      cases e
      rw [intL_len, krow_len t] at c
      omega
  | _ =>
    bv_omega
    refine no ?_
    rintro ⟨n, hn, e⟩
    cases e
def rowB : PV → Bool
  | .tup xs => decide (1 ≤ xs.length ∧ xs.length ≤ 400) && xs.all (fitsB 0 999)
  | _ => false
theorem rowB_tup {xs : List PV} : rowB (.tup xs) = (decide (1 ≤ xs.length ∧ xs.length ≤ 400) && xs.all (fitsB 0 999)) := rfl
theorem fitrow_spec {h : Hc} {v : PV} {Q : PQ PV} (hv : ∀ xs, v = .tup xs → xs.length ≤ 1000) (q : Q (.bl (rowB v)) h) : wp (g_fits_row [v]) h Q := by
  have hI : c_ITEMS = 400 := rfl
  have hG : c_GREAT = 999 := rfl
  unfold g_fits_row m_fits_row
  bv_omega
  refine istup_spec ?_
  rw [hI]
  cases v with
  | tup xs =>
    bv_omega
    have hl := hv xs rfl
    by_cases c : 1 ≤ (xs.length : Int) ∧ (xs.length : Int) ≤ 400
    · rw [if_pos c]
      refine ⟨by omega, comp_map (fun x => some (.bl (fitsB 0 c_GREAT x))) (fun x hx => ?_) ?_⟩
      · bv_omega
        refine fits_spec ?_
        bv_omega
      · rw [filterMap_some]
        bv_omega
        refine all_map ?_
        rw [rowB_tup, decide_eq_true (show 1 ≤ xs.length ∧ xs.length ≤ 400 by omega), Bool.true_and] at q
        rw [hG]
        exact q
    · rw [if_neg c]
      rw [rowB_tup, decide_eq_false (show ¬ (1 ≤ xs.length ∧ xs.length ≤ 400) by omega), Bool.false_and] at q
      exact q
  | _ =>
    bv_omega
    exact q
theorem needrow_spec {h : Hc} {xs : List PV} {Q : PQ PV} (hb : rowB (.tup xs) = true) (q : Q .non h) : wp (g_need_row [.tup xs]) h Q := by
  unfold g_need_row m_need_row
  bv_omega
  refine fitrow_spec (fun ys e => ?_) ?_
  · cases e
    rw [rowB_tup] at hb
    simp only [Bool.and_eq_true, decide_eq_true_eq] at hb
    omega
  rw [hb]
  bv_omega
  exact q
def pairsL (l : List (Nat × Nat)) : List PV := l.map fun x => .tup [.int x.1, .int x.2]
theorem at_last {xs : List PV} {x : PV} : atI (xs ++ [x]) (-1) = some x := by
  have e : ixN (xs ++ [x]).length (-1) = some xs.length := by
    unfold ixN
    rw [List.length_append, if_neg (by decide), if_pos (by simp; omega)]
    refine congrArg some ?_
    show (-1 + ((xs.length + 1 : Nat) : Int)).toNat = _
    omega
  unfold atI
  rw [e]
  simp
theorem set_last {xs : List PV} {x v : PV} : setAt (xs ++ [x]) v (.int (-1)) = some (xs ++ [v]) := by
  have e : ixN (xs ++ [x]).length (-1) = some xs.length := by
    unfold ixN
    rw [List.length_append, if_neg (by decide), if_pos (by simp; omega)]
    refine congrArg some ?_
    show (-1 + ((xs.length + 1 : Nat) : Int)).toNat = _
    omega
  show (ixN _ _).map _ = _
  rw [e]
  simp
theorem runsL_len (l : List Nat) : (runsL l).length ≤ l.length := by
  have : ∀ (l : List Nat) (R : List (Nat × Nat)), (l.foldl rnS R).length ≤ R.length + l.length := fun l => by
    induction l with
    | nil => intro R; simp
    | cons x r ih =>
      intro R
      have h1 := ih (rnS R x)
      have h2 : (rnS R x).length ≤ R.length + 1 := by
        unfold rnS
        split
        · split
          · rw [List.length_append, List.length_dropLast, List.length_singleton]; omega
          · simp
        · simp
      show (r.foldl rnS (rnS R x)).length ≤ _
      rw [List.length_cons]; omega
  have := this l []
  rw [List.length_nil, Nat.zero_add] at this
  exact this
theorem runsin_spec {h : Hc} {l : List Nat} {Q : PQ PV} (hl : l.length ≤ 400) (q : Q (.lst (pairsL (runsL l))) h) : wp (g_runs_in [.tup (intL l)]) h Q := by
  unfold g_runs_in m_runs_in
  bv_omega
  refine for_idx _ (fun i ρ h' => ∃ a, ρ = [.va (.tup (intL l)), .ow (pairsL (runsL (l.take i))), a] ∧ h' = h) ⟨_, rfl, rfl⟩ ?_ ?_
  · rintro i x ρ h' hi hx ⟨a, rfl, rfl⟩
    rw [intL_len] at hi
    have hx2 : x = .int (l[i] : Nat) := by
      unfold intL at hx
      rw [List.getElem?_map, List.getElem?_map, List.getElem?_eq_getElem hi] at hx
      cases hx; rfl
    rw [hx2]
    have ht : l.take (i + 1) = l.take i ++ [l[i]] := by rw [List.take_add_one, List.getElem?_eq_getElem hi]; rfl
    have hr : runsL (l.take (i + 1)) = rnS (runsL (l.take i)) l[i] := by
      rw [ht]; unfold runsL; rw [List.foldl_append]; rfl
    rw [hr]
    have hR : (runsL (l.take i)).length ≤ 400 := Nat.le_trans (runsL_len _) (by rw [List.length_take]; omega)
    generalize runsL (l.take i) = R at hR
    have hcp : CmpOk (.lst (pairsL R)) := (cd_lst (n := 1) fun x hx => by
      obtain ⟨p, _, rfl⟩ := List.mem_map.mp hx
      exact cd_tup (n := 0) fun y hy => by
        simp only [List.mem_cons, List.not_mem_nil, or_false] at hy
        rcases hy with rfl | rfl <;> exact cd_int).ok (by decide)
    have hRl : (pairsL R).length = R.length := List.length_map _
    rw [w_fgb]
    bv_omega
    refine ⟨hcp, ?_⟩
    rcases List.eq_nil_or_concat R with rfl | ⟨R', p, rfl⟩
    · rw [if_neg (by decide)]
      exact ⟨by omega, _, rfl⟩
    · have hp : pairsL (R' ++ [p]) = pairsL R' ++ [.tup [.int p.1, .int p.2]] := by unfold pairsL; rw [List.map_append]; rfl
      rw [List.concat_eq_append] at *
      rw [hp] at hRl ⊢
      rw [if_pos (by simp), at_last]
      bv_omega
      by_cases c : p.2 = l[i]
      · rw [if_pos (by omega)]
        bv_omega
        rw [at_last]
        bv_omega
        rw [set_last]
        bv_omega
        have e : rnS (R' ++ [p]) l[i] = R' ++ [(p.1 + 1, l[i])] := by
          rw [← c]; exact rnS_more
        rw [e]
        exact ⟨rfl, _, by unfold pairsL; rw [List.map_append]; rfl⟩
      · rw [if_neg (by omega)]
        bv_omega
        have e : rnS (R' ++ [p]) l[i] = R' ++ [p] ++ [(1, l[i])] := rnS_new fun p' hp' => by
          rw [List.getLast?_concat] at hp'
          cases hp'; exact c
        rw [e]
        rw [List.length_append, List.length_singleton] at hRl
        refine ⟨by rw [List.length_append] at hR hRl; simp at hR hRl; omega, _, by unfold pairsL; rw [List.map_append, List.map_append]; rfl⟩
  · rintro ρ h' ⟨a, rfl, rfl⟩
    rw [intL_len, List.take_length]
    bv_omega
    exact q
theorem runlen_spec {h : Hc} {l : List Nat} {Q : PQ PV} (h0 : 1 ≤ l.length) (hl : l.length ≤ 400) (hb : ∀ x ∈ l, x ≤ 999) (q : Q (.tup (intL ((runsL l).map Prod.fst))) h) : wp (g_run_lengths [.tup (intL l)]) h Q := by
  unfold g_run_lengths m_run_lengths
  bv_omega
  refine needrow_spec ?_ ?_
  · rw [rowB_tup, intL_len, decide_eq_true ⟨h0, hl⟩, Bool.true_and, List.all_eq_true]
    intro x hx
    obtain ⟨i, hi, rfl⟩ := List.mem_map.mp hx
    obtain ⟨k, hk, rfl⟩ := List.mem_map.mp hi
    have := hb k hk
    rw [fitsB_int]
    exact decide_eq_true (by omega)
  bv_omega
  refine runsin_spec hl ?_
  bv_omega
  have hR := runsL_len l
  have hRl : (pairsL (runsL l)).length = (runsL l).length := List.length_map _
  refine ⟨by omega, comp_map (fun x => match x with | .tup (y :: _) => some y | _ => none) (fun x hx => ?_) ?_⟩
  · obtain ⟨p, _, rfl⟩ := List.mem_map.mp hx
    bv_omega
  · have e : (pairsL (runsL l)).filterMap (fun x => match x with | .tup (y :: _) => some y | _ => none) = intL ((runsL l).map Prod.fst) := by
      generalize runsL l = R
      induction R with
      | nil => rfl
      | cons p r ih =>
        show PV.int (p.1 : Nat) :: (pairsL r).filterMap _ = PV.int (p.1 : Nat) :: intL (r.map Prod.fst)
        rw [ih]
    rw [e]
    bv_omega
    exact q
theorem krow_get {a b : Nat} (t : Two a b) {i m : Nat} (h : i < m) : (krow a b m)[i]? = some (krn a b i) := by
  unfold krow
  rw [List.getElem?_take_of_lt h]
  exact kst_get t h
theorem krow_pre {a b : Nat} (t : Two a b) {j m : Nat} (h : j ≤ m) : (krow a b m).take j = (List.range j).map (krn a b) := by
  refine List.ext_getElem? fun i => ?_
  by_cases c : i < j
  · rw [List.getElem?_take_of_lt c, krow_get t (by omega), List.getElem?_map, List.getElem?_range c]; rfl
  · rw [List.getElem?_eq_none (by rw [List.length_take]; omega), List.getElem?_eq_none (by simp; omega)]
theorem cut_butlast {l : List Nat} {x : Nat} : cutP (intL (l ++ [x])) none (some (-1)) = intL l := by
  have hL : (intL (l ++ [x])).length = l.length + 1 := by rw [intL_len, List.length_append]; rfl
  unfold cutP
  have h2 : HT.sIx (intL (l ++ [x])).length (intL (l ++ [x])).length (some (-1)) = l.length := by
    rw [hL]
    unfold HT.sIx
    simp
    try omega
  rw [h2, show HT.sIx (intL (l ++ [x])).length 0 none = 0 from rfl, Nat.sub_zero, List.drop_zero, intL_app, List.take_append_of_le_length (by rw [intL_len]; omega), List.take_of_length_le (by rw [intL_len]; omega)]
theorem krn_zero {a b : Nat} : krn a b 0 = a := rfl
theorem runs_krow {a b : Nat} (t : Two a b) {m : Nat} (h : 1 ≤ m) : ∃ j n, (runsL (krow a b m)).map Prod.fst = (List.range j).map (krn a b) ++ [n] ∧ n ≤ krn a b j ∧ j < m := by
  obtain ⟨j, n, e, h1, h2, h3, h4⟩ := krow_cut t h
  refine ⟨j, n, ?_, h2, h3⟩
  rw [e, runs_cut t h1, List.map_append, List.map_map]
  rfl
theorem cut_set {xs : List PV} {a : Nat} {y : PV} (h : a < xs.length) : cutP xs none (some (a : Int)) ++ [y] ++ cutP xs (some ((a : Int) + 1)) none = xs.set a y := by
  rw [show (a : Int) + 1 = ((a + 1 : Nat) : Int) by omega]
  unfold cutP
  rw [HT.sIx_nat, HT.sIx_none, HT.sIx_nat, HT.sIx_none, Nat.sub_zero, List.drop_zero, Nat.min_eq_left (by omega), Nat.min_eq_left (by omega), List.set_eq_take_append_cons_drop, if_pos h, List.take_of_length_le (l := xs.drop (a + 1)) (by rw [List.length_drop]; omega)]
  simp
theorem cut_mem {xs : List PV} {a b : Option Int} {x : PV} (h : x ∈ cutP xs a b) : x ∈ xs := List.mem_of_mem_drop (List.mem_of_mem_take h)
/-- what stands in a row that is tried -/
inductive OddP : PV → Prop
  | int (i : Int) : OddP (.int i)
  | bl (b : Bool) : OddP (.bl b)
  | non : OddP .non
  | one : OddP (.str "1")
  | tup : OddP (.tup [.int 1])
def isInt : PV → Bool
  | .int _ => true
  | _ => false
def oddO (y : PV) : Option PV := if isInt y = true then none else some y
theorem odd_filter : ∀ ys : List PV, (ys.filterMap oddO).isEmpty = ys.all isInt
  | [] => rfl
  | y :: r => by
    have ih := odd_filter r
    cases hy : isInt y with
    | true => rw [List.filterMap_cons, show oddO y = none from if_pos hy, ih, List.all_cons, hy, Bool.true_and]
    | false => rw [List.filterMap_cons, show oddO y = some y from if_neg (by rw [hy]; decide), List.all_cons, hy, Bool.false_and]; rfl
theorem cd_odd {y : PV} (h : OddP y) : CD 1 y := by
  cases h with
  | int i => exact cd_int
  | bl b => exact cd_bl
  | non => exact cd_non
  | one => exact ⟨rfl, by decide +kernel, by decide +kernel⟩
  | tup => exact cd_tup fun y hy => by rw [List.mem_singleton.mp hy]; exact cd_int
theorem odd_cmp {ys : List PV} (h : ∀ y ∈ ys, OddP y) : CmpOk (.lst (ys.filterMap oddO)) := (cd_lst (n := 1) fun x hx => by
  obtain ⟨y, hy, e⟩ := List.mem_filterMap.mp hx
  unfold oddO at e
  split at e
  · cases e
  · cases e; exact cd_odd (h _ hy)).ok (by decide)
theorem all_ints : ∀ {xs : List PV}, (xs.all isInt) = true → ∃ ns : List Int, xs = ns.map PV.int
  | [], _ => ⟨[], rfl⟩
  | x :: xs, h => by
    rw [List.all_cons, Bool.and_eq_true] at h
    obtain ⟨ns, e⟩ := all_ints h.2
    cases x with
    | int i => exact ⟨i :: ns, by rw [e]; rfl⟩
    | _ => cases h.1
def Vok (m : Nat) (v : PV) : Prop := ∀ xs, v = .tup xs → xs.length ≤ m + 1 ∧ ∀ x ∈ xs, OddP x
theorem int_odd {l : List Nat} : ∀ x ∈ intL l, OddP x := fun x hx => by
  obtain ⟨i, rfl⟩ := intL_ints x hx; exact .int _
theorem goodv {a b m : Nat} (t : Two a b) {zs : List Int} (hz : zs.length ≤ m + 1) (hm : m ≤ 400) (r : Bool) (hr : r = true ↔ KoP a b (.tup (zs.map PV.int))) : eqb (.tup (zs.map PV.int)) (.tup (cutP (intL (krow a b (m + 1))) none (some (zs.length : Int)))) = r := by
  rw [intL_cut, krow_take t hz]
  show eqb _ (.tup (((krow a b zs.length).map fun d : Nat => (d : Int)).map PV.int)) = r
  rw [eqb_self_intT, Bool.eq_iff_iff, hr, decide_eq_true_eq]
  constructor
  · intro e
    refine ⟨zs.length, by omega, ?_⟩
    show PV.tup (zs.map PV.int) = PV.tup (((krow a b zs.length).map fun d : Nat => (d : Int)).map PV.int)
    exact congrArg (fun l : List Int => PV.tup (l.map PV.int)) e
  · rintro ⟨n, hn, e⟩
    have e1 := PV.tup.inj e
    have e2 : zs.length = n := by
      have := congrArg List.length e1
      rw [List.length_map, intL_len, krow_len t] at this
      exact this
    rw [e2]
    have inj : ∀ x y : List Int, x.map PV.int = y.map PV.int → x = y := fun x => by
      induction x with
      | nil => intro y h; cases y with
        | nil => rfl
        | cons _ _ => cases h
      | cons p r ih => intro y h; cases y with
        | nil => cases h
        | cons q s =>
          rw [List.map_cons, List.map_cons] at h
          have h1 := List.cons.inj h
          rw [ih s h1.2, PV.int.inj h1.1]
    exact inj _ _ e1
theorem cut_tail {x : PV} {xs : List PV} : cutP (x :: xs) (some 1) none = xs := by
  unfold cutP
  have h1 : HT.sIx (x :: xs).length 0 (some 1) = 1 := by
    unfold HT.sIx
    simp
  rw [h1, HT.sIx_none]
  show List.take _ xs = xs
  exact List.take_of_length_le (by simp)
theorem two_way {c : Prop} [Decidable c] {B : SX} {ρ1 ρ2 : En} {h : Hc} {Q : PQ Fl} (k : ∀ ρ', (c ∧ ρ' = ρ1 ∨ ¬ c ∧ ρ' = ρ2) → wp (B ρ') h Q) : if c then wp (B ρ1) h Q else wp (B ρ2) h Q := by
  split
  · exact k _ (.inl ⟨‹_›, rfl⟩)
  · exact k _ (.inr ⟨‹_›, rfl⟩)
theorem kola2000 {h : Hc} {Q : PQ PV} (q : ∀ K K2 : List Nat, K.take 20 = [1, 2, 2, 1, 1, 2, 1, 2, 2, 1, 2, 2, 1, 1, 2, 1, 1, 2, 2, 1] → K.length = 2000 → K2.length = 1999 → K = 1 :: K2 → KoP 1 2 (.tup (intL K)) → KoP 2 1 (.tup (intL K2)) → ((K.take 100).countP fun y => decide (y = 1)) = 49 → ((K.take 1000).countP fun y => decide (y = 1)) = 502 → Q (.tup (intL K)) h) : wp (g_kolakoski [.int 1, .int 2, .int 2000]) h Q :=
  kola_spec (a := 1) (b := 2) (m := 2000) two12 (by decide) (by decide) (q _ _ ((krow_take two12 (by decide)).trans (by decide +kernel)) (krow_len two12) (krow_len two21) (krow_tail 1999) ⟨2000, Nat.le_refl _, rfl⟩ ⟨1999, by decide, rfl⟩ ((congrArg (List.countP fun y => decide (y = 1)) (krow_take (m := 100) two12 (by decide))).trans cnt100) ((congrArg (List.countP fun y => decide (y = 1)) (krow_take (m := 1000) two12 (by decide))).trans cnt1000))
theorem cnt_cast {l : List Nat} : (((l.map fun d : Nat => (d : Int)).countP fun y => decide (y = 1))) = l.countP fun y => decide (y = 1) := by
  induction l with
  | nil => rfl
  | cons x r ih =>
    rw [List.map_cons, List.countP_cons, List.countP_cons, ih]
    congr 1
    by_cases c : x = 1
    · rw [c]; rfl
    · rw [if_neg (by simp; omega), if_neg (by simp; omega)]
theorem law_wp {ns : List Int} (hl : ns.length ≤ 63) : wp (g_law [.scr (ns.map PV.int)]) [] (fun v _ => v = .bl true) := by
  unfold g_law m_law
  bv_omega
  refine cup_spec hl fun h hc => ?_
  bv_omega
  refine ⟨bigI (by decide) (by decide), for_rng0 (fun i ρ h => ∃ s2 s3 s4 s5 s6 s7 s8 s9 s10 s11 s12 s13 s14, ρ = [.va (.scr (ns.map PV.int)), .va (.cell 0), s2, s3, s4, s5, s6, s7, s8, s9, s10, s11, s12, s13, s14, .no] ∧ Cup h) ⟨_, _, _, _, _, _, _, _, _, _, _, _, _, rfl, hc⟩ ?_ ?_⟩
  · rintro i ρ h hi ⟨s2, s3, s4, s5, s6, s7, s8, s9, s10, s11, s12, s13, s14, rfl, hc⟩
    generalize hB : sSeq (sSet 5 _) _ = B
    bv_omega
    refine roll_spec hc (by omega) (by omega) fun r h r0 r1 hc => ?_
    bv_omega
    refine roll_spec hc (by omega) (by omega) fun r2 h r20 r21 hc => ?_
    bv_omega
    refine two_way fun ρ' hρ => ?_
    obtain ⟨a, b, t, rfl⟩ : ∃ a b : Nat, Two a b ∧ ρ' = [Sl.va (PV.scr (List.map PV.int ns)), Sl.va (PV.cell 0), Sl.va (PV.int i), Sl.va (PV.int a), Sl.va (PV.int b), s5, s6, s7, s8, s9, s10, s11, s12, s13, s14, Sl.no] := by
      obtain ⟨a, ha⟩ : ∃ n : Nat, 1 + r = n := ⟨(1 + r).toNat, by omega⟩
      rw [ha] at hρ
      rcases hρ with ⟨c, rfl⟩ | ⟨c, rfl⟩
      · obtain ⟨b, hb⟩ : ∃ n : Nat, 1 + r2 + 1 = n := ⟨(1 + r2 + 1).toNat, by omega⟩
        rw [hb]
        exact ⟨a, b, ⟨by omega, by omega, by omega, by omega, by omega⟩, rfl⟩
      · obtain ⟨b, hb⟩ : ∃ n : Nat, 1 + r2 = n := ⟨(1 + r2).toNat, by omega⟩
        rw [hb]
        exact ⟨a, b, ⟨by omega, by omega, by omega, by omega, by omega⟩, rfl⟩
    clear hρ
    subst hB
    bv_omega
    refine some_ints [6, 60, 390] (fun i => 1 ≤ i ∧ i ≤ 390) hc (by simp) (by simp) (by intro i hi; simp only [List.mem_cons, List.not_mem_nil, or_false] at hi; omega) fun mo h hmo hc => ?_
    bv_omega
    refine roll_spec hc (by omega) (by omega) fun r3 h r30 r31 hc => ?_
    bv_omega
    obtain ⟨m, hm⟩ : ∃ n : Nat, 1 + r3 = n := ⟨(1 + r3).toNat, by omega⟩
    rw [hm]
    have m0 : 1 ≤ m := by omega
    have m1 : m ≤ 390 := by omega
    refine kola_spec t m0 (by omega) ?_
    bv_omega
    rw [intL_len, krow_len t, show atI (intL (krow a b m)) 0 = some (.int (a : Nat)) from intL_at (i := 0) (krow_get t m0)]
    bv_omega
    rw [if_neg (fun h => h trivial)]
    refine ⟨by rw [intL_len, krow_len t]; omega, comp_map (fun _ => none) (fun x hx => ?_) ?_⟩
    · obtain ⟨k, hk, rfl⟩ : ∃ k : Nat, k ∈ krow a b m ∧ x = .int k := by
        obtain ⟨y, hy, rfl⟩ := List.mem_map.mp hx
        obtain ⟨k, hk, rfl⟩ := List.mem_map.mp hy
        exact ⟨k, hk, rfl⟩
      have hab := krow_mem hk
      bv_omega
      rw [show intsOf [PV.int a, PV.int b] = some [(a : Int), (b : Int)] from rfl, show Option.map (fun ns : List Int => PV.bl !ns.any fun z => z == (k : Int)) (some [(a : Int), (b : Int)]) = some (.bl false) by rcases hab with rfl | rfl <;> simp]
      bv_omega
    rw [show (intL (krow a b m)).filterMap (fun _ => (none : Option PV)) = [] by simp]
    bv_omega
    refine ⟨by rw [intL_len, krow_len t]; omega, comp_map (fun _ => none) (fun x hx => ?_) ?_⟩
    · obtain ⟨i, rfl⟩ := intL_ints x hx
      bv_omega
    rw [show (intL (krow a b m)).filterMap (fun _ => (none : Option PV)) = [] by simp]
    bv_omega
    refine runlen_spec (by rw [krow_len t]; omega) (by rw [krow_len t]; omega) (fun x hx => ?_) ?_
    · have := t.a0; have := t.a1; have := t.b0; have := t.b1
      rcases krow_mem hx with rfl | rfl <;> omega
    obtain ⟨j, n, er, hn, hj⟩ := runs_krow t m0
    rw [er]
    have eL : (intL ((List.range j).map (krn a b) ++ [n])).length = j + 1 := by rw [intL_len, List.length_append, List.length_map, List.length_range]; rfl
    bv_omega
    rw [cut_butlast, eL, show ((j + 1 : Nat) : Int) - 1 = (j : Nat) by omega, intL_cut, krow_pre t (by omega), eqb_intLT, decide_eq_true rfl]
    refine ⟨⟨cmpok_intsT intL_ints, cmpok_intsT intL_ints⟩, ?_⟩
    rw [if_neg (by decide), if_pos (by omega), intL_app, show intL [n] = [.int (n : Nat)] from rfl, at_last]
    bv_omega
    rw [intL_len, List.length_map, List.length_range, show ((j + 1 : Nat) : Int) - 1 = (j : Nat) by omega, intL_at (krow_get t hj)]
    bv_omega
    rw [if_neg (by omega)]
    generalize intL (List.map (krn a b) (List.range j)) ++ [PV.int n] = L8
    rw [show (if (m : Int) + 5 < 2000 then (m : Int) + 5 else 2000) = ((m + 5 : Nat) : Int) by rw [if_pos (by omega)]; omega]
    refine kola_spec t (by omega) (by omega) ?_
    bv_omega
    rw [intL_cut, krow_take t (by omega), eqb_intLT, decide_eq_true rfl]
    refine ⟨⟨cmpok_intsT intL_ints, cmpok_intsT intL_ints⟩, ?_⟩
    rw [if_neg (by decide)]
    bv_omega
    refine roll_spec hc (by omega) (by omega) fun at0 h a0 a1 hc => ?_
    obtain ⟨at0, rfl⟩ : ∃ q : Nat, at0 = q := ⟨at0.toNat, by omega⟩
    bv_omega
    rw [intL_len, krow_len t]
    refine ⟨by omega, by omega, ?_⟩
    rw [show (m : Int) + 1 = ((m + 1 : Nat) : Int) by omega]
    refine kola_spec t (by omega) (by omega) ?_
    bv_omega
    have hat : at0 < (intL (krow a b m)).length := by rw [intL_len, krow_len t]; omega
    have hset := fun y => cut_set (xs := intL (krow a b m)) (a := at0) (y := y) hat
    have hsl := fun y => congrArg List.length (hset y)
    refine comp_map (fun x => some (.tup ((intL (krow a b m)).set at0 x))) (fun x hx => ?_) ?_
    · have := hsl x
      rw [List.length_append, List.length_append, List.length_set, intL_len, krow_len t] at this
      simp at this
      bv_omega
      refine ⟨by omega, by omega, ?_⟩
      rw [hset]
    rw [filterMap_some]
    have hok : ∀ x ∈ [PV.tup (intL (krow a b m)), PV.tup [], PV.lst (intL (krow a b m)), PV.tup (cutP (intL (krow a b m)) (some 1) none), PV.tup (intL (krow a b m) ++ [PV.int a]), PV.tup (intL (krow a b m) ++ [PV.int b]), PV.non, PV.int 5, PV.str (Str.ofString "122")] ++ [PV.int 0, PV.int a, PV.int b, PV.int 10, PV.bl true, PV.non, PV.str (Str.ofString "1"), PV.tup [PV.int 1]].map (fun x => PV.tup ((intL (krow a b m)).set at0 x)), Vok m x := fun x hx => by
      rcases List.mem_append.mp hx with hx | hx
      · simp only [List.mem_cons, List.not_mem_nil, or_false] at hx
        have hlen : (intL (krow a b m)).length = m := by rw [intL_len, krow_len t]
        have one : ∀ c : Nat, Vok m (PV.tup (intL (krow a b m) ++ [PV.int c])) := fun c xs e => by
          have e := PV.tup.inj e
          subst e
          refine ⟨by rw [List.length_append, List.length_singleton]; omega, fun y hy => ?_⟩
          rcases List.mem_append.mp hy with hy | hy
          · exact int_odd y hy
          · rw [List.mem_singleton.mp hy]; exact .int _
        rcases hx with rfl | rfl | rfl | rfl | rfl | rfl | rfl | rfl | rfl
        · intro xs e
          have e := PV.tup.inj e; subst e; exact ⟨by omega, int_odd⟩
        · intro xs e
          cases e; exact ⟨by simp, fun y hy => by simp at hy⟩
        · intro xs e; cases e
        · intro xs e
          have e := PV.tup.inj e; subst e; exact ⟨by have := cut_le (xs := intL (krow a b m)) (a := some 1) (b := none); omega, fun y hy => int_odd y (cut_mem hy)⟩
        · exact one a
        · exact one b
        · intro xs e; cases e
        · intro xs e; cases e
        · intro xs e; cases e
      · obtain ⟨y, hy, rfl⟩ := List.mem_map.mp hx
        intro xs e
        have e := PV.tup.inj e
        subst e
        refine ⟨by rw [List.length_set, intL_len, krow_len t]; omega, fun x hx => ?_⟩
        rcases List.mem_or_eq_of_mem_set hx with hx | rfl
        · exact int_odd x hx
        · simp only [List.mem_cons, List.not_mem_nil, or_false] at hy
          rcases hy with rfl | rfl | rfl | rfl | rfl | rfl | rfl | rfl
          · exact .int _
          · exact .int _
          · exact .int _
          · exact .int _
          · exact .bl _
          · exact .non
          · exact .one
          · exact .tup
    bv_omega
    generalize hS10 : PV.lst [PV.tup (intL (krow a b m)), PV.tup [], PV.lst (intL (krow a b m)), PV.tup (cutP (intL (krow a b m)) (some 1) none), PV.tup (intL (krow a b m) ++ [PV.int a]), PV.tup (intL (krow a b m) ++ [PV.int b]), PV.non, PV.int 5, PV.str (Str.ofString "122")] = S10
    refine for_idx _ (fun k ρ h' => ∃ y7 y12 y14, ρ = [.va (.scr (ns.map PV.int)), .va (.cell 0), .va (.int i), .va (.int a), .va (.int b), .va (.int m), .va (.tup (intL (krow a b m))), y7, .va (.tup L8), .va (.int at0), .va S10, .va (.tup (intL (krow a b (m + 1)))), y12, s13, y14, .no] ∧ Cup h') ⟨_, _, _, rfl, hc⟩ ?_ ?_
    · rintro k x ρ h hk hx ⟨y7, y12, y14, rfl, hc⟩
      have hxm := hok x (List.mem_of_getElem? hx)
      rw [w_fgb]
      bv_omega
      cases x with
      | tup xs =>
        obtain ⟨hl2, ho⟩ := hxm xs rfl
        bv_omega
        refine ⟨by omega, comp_map oddO (fun y hy => ?_) ?_⟩
        · cases ho y hy with
          | int z => bv_omega; rfl
          | bl z => bv_omega; rfl
          | non => bv_omega; rfl
          | one => bv_omega; rfl
          | tup => bv_omega; rfl
        have hcm := odd_cmp ho
        have hof := odd_filter xs
        generalize xs.filterMap oddO = ys at hcm hof
        bv_omega
        rw [hof]
        refine ⟨hcm, ?_⟩
        refine iskola_spec t (fun ys e => by have e := PV.tup.inj e; subst e; omega) fun r hr => ?_
        bv_omega
        cases ha : xs.all isInt with
        | false =>
          bv_omega
          have : r = false := by
            cases r with
            | false => rfl
            | true =>
              obtain ⟨n, _, e⟩ := hr.mp rfl
              have e := PV.tup.inj e
              subst e
              rw [show (intL (krow a b n)).all isInt = true from List.all_eq_true.mpr fun y hy => by obtain ⟨i, rfl⟩ := intL_ints y hy; rfl] at ha
              cases ha
          rw [this]
          refine same_spec 8 (.bl _) ?_
          bv_omega
          exact ⟨_, _, _, rfl, hc⟩
        | true =>
          obtain ⟨zs, rfl⟩ := all_ints ha
          rw [List.length_map] at hl2
          bv_omega
          refine ⟨⟨cmpok_intsT (fun y hy => by obtain ⟨z, _, rfl⟩ := List.mem_map.mp hy; exact ⟨z, rfl⟩), cmpok_intsT (fun y hy => intL_ints y (cut_mem hy))⟩, ?_⟩
          rw [goodv t hl2 (by omega) r hr]
          refine same_spec 8 (.bl _) ?_
          bv_omega
          exact ⟨_, _, _, rfl, hc⟩
      | _ =>
        bv_omega
        refine iskola_spec t (fun ys e => by cases e) fun r hr => ?_
        bv_omega
        have : r = false := by
          cases r with
          | false => rfl
          | true =>
            obtain ⟨n, _, e⟩ := hr.mp rfl
            cases e
        rw [this]
        refine same_spec 8 (.bl _) ?_
        bv_omega
        exact ⟨_, _, _, rfl, hc⟩
    · rintro ρ h ⟨y7, y12, y14, rfl, hc⟩
      bv_omega
      exact ⟨_, _, _, _, _, _, _, _, _, _, _, _, _, rfl, hc⟩
  · rintro ρ h ⟨s2, s3, s4, s5, s6, s7, s8, s9, s10, s11, s12, s13, s14, rfl, hc⟩
    bv_omega
    refine kola2000 fun K K2 k20 klen klen2 kt kP kP2 c100 c1000 => ?_
    bv_omega
    refine iskola_spec (a := 1) (b := 2) two12 (fun ys e => by have e := PV.tup.inj e; subst e; rw [intL_len]; omega) fun r hr => ?_
    obtain rfl := hr.mpr kP
    bv_omega
    rw [show cutP (intL K) (some 1) none = intL K2 by rw [kt]; exact cut_tail]
    refine iskola_spec (a := 2) (b := 1) two21 (fun ys e => by have e := PV.tup.inj e; subst e; rw [intL_len]; omega) fun r hr => ?_
    obtain rfl := hr.mpr kP2
    bv_omega
    refine slc_wp (K := 100) (k := 1) (xs := intL K) (ns := (K.take 100).map fun d : Nat => (d : Int)) (by decide) (by rw [intL_len]; omega) rfl (intL_cut K 100) ?_
    rw [cnt_cast, c100]
    bv_omega
    refine slc_wp (K := 1000) (k := 1) (xs := intL K) (ns := (K.take 1000).map fun d : Nat => (d : Int)) (by decide) (by rw [intL_len]; omega) rfl (intL_cut K 1000) ?_
    rw [cnt_cast, c1000]
    bv_omega
    rw [show cutP (intL K) none (some 20) = _ from intL_cut K 20, k20]
    refine same_spec 8 ?_ ?_
    · refine .tup (by simp) fun z hz => ?_
      simp only [List.mem_cons, List.not_mem_nil, or_false] at hz
      rcases hz with rfl | rfl | rfl | rfl | rfl
      · exact .tup (by rw [intL_len]; decide) fun y hy => intL_sm (n := 5) y hy
      · exact .bl _
      · exact .bl _
      · exact .int _
      · exact .int _
    rfl
theorem the_law : ∀ ns : List Int, ns.length ≤ 63 → ∃ h', g_law [.scr (ns.map PV.int)] [] = .ok (.bl true) h' := fun ns hl => by
  obtain ⟨v, h', e, rfl⟩ := wp_ok (law_wp hl)
  exact ⟨h', e⟩
open PySem PySem.W PyProof.Rows
theorem facts_mk {K : PySem.W.Frag} {h : Heap} {mg : Str → Option Value} {f_u_law_cup f_u_law_roll f_u_law_same f_u_law_some f_fits_whole f_is_tuple_of f_kolakoski_in f_need_whole f_need_letters f_is_kolakoski f_kolakoski f_fits_row f_need_row f_runs_in f_run_lengths f_law : Addr} {oc_u_law_cup kV_u_law_cup dc_u_law_cup pm_u_law_cup cd_u_law_cup ct_u_law_cup oc_u_law_roll kV_u_law_roll dc_u_law_roll pm_u_law_roll cd_u_law_roll ct_u_law_roll oc_u_law_same kV_u_law_same dc_u_law_same pm_u_law_same cd_u_law_same ct_u_law_same oc_u_law_some kV_u_law_some dc_u_law_some pm_u_law_some cd_u_law_some ct_u_law_some oc_fits_whole kV_fits_whole dc_fits_whole pm_fits_whole cd_fits_whole ct_fits_whole oc_is_tuple_of kV_is_tuple_of dc_is_tuple_of pm_is_tuple_of cd_is_tuple_of ct_is_tuple_of oc_kolakoski_in kV_kolakoski_in dc_kolakoski_in pm_kolakoski_in cd_kolakoski_in ct_kolakoski_in oc_need_whole kV_need_whole dc_need_whole pm_need_whole cd_need_whole ct_need_whole oc_need_letters kV_need_letters dc_need_letters pm_need_letters cd_need_letters ct_need_letters oc_is_kolakoski kV_is_kolakoski dc_is_kolakoski pm_is_kolakoski cd_is_kolakoski ct_is_kolakoski oc_kolakoski kV_kolakoski dc_kolakoski pm_kolakoski cd_kolakoski ct_kolakoski oc_fits_row kV_fits_row dc_fits_row pm_fits_row cd_fits_row ct_fits_row oc_need_row kV_need_row dc_need_row pm_need_row cd_need_row ct_need_row oc_runs_in kV_runs_in dc_runs_in pm_runs_in cd_runs_in ct_runs_in oc_run_lengths kV_run_lengths dc_run_lengths pm_run_lengths cd_run_lengths ct_run_lengths oc_law kV_law dc_law pm_law cd_law ct_law : Value} {od_u_law_cup an_u_law_cup od_u_law_roll an_u_law_roll od_u_law_same an_u_law_same od_u_law_some an_u_law_some od_fits_whole an_fits_whole od_is_tuple_of an_is_tuple_of od_kolakoski_in an_kolakoski_in od_need_whole an_need_whole od_need_letters an_need_letters od_is_kolakoski an_is_kolakoski od_kolakoski an_kolakoski od_fits_row an_fits_row od_need_row an_need_row od_runs_in an_runs_in od_run_lengths an_run_lengths od_law an_law : Option Addr} {sl_u_law_cup sl_u_law_roll sl_u_law_same sl_u_law_some sl_fits_whole sl_is_tuple_of sl_kolakoski_in sl_need_whole sl_need_letters sl_is_kolakoski sl_kolakoski sl_fits_row sl_need_row sl_runs_in sl_run_lengths sl_law : Array (Option Value)} (X : K.In h) (G : h.Ns mainGlobals mg)
    (z_abs : PySem.W.nsIn K mainGlobals "abs" = some none)
    (z_all : PySem.W.nsIn K mainGlobals "all" = some none)
    (z_bool : PySem.W.nsIn K mainGlobals "bool" = some none)
    (z_int : PySem.W.nsIn K mainGlobals "int" = some none)
    (z_isinstance : PySem.W.nsIn K mainGlobals "isinstance" = some none)
    (z_len : PySem.W.nsIn K mainGlobals "len" = some none)
    (z_list : PySem.W.nsIn K mainGlobals "list" = some none)
    (z_min : PySem.W.nsIn K mainGlobals "min" = some none)
    (z_range : PySem.W.nsIn K mainGlobals "range" = some none)
    (z_str : PySem.W.nsIn K mainGlobals "str" = some none)
    (z_tuple : PySem.W.nsIn K mainGlobals "tuple" = some none)
    (c_LISTED : ∃ t, mg "LISTED" = some (.int c_LISTED t))
    (c_ITEMS : ∃ t, mg "ITEMS" = some (.int c_ITEMS t))
    (c_GREAT : ∃ t, mg "GREAT" = some (.int c_GREAT t))
    (a_u_law_cup : PySem.W.nsIn K mainGlobals "_law_cup" = some (some (.ref f_u_law_cup))) (l_u_law_cup : K.lookup f_u_law_cup = some ⟨oc_u_law_cup, od_u_law_cup, .func (PySem.W.fnOf "_law_cup" "_law_cup" (defArgs s_u_law_cup) (defBody s_u_law_cup) (defScope s_u_law_cup) .none kV_u_law_cup dc_u_law_cup pm_u_law_cup an_u_law_cup cd_u_law_cup ct_u_law_cup), sl_u_law_cup⟩) (d_u_law_cup : PySem.W.codeIn K cd_u_law_cup "_law_cup" = true) (k_u_law_cup : PySem.W.keepIn K (.ref f_u_law_cup) = true)
    (a_u_law_roll : PySem.W.nsIn K mainGlobals "_law_roll" = some (some (.ref f_u_law_roll))) (l_u_law_roll : K.lookup f_u_law_roll = some ⟨oc_u_law_roll, od_u_law_roll, .func (PySem.W.fnOf "_law_roll" "_law_roll" (defArgs s_u_law_roll) (defBody s_u_law_roll) (defScope s_u_law_roll) .none kV_u_law_roll dc_u_law_roll pm_u_law_roll an_u_law_roll cd_u_law_roll ct_u_law_roll), sl_u_law_roll⟩) (d_u_law_roll : PySem.W.codeIn K cd_u_law_roll "_law_roll" = true) (k_u_law_roll : PySem.W.keepIn K (.ref f_u_law_roll) = true)
    (a_u_law_same : PySem.W.nsIn K mainGlobals "_law_same" = some (some (.ref f_u_law_same))) (l_u_law_same : K.lookup f_u_law_same = some ⟨oc_u_law_same, od_u_law_same, .func (PySem.W.fnOf "_law_same" "_law_same" (defArgs s_u_law_same) (defBody s_u_law_same) (defScope s_u_law_same) .none kV_u_law_same dc_u_law_same pm_u_law_same an_u_law_same cd_u_law_same ct_u_law_same), sl_u_law_same⟩) (d_u_law_same : PySem.W.codeIn K cd_u_law_same "_law_same" = true) (k_u_law_same : PySem.W.keepIn K (.ref f_u_law_same) = true)
    (a_u_law_some : PySem.W.nsIn K mainGlobals "_law_some" = some (some (.ref f_u_law_some))) (l_u_law_some : K.lookup f_u_law_some = some ⟨oc_u_law_some, od_u_law_some, .func (PySem.W.fnOf "_law_some" "_law_some" (defArgs s_u_law_some) (defBody s_u_law_some) (defScope s_u_law_some) .none kV_u_law_some dc_u_law_some pm_u_law_some an_u_law_some cd_u_law_some ct_u_law_some), sl_u_law_some⟩) (d_u_law_some : PySem.W.codeIn K cd_u_law_some "_law_some" = true) (k_u_law_some : PySem.W.keepIn K (.ref f_u_law_some) = true)
    (a_fits_whole : PySem.W.nsIn K mainGlobals "fits_whole" = some (some (.ref f_fits_whole))) (l_fits_whole : K.lookup f_fits_whole = some ⟨oc_fits_whole, od_fits_whole, .func (PySem.W.fnOf "fits_whole" "fits_whole" (defArgs s_fits_whole) (defBody s_fits_whole) (defScope s_fits_whole) .none kV_fits_whole dc_fits_whole pm_fits_whole an_fits_whole cd_fits_whole ct_fits_whole), sl_fits_whole⟩) (d_fits_whole : PySem.W.codeIn K cd_fits_whole "fits_whole" = true) (k_fits_whole : PySem.W.keepIn K (.ref f_fits_whole) = true)
    (a_is_tuple_of : PySem.W.nsIn K mainGlobals "is_tuple_of" = some (some (.ref f_is_tuple_of))) (l_is_tuple_of : K.lookup f_is_tuple_of = some ⟨oc_is_tuple_of, od_is_tuple_of, .func (PySem.W.fnOf "is_tuple_of" "is_tuple_of" (defArgs s_is_tuple_of) (defBody s_is_tuple_of) (defScope s_is_tuple_of) .none kV_is_tuple_of dc_is_tuple_of pm_is_tuple_of an_is_tuple_of cd_is_tuple_of ct_is_tuple_of), sl_is_tuple_of⟩) (d_is_tuple_of : PySem.W.codeIn K cd_is_tuple_of "is_tuple_of" = true) (k_is_tuple_of : PySem.W.keepIn K (.ref f_is_tuple_of) = true)
    (a_kolakoski_in : PySem.W.nsIn K mainGlobals "kolakoski_in" = some (some (.ref f_kolakoski_in))) (l_kolakoski_in : K.lookup f_kolakoski_in = some ⟨oc_kolakoski_in, od_kolakoski_in, .func (PySem.W.fnOf "kolakoski_in" "kolakoski_in" (defArgs s_kolakoski_in) (defBody s_kolakoski_in) (defScope s_kolakoski_in) .none kV_kolakoski_in dc_kolakoski_in pm_kolakoski_in an_kolakoski_in cd_kolakoski_in ct_kolakoski_in), sl_kolakoski_in⟩) (d_kolakoski_in : PySem.W.codeIn K cd_kolakoski_in "kolakoski_in" = true) (k_kolakoski_in : PySem.W.keepIn K (.ref f_kolakoski_in) = true)
    (a_need_whole : PySem.W.nsIn K mainGlobals "need_whole" = some (some (.ref f_need_whole))) (l_need_whole : K.lookup f_need_whole = some ⟨oc_need_whole, od_need_whole, .func (PySem.W.fnOf "need_whole" "need_whole" (defArgs s_need_whole) (defBody s_need_whole) (defScope s_need_whole) .none kV_need_whole dc_need_whole pm_need_whole an_need_whole cd_need_whole ct_need_whole), sl_need_whole⟩) (d_need_whole : PySem.W.codeIn K cd_need_whole "need_whole" = true) (k_need_whole : PySem.W.keepIn K (.ref f_need_whole) = true)
    (a_need_letters : PySem.W.nsIn K mainGlobals "need_letters" = some (some (.ref f_need_letters))) (l_need_letters : K.lookup f_need_letters = some ⟨oc_need_letters, od_need_letters, .func (PySem.W.fnOf "need_letters" "need_letters" (defArgs s_need_letters) (defBody s_need_letters) (defScope s_need_letters) .none kV_need_letters dc_need_letters pm_need_letters an_need_letters cd_need_letters ct_need_letters), sl_need_letters⟩) (d_need_letters : PySem.W.codeIn K cd_need_letters "need_letters" = true) (k_need_letters : PySem.W.keepIn K (.ref f_need_letters) = true)
    (a_is_kolakoski : PySem.W.nsIn K mainGlobals "is_kolakoski" = some (some (.ref f_is_kolakoski))) (l_is_kolakoski : K.lookup f_is_kolakoski = some ⟨oc_is_kolakoski, od_is_kolakoski, .func (PySem.W.fnOf "is_kolakoski" "is_kolakoski" (defArgs s_is_kolakoski) (defBody s_is_kolakoski) (defScope s_is_kolakoski) .none kV_is_kolakoski dc_is_kolakoski pm_is_kolakoski an_is_kolakoski cd_is_kolakoski ct_is_kolakoski), sl_is_kolakoski⟩) (d_is_kolakoski : PySem.W.codeIn K cd_is_kolakoski "is_kolakoski" = true) (k_is_kolakoski : PySem.W.keepIn K (.ref f_is_kolakoski) = true)
    (a_kolakoski : PySem.W.nsIn K mainGlobals "kolakoski" = some (some (.ref f_kolakoski))) (l_kolakoski : K.lookup f_kolakoski = some ⟨oc_kolakoski, od_kolakoski, .func (PySem.W.fnOf "kolakoski" "kolakoski" (defArgs s_kolakoski) (defBody s_kolakoski) (defScope s_kolakoski) .none kV_kolakoski dc_kolakoski pm_kolakoski an_kolakoski cd_kolakoski ct_kolakoski), sl_kolakoski⟩) (d_kolakoski : PySem.W.codeIn K cd_kolakoski "kolakoski" = true) (k_kolakoski : PySem.W.keepIn K (.ref f_kolakoski) = true)
    (a_fits_row : PySem.W.nsIn K mainGlobals "fits_row" = some (some (.ref f_fits_row))) (l_fits_row : K.lookup f_fits_row = some ⟨oc_fits_row, od_fits_row, .func (PySem.W.fnOf "fits_row" "fits_row" (defArgs s_fits_row) (defBody s_fits_row) (defScope s_fits_row) .none kV_fits_row dc_fits_row pm_fits_row an_fits_row cd_fits_row ct_fits_row), sl_fits_row⟩) (d_fits_row : PySem.W.codeIn K cd_fits_row "fits_row" = true) (k_fits_row : PySem.W.keepIn K (.ref f_fits_row) = true)
    (a_need_row : PySem.W.nsIn K mainGlobals "need_row" = some (some (.ref f_need_row))) (l_need_row : K.lookup f_need_row = some ⟨oc_need_row, od_need_row, .func (PySem.W.fnOf "need_row" "need_row" (defArgs s_need_row) (defBody s_need_row) (defScope s_need_row) .none kV_need_row dc_need_row pm_need_row an_need_row cd_need_row ct_need_row), sl_need_row⟩) (d_need_row : PySem.W.codeIn K cd_need_row "need_row" = true) (k_need_row : PySem.W.keepIn K (.ref f_need_row) = true)
    (a_runs_in : PySem.W.nsIn K mainGlobals "runs_in" = some (some (.ref f_runs_in))) (l_runs_in : K.lookup f_runs_in = some ⟨oc_runs_in, od_runs_in, .func (PySem.W.fnOf "runs_in" "runs_in" (defArgs s_runs_in) (defBody s_runs_in) (defScope s_runs_in) .none kV_runs_in dc_runs_in pm_runs_in an_runs_in cd_runs_in ct_runs_in), sl_runs_in⟩) (d_runs_in : PySem.W.codeIn K cd_runs_in "runs_in" = true) (k_runs_in : PySem.W.keepIn K (.ref f_runs_in) = true)
    (a_run_lengths : PySem.W.nsIn K mainGlobals "run_lengths" = some (some (.ref f_run_lengths))) (l_run_lengths : K.lookup f_run_lengths = some ⟨oc_run_lengths, od_run_lengths, .func (PySem.W.fnOf "run_lengths" "run_lengths" (defArgs s_run_lengths) (defBody s_run_lengths) (defScope s_run_lengths) .none kV_run_lengths dc_run_lengths pm_run_lengths an_run_lengths cd_run_lengths ct_run_lengths), sl_run_lengths⟩) (d_run_lengths : PySem.W.codeIn K cd_run_lengths "run_lengths" = true) (k_run_lengths : PySem.W.keepIn K (.ref f_run_lengths) = true)
    (a_law : PySem.W.nsIn K mainGlobals "law" = some (some (.ref f_law))) (l_law : K.lookup f_law = some ⟨oc_law, od_law, .func (PySem.W.fnOf "law" "law" (defArgs s_law) (defBody s_law) (defScope s_law) .none kV_law dc_law pm_law an_law cd_law ct_law), sl_law⟩) (d_law : PySem.W.codeIn K cd_law "law" = true) (k_law : PySem.W.keepIn K (.ref f_law) = true)
    : Facts K mg := {
  z_abs := PySem.W.mg_none_of X G z_abs,
  z_all := PySem.W.mg_none_of X G z_all,
  z_bool := PySem.W.mg_none_of X G z_bool,
  z_int := PySem.W.mg_none_of X G z_int,
  z_isinstance := PySem.W.mg_none_of X G z_isinstance,
  z_len := PySem.W.mg_none_of X G z_len,
  z_list := PySem.W.mg_none_of X G z_list,
  z_min := PySem.W.mg_none_of X G z_min,
  z_range := PySem.W.mg_none_of X G z_range,
  z_str := PySem.W.mg_none_of X G z_str,
  z_tuple := PySem.W.mg_none_of X G z_tuple,
  c_LISTED := c_LISTED,
  c_ITEMS := c_ITEMS,
  c_GREAT := c_GREAT,
  a_u_law_cup := da_mk X G (fun _ _ _ _ _ _ us hl => match us, hl with | [_], _ => rfl) a_u_law_cup l_u_law_cup d_u_law_cup k_u_law_cup,
  a_u_law_roll := da_mk X G (fun _ _ _ _ _ _ us hl => match us, hl with | [_, _], _ => rfl) a_u_law_roll l_u_law_roll d_u_law_roll k_u_law_roll,
  a_u_law_same := da_mk X G (fun _ _ _ _ _ _ us hl => match us, hl with | [_, _], _ => rfl) a_u_law_same l_u_law_same d_u_law_same k_u_law_same,
  a_u_law_some := da_mk X G (fun _ _ _ _ _ _ us hl => match us, hl with | [_, _], _ => rfl) a_u_law_some l_u_law_some d_u_law_some k_u_law_some,
  a_fits_whole := da_mk X G (fun _ _ _ _ _ _ us hl => match us, hl with | [_, _, _], _ => rfl) a_fits_whole l_fits_whole d_fits_whole k_fits_whole,
  a_is_tuple_of := da_mk X G (fun _ _ _ _ _ _ us hl => match us, hl with | [_, _, _], _ => rfl) a_is_tuple_of l_is_tuple_of d_is_tuple_of k_is_tuple_of,
  a_kolakoski_in := da_mk X G (fun _ _ _ _ _ _ us hl => match us, hl with | [_, _, _], _ => rfl) a_kolakoski_in l_kolakoski_in d_kolakoski_in k_kolakoski_in,
  a_need_whole := da_mk X G (fun _ _ _ _ _ _ us hl => match us, hl with | [_, _, _], _ => rfl) a_need_whole l_need_whole d_need_whole k_need_whole,
  a_need_letters := da_mk X G (fun _ _ _ _ _ _ us hl => match us, hl with | [_, _], _ => rfl) a_need_letters l_need_letters d_need_letters k_need_letters,
  a_is_kolakoski := da_mk X G (fun _ _ _ _ _ _ us hl => match us, hl with | [_, _, _], _ => rfl) a_is_kolakoski l_is_kolakoski d_is_kolakoski k_is_kolakoski,
  a_kolakoski := da_mk X G (fun _ _ _ _ _ _ us hl => match us, hl with | [_, _, _], _ => rfl) a_kolakoski l_kolakoski d_kolakoski k_kolakoski,
  a_fits_row := da_mk X G (fun _ _ _ _ _ _ us hl => match us, hl with | [_], _ => rfl) a_fits_row l_fits_row d_fits_row k_fits_row,
  a_need_row := da_mk X G (fun _ _ _ _ _ _ us hl => match us, hl with | [_], _ => rfl) a_need_row l_need_row d_need_row k_need_row,
  a_runs_in := da_mk X G (fun _ _ _ _ _ _ us hl => match us, hl with | [_], _ => rfl) a_runs_in l_runs_in d_runs_in k_runs_in,
  a_run_lengths := da_mk X G (fun _ _ _ _ _ _ us hl => match us, hl with | [_], _ => rfl) a_run_lengths l_run_lengths d_run_lengths k_run_lengths,
  a_law := da_mk X G (fun _ _ _ _ _ _ us hl => match us, hl with | [_], _ => rfl) a_law l_law d_law k_law }
set_option maxHeartbeats 0 in
theorem end_of : PySem.Challenge.rw_wholeyard_k38_whole_rows_that_tell_their.Holds := by
  w_on; o_law; k_head; (case hw => w_witness2)
  k_fill
  refine PL.pl_end (l := PySem.Challenge.rw_wholeyard_k38_whole_rows_that_tell_their) (n := 63) (k := 9) (x := "script") (g := g_law) rfl (by decide) rfl ⟨rfl, by decide, by decide⟩ (fun w h Y => PySem.W.kIn_of Y) ?F the_law
  case F =>
    intro w mg fa h KX G XP hmg
    refine law_F ?T hmg
    refine' facts_mk KX G ?z_abs ?z_all ?z_bool ?z_int ?z_isinstance ?z_len ?z_list ?z_min ?z_range ?z_str ?z_tuple (gint_of KX G ?cc_LISTED) (gint_of KX G ?cc_ITEMS) (gint_of KX G ?cc_GREAT) ?a_u_law_cup ?l_u_law_cup ?d_u_law_cup ?k_u_law_cup ?a_u_law_roll ?l_u_law_roll ?d_u_law_roll ?k_u_law_roll ?a_u_law_same ?l_u_law_same ?d_u_law_same ?k_u_law_same ?a_u_law_some ?l_u_law_some ?d_u_law_some ?k_u_law_some ?a_fits_whole ?l_fits_whole ?d_fits_whole ?k_fits_whole ?a_is_tuple_of ?l_is_tuple_of ?d_is_tuple_of ?k_is_tuple_of ?a_kolakoski_in ?l_kolakoski_in ?d_kolakoski_in ?k_kolakoski_in ?a_need_whole ?l_need_whole ?d_need_whole ?k_need_whole ?a_need_letters ?l_need_letters ?d_need_letters ?k_need_letters ?a_is_kolakoski ?l_is_kolakoski ?d_is_kolakoski ?k_is_kolakoski ?a_kolakoski ?l_kolakoski ?d_kolakoski ?k_kolakoski ?a_fits_row ?l_fits_row ?d_fits_row ?k_fits_row ?a_need_row ?l_need_row ?d_need_row ?k_need_row ?a_runs_in ?l_runs_in ?d_runs_in ?k_runs_in ?a_run_lengths ?l_run_lengths ?d_run_lengths ?k_run_lengths ?a_law ?l_law ?d_law ?k_law
    (case z_abs => k_is)
    (case z_all => k_is)
    (case z_bool => k_is)
    (case z_int => k_is)
    (case z_isinstance => k_is)
    (case z_len => k_is)
    (case z_list => k_is)
    (case z_min => k_is)
    (case z_range => k_is)
    (case z_str => k_is)
    (case z_tuple => k_is)
    (case cc_LISTED => k_is)
    (case cc_ITEMS => k_is)
    (case cc_GREAT => k_is)
    (case a_u_law_cup => k_is)
    (case l_u_law_cup => k_is)
    (case d_u_law_cup => k_is)
    (case k_u_law_cup => k_is)
    (case a_u_law_roll => k_is)
    (case l_u_law_roll => k_is)
    (case d_u_law_roll => k_is)
    (case k_u_law_roll => k_is)
    (case a_u_law_same => k_is)
    (case l_u_law_same => k_is)
    (case d_u_law_same => k_is)
    (case k_u_law_same => k_is)
    (case a_u_law_some => k_is)
    (case l_u_law_some => k_is)
    (case d_u_law_some => k_is)
    (case k_u_law_some => k_is)
    (case a_fits_whole => k_is)
    (case l_fits_whole => k_is)
    (case d_fits_whole => k_is)
    (case k_fits_whole => k_is)
    (case a_is_tuple_of => k_is)
    (case l_is_tuple_of => k_is)
    (case d_is_tuple_of => k_is)
    (case k_is_tuple_of => k_is)
    (case a_kolakoski_in => k_is)
    (case l_kolakoski_in => k_is)
    (case d_kolakoski_in => k_is)
    (case k_kolakoski_in => k_is)
    (case a_need_whole => k_is)
    (case l_need_whole => k_is)
    (case d_need_whole => k_is)
    (case k_need_whole => k_is)
    (case a_need_letters => k_is)
    (case l_need_letters => k_is)
    (case d_need_letters => k_is)
    (case k_need_letters => k_is)
    (case a_is_kolakoski => k_is)
    (case l_is_kolakoski => k_is)
    (case d_is_kolakoski => k_is)
    (case k_is_kolakoski => k_is)
    (case a_kolakoski => k_is)
    (case l_kolakoski => k_is)
    (case d_kolakoski => k_is)
    (case k_kolakoski => k_is)
    (case a_fits_row => k_is)
    (case l_fits_row => k_is)
    (case d_fits_row => k_is)
    (case k_fits_row => k_is)
    (case a_need_row => k_is)
    (case l_need_row => k_is)
    (case d_need_row => k_is)
    (case k_need_row => k_is)
    (case a_runs_in => k_is)
    (case l_runs_in => k_is)
    (case d_runs_in => k_is)
    (case k_runs_in => k_is)
    (case a_run_lengths => k_is)
    (case l_run_lengths => k_is)
    (case d_run_lengths => k_is)
    (case k_run_lengths => k_is)
    (case a_law => k_is)
    (case l_law => k_is)
    (case d_law => k_is)
    (case k_law => k_is)
end PL
theorem PySem.Challenge.cw_wholeyard_k38_whole_rows_that_tell_their_holds : PySem.Challenge.rw_wholeyard_k38_whole_rows_that_tell_their.Holds := by
  exact PL.end_of
